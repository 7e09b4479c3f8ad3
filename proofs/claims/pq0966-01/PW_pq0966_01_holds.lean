import PyProof.Rows.All
import Wide.All
import OpenK.AllK
import Wide.FinOn
import PySem.Challenge.RW_pq0966_01
set_option Elab.async false
set_option maxRecDepth 100000
set_option linter.all false
namespace Mine
open PySem PySem.W PySem.Calls PyProof.Rows
noncomputable abbrev hd.pg : Program := PySem.Challenge.rw_pq0966_01.row.toRowW.1
noncomputable def hd.view_39 : Program := view hd.pg [1, 2, 4, 5, 6, 8, 9, 10, 11, 12, 15, 16, 17, 19, 20, 22, 23, 24, 26, 27, 28, 29, 30, 31, 32, 33, 34, 35, 36, 37, 38, 39, 40]
noncomputable def hd.env_41 : Env := ⟨hd.pg.main.scope, mainNs, mainNs, [], Str.empty, none, .ref 13, some 14, 0⟩
/-- the i-th of some statements; what stands within a def or a class; a def's parameters and names -/
noncomputable def hd.nth (l : List Stmt) (i : Nat) : Stmt := l.getD i (.Pass ⟨0, 0, 0, 0⟩)
noncomputable def hd.inn : Stmt → List Stmt
  | .FunctionDef _ _ b _ _ _ _ _ _ _ => b
  | .ClassDef _ _ _ b _ _ _ _ _ _ _ => b
  | _ => []
noncomputable def hd.arg (d : Arguments) : Stmt → Arguments
  | .FunctionDef _ a _ _ _ _ _ _ _ _ => a
  | _ => d
noncomputable def hd.sco (d : Scope) : Stmt → Scope
  | .FunctionDef _ _ _ _ _ _ s _ _ _ => s
  | _ => d
noncomputable abbrev hd.bq_0 : { b : List Stmt // hd.inn (hd.nth (hd.inn (hd.nth hd.pg.main.body 1)) 0) = b } := ⟨_ :: _, rfl⟩
noncomputable abbrev hd.bd_0 : List Stmt := hd.bq_0.1
noncomputable abbrev hd.aq_0 : { a : Arguments // hd.arg ⟨[], [], none, [], [], none, []⟩ (hd.nth (hd.inn (hd.nth hd.pg.main.body 1)) 0) = a } := ⟨⟨_, _, _, _, _, _, _⟩, rfl⟩
noncomputable abbrev hd.ar_0 : Arguments := hd.aq_0.1
noncomputable abbrev hd.sq_0 : { c : Scope // hd.sco default (hd.nth (hd.inn (hd.nth hd.pg.main.body 1)) 0) = c } := ⟨⟨_, _, _, _, _⟩, rfl⟩
noncomputable abbrev hd.sc_0 : Scope := hd.sq_0.1
noncomputable abbrev hd.bq_1 : { b : List Stmt // hd.inn (hd.nth (hd.inn (hd.nth hd.pg.main.body 1)) 1) = b } := ⟨_ :: _, rfl⟩
noncomputable abbrev hd.bd_1 : List Stmt := hd.bq_1.1
noncomputable abbrev hd.aq_1 : { a : Arguments // hd.arg ⟨[], [], none, [], [], none, []⟩ (hd.nth (hd.inn (hd.nth hd.pg.main.body 1)) 1) = a } := ⟨⟨_, _, _, _, _, _, _⟩, rfl⟩
noncomputable abbrev hd.ar_1 : Arguments := hd.aq_1.1
noncomputable abbrev hd.sq_1 : { c : Scope // hd.sco default (hd.nth (hd.inn (hd.nth hd.pg.main.body 1)) 1) = c } := ⟨⟨_, _, _, _, _⟩, rfl⟩
noncomputable abbrev hd.sc_1 : Scope := hd.sq_1.1
noncomputable abbrev hd.bq_2 : { b : List Stmt // hd.inn (hd.nth hd.pg.main.body 5) = b } := ⟨_ :: _, rfl⟩
noncomputable abbrev hd.bd_2 : List Stmt := hd.bq_2.1
noncomputable abbrev hd.aq_2 : { a : Arguments // hd.arg ⟨[], [], none, [], [], none, []⟩ (hd.nth hd.pg.main.body 5) = a } := ⟨⟨_, _, _, _, _, _, _⟩, rfl⟩
noncomputable abbrev hd.ar_2 : Arguments := hd.aq_2.1
noncomputable abbrev hd.sq_2 : { c : Scope // hd.sco default (hd.nth hd.pg.main.body 5) = c } := ⟨⟨_, _, _, _, _⟩, rfl⟩
noncomputable abbrev hd.sc_2 : Scope := hd.sq_2.1
noncomputable abbrev hd.bq_3 : { b : List Stmt // hd.inn (hd.nth hd.pg.main.body 6) = b } := ⟨_ :: _, rfl⟩
noncomputable abbrev hd.bd_3 : List Stmt := hd.bq_3.1
noncomputable abbrev hd.aq_3 : { a : Arguments // hd.arg ⟨[], [], none, [], [], none, []⟩ (hd.nth hd.pg.main.body 6) = a } := ⟨⟨_, _, _, _, _, _, _⟩, rfl⟩
noncomputable abbrev hd.ar_3 : Arguments := hd.aq_3.1
noncomputable abbrev hd.sq_3 : { c : Scope // hd.sco default (hd.nth hd.pg.main.body 6) = c } := ⟨⟨_, _, _, _, _⟩, rfl⟩
noncomputable abbrev hd.sc_3 : Scope := hd.sq_3.1
noncomputable abbrev hd.bq_4 : { b : List Stmt // hd.inn (hd.nth (hd.inn (hd.nth hd.pg.main.body 9)) 0) = b } := ⟨_ :: _, rfl⟩
noncomputable abbrev hd.bd_4 : List Stmt := hd.bq_4.1
noncomputable abbrev hd.aq_4 : { a : Arguments // hd.arg ⟨[], [], none, [], [], none, []⟩ (hd.nth (hd.inn (hd.nth hd.pg.main.body 9)) 0) = a } := ⟨⟨_, _, _, _, _, _, _⟩, rfl⟩
noncomputable abbrev hd.ar_4 : Arguments := hd.aq_4.1
noncomputable abbrev hd.sq_4 : { c : Scope // hd.sco default (hd.nth (hd.inn (hd.nth hd.pg.main.body 9)) 0) = c } := ⟨⟨_, _, _, _, _⟩, rfl⟩
noncomputable abbrev hd.sc_4 : Scope := hd.sq_4.1
noncomputable abbrev hd.bq_5 : { b : List Stmt // hd.inn (hd.nth (hd.inn (hd.nth hd.pg.main.body 9)) 1) = b } := ⟨_ :: _, rfl⟩
noncomputable abbrev hd.bd_5 : List Stmt := hd.bq_5.1
noncomputable abbrev hd.aq_5 : { a : Arguments // hd.arg ⟨[], [], none, [], [], none, []⟩ (hd.nth (hd.inn (hd.nth hd.pg.main.body 9)) 1) = a } := ⟨⟨_, _, _, _, _, _, _⟩, rfl⟩
noncomputable abbrev hd.ar_5 : Arguments := hd.aq_5.1
noncomputable abbrev hd.sq_5 : { c : Scope // hd.sco default (hd.nth (hd.inn (hd.nth hd.pg.main.body 9)) 1) = c } := ⟨⟨_, _, _, _, _⟩, rfl⟩
noncomputable abbrev hd.sc_5 : Scope := hd.sq_5.1
noncomputable abbrev hd.bq_6 : { b : List Stmt // hd.inn (hd.nth (hd.inn (hd.nth hd.pg.main.body 9)) 2) = b } := ⟨_ :: _, rfl⟩
noncomputable abbrev hd.bd_6 : List Stmt := hd.bq_6.1
noncomputable abbrev hd.aq_6 : { a : Arguments // hd.arg ⟨[], [], none, [], [], none, []⟩ (hd.nth (hd.inn (hd.nth hd.pg.main.body 9)) 2) = a } := ⟨⟨_, _, _, _, _, _, _⟩, rfl⟩
noncomputable abbrev hd.ar_6 : Arguments := hd.aq_6.1
noncomputable abbrev hd.sq_6 : { c : Scope // hd.sco default (hd.nth (hd.inn (hd.nth hd.pg.main.body 9)) 2) = c } := ⟨⟨_, _, _, _, _⟩, rfl⟩
noncomputable abbrev hd.sc_6 : Scope := hd.sq_6.1
noncomputable abbrev hd.bq_7 : { b : List Stmt // hd.inn (hd.nth hd.pg.main.body 10) = b } := ⟨_ :: _, rfl⟩
noncomputable abbrev hd.bd_7 : List Stmt := hd.bq_7.1
noncomputable abbrev hd.aq_7 : { a : Arguments // hd.arg ⟨[], [], none, [], [], none, []⟩ (hd.nth hd.pg.main.body 10) = a } := ⟨⟨_, _, _, _, _, _, _⟩, rfl⟩
noncomputable abbrev hd.ar_7 : Arguments := hd.aq_7.1
noncomputable abbrev hd.sq_7 : { c : Scope // hd.sco default (hd.nth hd.pg.main.body 10) = c } := ⟨⟨_, _, _, _, _⟩, rfl⟩
noncomputable abbrev hd.sc_7 : Scope := hd.sq_7.1
noncomputable abbrev hd.bq_8 : { b : List Stmt // hd.inn (hd.nth hd.pg.main.body 11) = b } := ⟨_ :: _, rfl⟩
noncomputable abbrev hd.bd_8 : List Stmt := hd.bq_8.1
noncomputable abbrev hd.aq_8 : { a : Arguments // hd.arg ⟨[], [], none, [], [], none, []⟩ (hd.nth hd.pg.main.body 11) = a } := ⟨⟨_, _, _, _, _, _, _⟩, rfl⟩
noncomputable abbrev hd.ar_8 : Arguments := hd.aq_8.1
noncomputable abbrev hd.sq_8 : { c : Scope // hd.sco default (hd.nth hd.pg.main.body 11) = c } := ⟨⟨_, _, _, _, _⟩, rfl⟩
noncomputable abbrev hd.sc_8 : Scope := hd.sq_8.1
noncomputable abbrev hd.bq_9 : { b : List Stmt // hd.inn (hd.nth hd.pg.main.body 12) = b } := ⟨_ :: _, rfl⟩
noncomputable abbrev hd.bd_9 : List Stmt := hd.bq_9.1
noncomputable abbrev hd.aq_9 : { a : Arguments // hd.arg ⟨[], [], none, [], [], none, []⟩ (hd.nth hd.pg.main.body 12) = a } := ⟨⟨_, _, _, _, _, _, _⟩, rfl⟩
noncomputable abbrev hd.ar_9 : Arguments := hd.aq_9.1
noncomputable abbrev hd.sq_9 : { c : Scope // hd.sco default (hd.nth hd.pg.main.body 12) = c } := ⟨⟨_, _, _, _, _⟩, rfl⟩
noncomputable abbrev hd.sc_9 : Scope := hd.sq_9.1
noncomputable abbrev hd.bq_10 : { b : List Stmt // hd.inn (hd.nth hd.pg.main.body 13) = b } := ⟨_ :: _, rfl⟩
noncomputable abbrev hd.bd_10 : List Stmt := hd.bq_10.1
noncomputable abbrev hd.aq_10 : { a : Arguments // hd.arg ⟨[], [], none, [], [], none, []⟩ (hd.nth hd.pg.main.body 13) = a } := ⟨⟨_, _, _, _, _, _, _⟩, rfl⟩
noncomputable abbrev hd.ar_10 : Arguments := hd.aq_10.1
noncomputable abbrev hd.sq_10 : { c : Scope // hd.sco default (hd.nth hd.pg.main.body 13) = c } := ⟨⟨_, _, _, _, _⟩, rfl⟩
noncomputable abbrev hd.sc_10 : Scope := hd.sq_10.1
noncomputable abbrev hd.bq_11 : { b : List Stmt // hd.inn (hd.nth hd.pg.main.body 14) = b } := ⟨_ :: _, rfl⟩
noncomputable abbrev hd.bd_11 : List Stmt := hd.bq_11.1
noncomputable abbrev hd.aq_11 : { a : Arguments // hd.arg ⟨[], [], none, [], [], none, []⟩ (hd.nth hd.pg.main.body 14) = a } := ⟨⟨_, _, _, _, _, _, _⟩, rfl⟩
noncomputable abbrev hd.ar_11 : Arguments := hd.aq_11.1
noncomputable abbrev hd.sq_11 : { c : Scope // hd.sco default (hd.nth hd.pg.main.body 14) = c } := ⟨⟨_, _, _, _, _⟩, rfl⟩
noncomputable abbrev hd.sc_11 : Scope := hd.sq_11.1
noncomputable abbrev hd.bq_12 : { b : List Stmt // hd.inn (hd.nth hd.pg.main.body 15) = b } := ⟨_ :: _, rfl⟩
noncomputable abbrev hd.bd_12 : List Stmt := hd.bq_12.1
noncomputable abbrev hd.aq_12 : { a : Arguments // hd.arg ⟨[], [], none, [], [], none, []⟩ (hd.nth hd.pg.main.body 15) = a } := ⟨⟨_, _, _, _, _, _, _⟩, rfl⟩
noncomputable abbrev hd.ar_12 : Arguments := hd.aq_12.1
noncomputable abbrev hd.sq_12 : { c : Scope // hd.sco default (hd.nth hd.pg.main.body 15) = c } := ⟨⟨_, _, _, _, _⟩, rfl⟩
noncomputable abbrev hd.sc_12 : Scope := hd.sq_12.1
noncomputable abbrev hd.bq_13 : { b : List Stmt // hd.inn (hd.nth hd.pg.main.body 16) = b } := ⟨_ :: _, rfl⟩
noncomputable abbrev hd.bd_13 : List Stmt := hd.bq_13.1
noncomputable abbrev hd.aq_13 : { a : Arguments // hd.arg ⟨[], [], none, [], [], none, []⟩ (hd.nth hd.pg.main.body 16) = a } := ⟨⟨_, _, _, _, _, _, _⟩, rfl⟩
noncomputable abbrev hd.ar_13 : Arguments := hd.aq_13.1
noncomputable abbrev hd.sq_13 : { c : Scope // hd.sco default (hd.nth hd.pg.main.body 16) = c } := ⟨⟨_, _, _, _, _⟩, rfl⟩
noncomputable abbrev hd.sc_13 : Scope := hd.sq_13.1
noncomputable abbrev hd.bq_14 : { b : List Stmt // hd.inn (hd.nth hd.pg.main.body 17) = b } := ⟨_ :: _, rfl⟩
noncomputable abbrev hd.bd_14 : List Stmt := hd.bq_14.1
noncomputable abbrev hd.aq_14 : { a : Arguments // hd.arg ⟨[], [], none, [], [], none, []⟩ (hd.nth hd.pg.main.body 17) = a } := ⟨⟨_, _, _, _, _, _, _⟩, rfl⟩
noncomputable abbrev hd.ar_14 : Arguments := hd.aq_14.1
noncomputable abbrev hd.sq_14 : { c : Scope // hd.sco default (hd.nth hd.pg.main.body 17) = c } := ⟨⟨_, _, _, _, _⟩, rfl⟩
noncomputable abbrev hd.sc_14 : Scope := hd.sq_14.1
noncomputable abbrev hd.bq_15 : { b : List Stmt // hd.inn (hd.nth hd.pg.main.body 18) = b } := ⟨_ :: _, rfl⟩
noncomputable abbrev hd.bd_15 : List Stmt := hd.bq_15.1
noncomputable abbrev hd.aq_15 : { a : Arguments // hd.arg ⟨[], [], none, [], [], none, []⟩ (hd.nth hd.pg.main.body 18) = a } := ⟨⟨_, _, _, _, _, _, _⟩, rfl⟩
noncomputable abbrev hd.ar_15 : Arguments := hd.aq_15.1
noncomputable abbrev hd.sq_15 : { c : Scope // hd.sco default (hd.nth hd.pg.main.body 18) = c } := ⟨⟨_, _, _, _, _⟩, rfl⟩
noncomputable abbrev hd.sc_15 : Scope := hd.sq_15.1
noncomputable abbrev hd.bq_16 : { b : List Stmt // hd.inn (hd.nth hd.pg.main.body 19) = b } := ⟨_ :: _, rfl⟩
noncomputable abbrev hd.bd_16 : List Stmt := hd.bq_16.1
noncomputable abbrev hd.aq_16 : { a : Arguments // hd.arg ⟨[], [], none, [], [], none, []⟩ (hd.nth hd.pg.main.body 19) = a } := ⟨⟨_, _, _, _, _, _, _⟩, rfl⟩
noncomputable abbrev hd.ar_16 : Arguments := hd.aq_16.1
noncomputable abbrev hd.sq_16 : { c : Scope // hd.sco default (hd.nth hd.pg.main.body 19) = c } := ⟨⟨_, _, _, _, _⟩, rfl⟩
noncomputable abbrev hd.sc_16 : Scope := hd.sq_16.1
noncomputable abbrev hd.bq_17 : { b : List Stmt // hd.inn (hd.nth hd.pg.main.body 20) = b } := ⟨_ :: _, rfl⟩
noncomputable abbrev hd.bd_17 : List Stmt := hd.bq_17.1
noncomputable abbrev hd.aq_17 : { a : Arguments // hd.arg ⟨[], [], none, [], [], none, []⟩ (hd.nth hd.pg.main.body 20) = a } := ⟨⟨_, _, _, _, _, _, _⟩, rfl⟩
noncomputable abbrev hd.ar_17 : Arguments := hd.aq_17.1
noncomputable abbrev hd.sq_17 : { c : Scope // hd.sco default (hd.nth hd.pg.main.body 20) = c } := ⟨⟨_, _, _, _, _⟩, rfl⟩
noncomputable abbrev hd.sc_17 : Scope := hd.sq_17.1
noncomputable abbrev hd.bq_18 : { b : List Stmt // hd.inn (hd.nth hd.pg.main.body 21) = b } := ⟨_ :: _, rfl⟩
noncomputable abbrev hd.bd_18 : List Stmt := hd.bq_18.1
noncomputable abbrev hd.aq_18 : { a : Arguments // hd.arg ⟨[], [], none, [], [], none, []⟩ (hd.nth hd.pg.main.body 21) = a } := ⟨⟨_, _, _, _, _, _, _⟩, rfl⟩
noncomputable abbrev hd.ar_18 : Arguments := hd.aq_18.1
noncomputable abbrev hd.sq_18 : { c : Scope // hd.sco default (hd.nth hd.pg.main.body 21) = c } := ⟨⟨_, _, _, _, _⟩, rfl⟩
noncomputable abbrev hd.sc_18 : Scope := hd.sq_18.1
noncomputable abbrev hd.bq_19 : { b : List Stmt // hd.inn (hd.nth hd.pg.main.body 22) = b } := ⟨_ :: _, rfl⟩
noncomputable abbrev hd.bd_19 : List Stmt := hd.bq_19.1
noncomputable abbrev hd.aq_19 : { a : Arguments // hd.arg ⟨[], [], none, [], [], none, []⟩ (hd.nth hd.pg.main.body 22) = a } := ⟨⟨_, _, _, _, _, _, _⟩, rfl⟩
noncomputable abbrev hd.ar_19 : Arguments := hd.aq_19.1
noncomputable abbrev hd.sq_19 : { c : Scope // hd.sco default (hd.nth hd.pg.main.body 22) = c } := ⟨⟨_, _, _, _, _⟩, rfl⟩
noncomputable abbrev hd.sc_19 : Scope := hd.sq_19.1
noncomputable abbrev hd.bq_20 : { b : List Stmt // hd.inn (hd.nth hd.pg.main.body 23) = b } := ⟨_ :: _, rfl⟩
noncomputable abbrev hd.bd_20 : List Stmt := hd.bq_20.1
noncomputable abbrev hd.aq_20 : { a : Arguments // hd.arg ⟨[], [], none, [], [], none, []⟩ (hd.nth hd.pg.main.body 23) = a } := ⟨⟨_, _, _, _, _, _, _⟩, rfl⟩
noncomputable abbrev hd.ar_20 : Arguments := hd.aq_20.1
noncomputable abbrev hd.sq_20 : { c : Scope // hd.sco default (hd.nth hd.pg.main.body 23) = c } := ⟨⟨_, _, _, _, _⟩, rfl⟩
noncomputable abbrev hd.sc_20 : Scope := hd.sq_20.1
noncomputable abbrev hd.bq_21 : { b : List Stmt // hd.inn (hd.nth hd.pg.main.body 24) = b } := ⟨_ :: _, rfl⟩
noncomputable abbrev hd.bd_21 : List Stmt := hd.bq_21.1
noncomputable abbrev hd.aq_21 : { a : Arguments // hd.arg ⟨[], [], none, [], [], none, []⟩ (hd.nth hd.pg.main.body 24) = a } := ⟨⟨_, _, _, _, _, _, _⟩, rfl⟩
noncomputable abbrev hd.ar_21 : Arguments := hd.aq_21.1
noncomputable abbrev hd.sq_21 : { c : Scope // hd.sco default (hd.nth hd.pg.main.body 24) = c } := ⟨⟨_, _, _, _, _⟩, rfl⟩
noncomputable abbrev hd.sc_21 : Scope := hd.sq_21.1
noncomputable abbrev hd.bq_22 : { b : List Stmt // hd.inn (hd.nth hd.pg.main.body 27) = b } := ⟨_ :: _, rfl⟩
noncomputable abbrev hd.bd_22 : List Stmt := hd.bq_22.1
noncomputable abbrev hd.aq_22 : { a : Arguments // hd.arg ⟨[], [], none, [], [], none, []⟩ (hd.nth hd.pg.main.body 27) = a } := ⟨⟨_, _, _, _, _, _, _⟩, rfl⟩
noncomputable abbrev hd.ar_22 : Arguments := hd.aq_22.1
noncomputable abbrev hd.sq_22 : { c : Scope // hd.sco default (hd.nth hd.pg.main.body 27) = c } := ⟨⟨_, _, _, _, _⟩, rfl⟩
noncomputable abbrev hd.sc_22 : Scope := hd.sq_22.1
noncomputable abbrev hd.bq_23 : { b : List Stmt // hd.inn (hd.nth hd.pg.main.body 28) = b } := ⟨_ :: _, rfl⟩
noncomputable abbrev hd.bd_23 : List Stmt := hd.bq_23.1
noncomputable abbrev hd.aq_23 : { a : Arguments // hd.arg ⟨[], [], none, [], [], none, []⟩ (hd.nth hd.pg.main.body 28) = a } := ⟨⟨_, _, _, _, _, _, _⟩, rfl⟩
noncomputable abbrev hd.ar_23 : Arguments := hd.aq_23.1
noncomputable abbrev hd.sq_23 : { c : Scope // hd.sco default (hd.nth hd.pg.main.body 28) = c } := ⟨⟨_, _, _, _, _⟩, rfl⟩
noncomputable abbrev hd.sc_23 : Scope := hd.sq_23.1
noncomputable abbrev hd.bq_24 : { b : List Stmt // hd.inn (hd.nth hd.pg.main.body 29) = b } := ⟨_ :: _, rfl⟩
noncomputable abbrev hd.bd_24 : List Stmt := hd.bq_24.1
noncomputable abbrev hd.aq_24 : { a : Arguments // hd.arg ⟨[], [], none, [], [], none, []⟩ (hd.nth hd.pg.main.body 29) = a } := ⟨⟨_, _, _, _, _, _, _⟩, rfl⟩
noncomputable abbrev hd.ar_24 : Arguments := hd.aq_24.1
noncomputable abbrev hd.sq_24 : { c : Scope // hd.sco default (hd.nth hd.pg.main.body 29) = c } := ⟨⟨_, _, _, _, _⟩, rfl⟩
noncomputable abbrev hd.sc_24 : Scope := hd.sq_24.1
noncomputable abbrev hd.bq_25 : { b : List Stmt // hd.inn (hd.nth hd.pg.main.body 30) = b } := ⟨_ :: _, rfl⟩
noncomputable abbrev hd.bd_25 : List Stmt := hd.bq_25.1
noncomputable abbrev hd.aq_25 : { a : Arguments // hd.arg ⟨[], [], none, [], [], none, []⟩ (hd.nth hd.pg.main.body 30) = a } := ⟨⟨_, _, _, _, _, _, _⟩, rfl⟩
noncomputable abbrev hd.ar_25 : Arguments := hd.aq_25.1
noncomputable abbrev hd.sq_25 : { c : Scope // hd.sco default (hd.nth hd.pg.main.body 30) = c } := ⟨⟨_, _, _, _, _⟩, rfl⟩
noncomputable abbrev hd.sc_25 : Scope := hd.sq_25.1
noncomputable abbrev hd.bq_26 : { b : List Stmt // hd.inn (hd.nth hd.pg.main.body 31) = b } := ⟨_ :: _, rfl⟩
noncomputable abbrev hd.bd_26 : List Stmt := hd.bq_26.1
noncomputable abbrev hd.aq_26 : { a : Arguments // hd.arg ⟨[], [], none, [], [], none, []⟩ (hd.nth hd.pg.main.body 31) = a } := ⟨⟨_, _, _, _, _, _, _⟩, rfl⟩
noncomputable abbrev hd.ar_26 : Arguments := hd.aq_26.1
noncomputable abbrev hd.sq_26 : { c : Scope // hd.sco default (hd.nth hd.pg.main.body 31) = c } := ⟨⟨_, _, _, _, _⟩, rfl⟩
noncomputable abbrev hd.sc_26 : Scope := hd.sq_26.1
noncomputable abbrev hd.bq_27 : { b : List Stmt // hd.inn (hd.nth hd.pg.main.body 32) = b } := ⟨_ :: _, rfl⟩
noncomputable abbrev hd.bd_27 : List Stmt := hd.bq_27.1
noncomputable abbrev hd.aq_27 : { a : Arguments // hd.arg ⟨[], [], none, [], [], none, []⟩ (hd.nth hd.pg.main.body 32) = a } := ⟨⟨_, _, _, _, _, _, _⟩, rfl⟩
noncomputable abbrev hd.ar_27 : Arguments := hd.aq_27.1
noncomputable abbrev hd.sq_27 : { c : Scope // hd.sco default (hd.nth hd.pg.main.body 32) = c } := ⟨⟨_, _, _, _, _⟩, rfl⟩
noncomputable abbrev hd.sc_27 : Scope := hd.sq_27.1
noncomputable abbrev hd.bq_28 : { b : List Stmt // hd.inn (hd.nth hd.pg.main.body 33) = b } := ⟨_ :: _, rfl⟩
noncomputable abbrev hd.bd_28 : List Stmt := hd.bq_28.1
noncomputable abbrev hd.aq_28 : { a : Arguments // hd.arg ⟨[], [], none, [], [], none, []⟩ (hd.nth hd.pg.main.body 33) = a } := ⟨⟨_, _, _, _, _, _, _⟩, rfl⟩
noncomputable abbrev hd.ar_28 : Arguments := hd.aq_28.1
noncomputable abbrev hd.sq_28 : { c : Scope // hd.sco default (hd.nth hd.pg.main.body 33) = c } := ⟨⟨_, _, _, _, _⟩, rfl⟩
noncomputable abbrev hd.sc_28 : Scope := hd.sq_28.1
noncomputable abbrev hd.bq_29 : { b : List Stmt // hd.inn (hd.nth hd.pg.main.body 34) = b } := ⟨_ :: _, rfl⟩
noncomputable abbrev hd.bd_29 : List Stmt := hd.bq_29.1
noncomputable abbrev hd.aq_29 : { a : Arguments // hd.arg ⟨[], [], none, [], [], none, []⟩ (hd.nth hd.pg.main.body 34) = a } := ⟨⟨_, _, _, _, _, _, _⟩, rfl⟩
noncomputable abbrev hd.ar_29 : Arguments := hd.aq_29.1
noncomputable abbrev hd.sq_29 : { c : Scope // hd.sco default (hd.nth hd.pg.main.body 34) = c } := ⟨⟨_, _, _, _, _⟩, rfl⟩
noncomputable abbrev hd.sc_29 : Scope := hd.sq_29.1
noncomputable abbrev hd.bq_30 : { b : List Stmt // hd.inn (hd.nth hd.pg.main.body 35) = b } := ⟨_ :: _, rfl⟩
noncomputable abbrev hd.bd_30 : List Stmt := hd.bq_30.1
noncomputable abbrev hd.aq_30 : { a : Arguments // hd.arg ⟨[], [], none, [], [], none, []⟩ (hd.nth hd.pg.main.body 35) = a } := ⟨⟨_, _, _, _, _, _, _⟩, rfl⟩
noncomputable abbrev hd.ar_30 : Arguments := hd.aq_30.1
noncomputable abbrev hd.sq_30 : { c : Scope // hd.sco default (hd.nth hd.pg.main.body 35) = c } := ⟨⟨_, _, _, _, _⟩, rfl⟩
noncomputable abbrev hd.sc_30 : Scope := hd.sq_30.1
noncomputable abbrev hd.bq_31 : { b : List Stmt // hd.inn (hd.nth hd.pg.main.body 36) = b } := ⟨_ :: _, rfl⟩
noncomputable abbrev hd.bd_31 : List Stmt := hd.bq_31.1
noncomputable abbrev hd.aq_31 : { a : Arguments // hd.arg ⟨[], [], none, [], [], none, []⟩ (hd.nth hd.pg.main.body 36) = a } := ⟨⟨_, _, _, _, _, _, _⟩, rfl⟩
noncomputable abbrev hd.ar_31 : Arguments := hd.aq_31.1
noncomputable abbrev hd.sq_31 : { c : Scope // hd.sco default (hd.nth hd.pg.main.body 36) = c } := ⟨⟨_, _, _, _, _⟩, rfl⟩
noncomputable abbrev hd.sc_31 : Scope := hd.sq_31.1
noncomputable abbrev hd.bq_32 : { b : List Stmt // hd.inn (hd.nth hd.pg.main.body 37) = b } := ⟨_ :: _, rfl⟩
noncomputable abbrev hd.bd_32 : List Stmt := hd.bq_32.1
noncomputable abbrev hd.aq_32 : { a : Arguments // hd.arg ⟨[], [], none, [], [], none, []⟩ (hd.nth hd.pg.main.body 37) = a } := ⟨⟨_, _, _, _, _, _, _⟩, rfl⟩
noncomputable abbrev hd.ar_32 : Arguments := hd.aq_32.1
noncomputable abbrev hd.sq_32 : { c : Scope // hd.sco default (hd.nth hd.pg.main.body 37) = c } := ⟨⟨_, _, _, _, _⟩, rfl⟩
noncomputable abbrev hd.sc_32 : Scope := hd.sq_32.1
noncomputable abbrev hd.bq_33 : { b : List Stmt // hd.inn (hd.nth hd.pg.main.body 38) = b } := ⟨_ :: _, rfl⟩
noncomputable abbrev hd.bd_33 : List Stmt := hd.bq_33.1
noncomputable abbrev hd.aq_33 : { a : Arguments // hd.arg ⟨[], [], none, [], [], none, []⟩ (hd.nth hd.pg.main.body 38) = a } := ⟨⟨_, _, _, _, _, _, _⟩, rfl⟩
noncomputable abbrev hd.ar_33 : Arguments := hd.aq_33.1
noncomputable abbrev hd.sq_33 : { c : Scope // hd.sco default (hd.nth hd.pg.main.body 38) = c } := ⟨⟨_, _, _, _, _⟩, rfl⟩
noncomputable abbrev hd.sc_33 : Scope := hd.sq_33.1
noncomputable abbrev hd.bq_34 : { b : List Stmt // hd.inn (hd.nth hd.pg.main.body 39) = b } := ⟨_ :: _, rfl⟩
noncomputable abbrev hd.bd_34 : List Stmt := hd.bq_34.1
noncomputable abbrev hd.aq_34 : { a : Arguments // hd.arg ⟨[], [], none, [], [], none, []⟩ (hd.nth hd.pg.main.body 39) = a } := ⟨⟨_, _, _, _, _, _, _⟩, rfl⟩
noncomputable abbrev hd.ar_34 : Arguments := hd.aq_34.1
noncomputable abbrev hd.sq_34 : { c : Scope // hd.sco default (hd.nth hd.pg.main.body 39) = c } := ⟨⟨_, _, _, _, _⟩, rfl⟩
noncomputable abbrev hd.sc_34 : Scope := hd.sq_34.1
noncomputable abbrev hd.bq_35 : { b : List Stmt // hd.inn (hd.nth hd.pg.main.body 40) = b } := ⟨_ :: _, rfl⟩
noncomputable abbrev hd.bd_35 : List Stmt := hd.bq_35.1
noncomputable abbrev hd.aq_35 : { a : Arguments // hd.arg ⟨[], [], none, [], [], none, []⟩ (hd.nth hd.pg.main.body 40) = a } := ⟨⟨_, _, _, _, _, _, _⟩, rfl⟩
noncomputable abbrev hd.ar_35 : Arguments := hd.aq_35.1
noncomputable abbrev hd.sq_35 : { c : Scope // hd.sco default (hd.nth hd.pg.main.body 40) = c } := ⟨⟨_, _, _, _, _⟩, rfl⟩
noncomputable abbrev hd.sc_35 : Scope := hd.sq_35.1
noncomputable def hd.o_43 : Params → Obj := fun P => ⟨.type "tuple", none, .seq (⟨[]⟩) 0, ⟨[]⟩⟩
noncomputable def hd.o_44 : Params → Obj := fun P => ⟨.none, none, .fields (⟨[]⟩), ⟨[]⟩⟩
noncomputable def hd.o_45 : Params → Obj := fun P => ⟨.type "code", none, .fields (⟨[.str "<module>" 182, .str "<module>" 183, .str "/claim/cut.py" 184, .int 1 0, .int 0 0, .int 0 0, .int 0 0, .int 0 0, .ref 11, .bool false, .int 181 0, .ref 12, .none, .none, .none, .none, .int 185 0, .int 1 0, .str "/claim/cut.py" 186]⟩), ⟨[]⟩⟩
noncomputable def hd.o_46 : Params → Obj := fun P => ⟨.type "frame", none, .plain, ⟨[some (.ref 13), some (.ref 3), some (.ref 3), none, some (.str "__main__" 164), none, some (.ref 0)]⟩⟩
noncomputable def hd.o_49 : Params → Obj := fun P => ⟨.none, none, .dict (⟨[⟨PyData.keyHash P "type.__subclasses__.Exception.0", .str "type.__subclasses__.Exception.0" 225, .int 39 0⟩, ⟨PyData.keyHash P "type.__subclasses__.Exception.n", .str "type.__subclasses__.Exception.n" 226, .int 1 0⟩]⟩) 2, ⟨[]⟩⟩
noncomputable def hd.o_50 : Params → Obj := fun P => ⟨.type "dict", none, .dict (⟨[⟨PyData.keyHash P "__name__", .str "__name__" 165, .str "postkeep.errors" 187⟩, ⟨PyData.keyHash P "__doc__", .str "__doc__" 166, .none⟩, ⟨PyData.keyHash P "__package__", .str "__package__" 167, .none⟩, ⟨PyData.keyHash P "__loader__", .str "__loader__" 168, .builtin "__main__.__loader__#opaque"⟩, ⟨PyData.keyHash P "__spec__", .str "__spec__" 169, .none⟩, ⟨PyData.keyHash P "__annotations__", .str "__annotations__" 170, .ref 6⟩, ⟨PyData.keyHash P "__builtins__", .str "__builtins__" 171, .ref 4⟩, ⟨PyData.keyHash P "__file__", .str "__file__" 173, .str "/claim/cut.py" 172⟩, ⟨PyData.keyHash P "__cached__", .str "__cached__" 174, .none⟩, ⟨PyData.keyHash P "PostError", .str "PostError" 228, .ref 39⟩]⟩) 10, ⟨[]⟩⟩
noncomputable def hd.o_51 : Params → Obj := fun P => ⟨.none, none, .fields (⟨[.int 2 0, .int 0 0, .ref 20]⟩), ⟨[]⟩⟩
noncomputable def hd.o_52 : Params → Obj := fun P => ⟨.type "tuple", none, .seq (⟨[.type "Exception"]⟩) 0, ⟨[]⟩⟩
noncomputable def hd.o_53 : Params → Obj := fun P => ⟨.type "builtin_function_or_method", none, .fields (⟨[.builtin "type.__prepare__", .type "type"]⟩), ⟨[]⟩⟩
noncomputable def hd.o_54 : Params → Obj := fun P => ⟨.type "dict", none, .dict (⟨[⟨PyData.keyHash P "__module__", .str "__module__" 196, .str "postkeep.errors" 187⟩, ⟨PyData.keyHash P "__qualname__", .str "__qualname__" 198, .str "PostError" 197⟩, ⟨PyData.keyHash P "__firstlineno__", .str "__firstlineno__" 200, .int 2 199⟩, ⟨PyData.keyHash P "__init__", .str "__init__" 211, .ref 29⟩, ⟨PyData.keyHash P "told", .str "told" 218, .ref 36⟩, ⟨PyData.keyHash P "__static_attributes__", .str "__static_attributes__" 221, .ref 37⟩]⟩) 6, ⟨[]⟩⟩
noncomputable def hd.o_55 : Params → Obj := fun P => ⟨.type "tuple", none, .seq (⟨[]⟩) 0, ⟨[]⟩⟩
noncomputable def hd.o_56 : Params → Obj := fun P => ⟨.none, none, .fields (⟨[.int 4 0, .int 4 0, .ref 28, .int 9 0, .int 4 0, .ref 35]⟩), ⟨[]⟩⟩
noncomputable def hd.o_57 : Params → Obj := fun P => ⟨.type "code", none, .fields (⟨[.str "PostError" 191, .str "PostError" 192, .str "/claim/cut.py" 193, .int 2 0, .int 0 0, .int 0 0, .int 0 0, .int 0 0, .ref 18, .bool false, .int 181 0, .ref 19, .none, .none, .none, .none, .int 194 0, .int 2 0, .str "/claim/cut.py" 195]⟩), ⟨[]⟩⟩
noncomputable def hd.o_58 : Params → Obj := fun P => ⟨.type "frame", none, .plain, ⟨[some (.ref 20), some (.ref 3), some (.ref 17), none, some (.str "postkeep.errors" 187), none, some (.ref 0)]⟩⟩
noncomputable def hd.o_59 : Params → Obj := fun P => ⟨.type "tuple", none, .seq (⟨[.int (@Neg.neg Int Int.instNegInt 1) 202]⟩) 0, ⟨[]⟩⟩
noncomputable def hd.o_60 : Params → Obj := fun P => ⟨.type "tuple", none, .seq (⟨[]⟩) 0, ⟨[]⟩⟩
noncomputable def hd.o_61 : Params → Obj := fun P => ⟨.none, none, .fields (⟨[]⟩), ⟨[]⟩⟩
noncomputable def hd.o_62 : Params → Obj := fun P => ⟨.type "tuple", none, .seq (⟨[.str "self" 206, .str "what" 207, .str "at" 208]⟩) 0, ⟨[]⟩⟩
noncomputable def hd.o_63 : Params → Obj := fun P => ⟨.type "tuple", none, .seq (⟨[]⟩) 0, ⟨[]⟩⟩
noncomputable def hd.o_64 : Params → Obj := fun P => ⟨.none, none, .func ⟨"__init__", "PostError.__init__", hd.ar_0, .stmts hd.bd_0, hd.sc_0, 0, [], .none, .none, .none, .none, none, .none, .none, 0⟩, ⟨[]⟩⟩
noncomputable def hd.o_65 : Params → Obj := fun P => ⟨.type "code", none, .fields (⟨[.str "__init__" 203, .str "PostError.__init__" 204, .str "/claim/cut.py" 205, .int 4 0, .int 3 0, .int 0 0, .int 0 0, .int 3 0, .ref 23, .bool true, .int 181 0, .ref 24, .none, .ref 25, .ref 26, .ref 27, .int 209 0, .int 4 0, .str "/claim/cut.py" 210]⟩), ⟨[]⟩⟩
noncomputable def hd.o_66 : Params → Obj := fun P => ⟨.type "function", none, .func ⟨"__init__", "PostError.__init__", hd.ar_0, .stmts hd.bd_0, hd.sc_0, 3, [], .ref 22, .none, .none, .str "postkeep.errors" 187, none, .ref 28, .none, 0⟩, ⟨[]⟩⟩
noncomputable def hd.o_67 : Params → Obj := fun P => ⟨.type "tuple", none, .seq (⟨[]⟩) 0, ⟨[]⟩⟩
noncomputable def hd.o_68 : Params → Obj := fun P => ⟨.none, none, .fields (⟨[]⟩), ⟨[]⟩⟩
noncomputable def hd.o_69 : Params → Obj := fun P => ⟨.type "tuple", none, .seq (⟨[.str "self" 215]⟩) 0, ⟨[]⟩⟩
noncomputable def hd.o_70 : Params → Obj := fun P => ⟨.type "tuple", none, .seq (⟨[]⟩) 0, ⟨[]⟩⟩
noncomputable def hd.o_71 : Params → Obj := fun P => ⟨.none, none, .func ⟨"told", "PostError.told", hd.ar_1, .stmts hd.bd_1, hd.sc_1, 0, [], .none, .none, .none, .none, none, .none, .none, 0⟩, ⟨[]⟩⟩
noncomputable def hd.o_72 : Params → Obj := fun P => ⟨.type "code", none, .fields (⟨[.str "told" 212, .str "PostError.told" 213, .str "/claim/cut.py" 214, .int 9 0, .int 1 0, .int 0 0, .int 0 0, .int 3 0, .ref 30, .bool true, .int 181 0, .ref 31, .none, .ref 32, .ref 33, .ref 34, .int 216 0, .int 9 0, .str "/claim/cut.py" 217]⟩), ⟨[]⟩⟩
noncomputable def hd.o_73 : Params → Obj := fun P => ⟨.type "function", none, .func ⟨"told", "PostError.told", hd.ar_1, .stmts hd.bd_1, hd.sc_1, 3, [], .none, .none, .none, .str "postkeep.errors" 187, none, .ref 35, .none, 0⟩, ⟨[]⟩⟩
noncomputable def hd.o_74 : Params → Obj := fun P => ⟨.type "tuple", none, .seq (⟨[.str "at" 219, .str "what" 220]⟩) 0, ⟨[]⟩⟩
noncomputable def hd.o_75 : Params → Obj := fun P => ⟨.type "dict", none, .dict (⟨[⟨PyData.keyHash P "__module__", .str "__module__" 196, .str "postkeep.errors" 187⟩, ⟨PyData.keyHash P "__firstlineno__", .str "__firstlineno__" 200, .int 2 199⟩, ⟨PyData.keyHash P "__init__", .str "__init__" 211, .ref 29⟩, ⟨PyData.keyHash P "told", .str "told" 218, .ref 36⟩, ⟨PyData.keyHash P "__static_attributes__", .str "__static_attributes__" 221, .ref 37⟩, ⟨PyData.keyHash P "__weakref__", .str "__weakref__" 223, .ref 40⟩, ⟨PyData.keyHash P "__doc__", .str "__doc__" 224, .none⟩]⟩) 3, ⟨[]⟩⟩
noncomputable def hd.o_76 : Params → Obj := fun P => ⟨.type "type", none, .cls ⟨"PostError", [.type "Exception"], [.ref 39, .type "Exception", .type "BaseException", .type "object"], 38, "PostError", true, [], [], false, none, false⟩, ⟨[some (.ref 15), none, some (.str "PostError" 189), some (.str "PostError" 197), some (.builtin "Exception.__new__"), some (.bool true)]⟩⟩
noncomputable def hd.o_77 : Params → Obj := fun P => ⟨.type "getset_descriptor", none, .fields (⟨[.str "__weakref__" 222, .ref 39, .builtin "ExceptionGroup.__weakref__", .none]⟩), ⟨[]⟩⟩
noncomputable def hd.o_78 : Params → Obj := fun P => ⟨.type "super", none, .fields (⟨[.ref 39, .ref 39, .ref 39]⟩), ⟨[]⟩⟩
noncomputable def hd.o_79 : Params → Obj := fun P => ⟨.type "builtin_function_or_method", none, .fields (⟨[.builtin "object.__init_subclass__", .ref 39]⟩), ⟨[]⟩⟩
noncomputable def hd.o_80 : Params → Obj := fun P => ⟨.type "dict", none, .dict (⟨[⟨PyData.keyHash P "__name__", .str "__name__" 165, .str "postkeep.headers" 262⟩, ⟨PyData.keyHash P "__doc__", .str "__doc__" 166, .none⟩, ⟨PyData.keyHash P "__package__", .str "__package__" 167, .none⟩, ⟨PyData.keyHash P "__loader__", .str "__loader__" 168, .builtin "__main__.__loader__#opaque"⟩, ⟨PyData.keyHash P "__spec__", .str "__spec__" 169, .none⟩, ⟨PyData.keyHash P "__annotations__", .str "__annotations__" 170, .ref 6⟩, ⟨PyData.keyHash P "__builtins__", .str "__builtins__" 171, .ref 4⟩, ⟨PyData.keyHash P "__file__", .str "__file__" 173, .str "/claim/cut.py" 172⟩, ⟨PyData.keyHash P "__cached__", .str "__cached__" 174, .none⟩, ⟨PyData.keyHash P "PostError", .str "PostError" 228, .ref 39⟩, ⟨PyData.keyHash P "WordFault", .str "WordFault" 244, .ref 52⟩, ⟨PyData.keyHash P "CRLF", .str "CRLF" 248, .bytes (⟨[13, 10]⟩) 247⟩, ⟨PyData.keyHash P "lower_code", .str "lower_code" 255, .ref 61⟩, ⟨PyData.keyHash P "lower_text", .str "lower_text" 261, .ref 66⟩, ⟨PyData.keyHash P "WHITE", .str "WHITE" 266, .ref 67⟩]⟩) 15, ⟨[]⟩⟩
noncomputable def hd.o_81 : Params → Obj := fun P => ⟨.none, none, .fields (⟨[.int 2 0, .int 0 0, .ref 20, .int 11 0, .int 0 0, .ref 48, .int 15 0, .int 0 0, .ref 60, .int 17 0, .int 0 0, .ref 65]⟩), ⟨[]⟩⟩
noncomputable def hd.o_82 : Params → Obj := fun P => ⟨.type "type", none, .cls ⟨"PostError", [.type "Exception"], [.ref 39, .type "Exception", .type "BaseException", .type "object"], 38, "PostError", true, [], [.ref 52], false, none, false⟩, ⟨[some (.ref 15), none, some (.str "PostError" 189), some (.str "PostError" 197), some (.builtin "Exception.__new__"), some (.bool true)]⟩⟩
noncomputable def hd.o_83 : Params → Obj := fun P => ⟨.type "tuple", none, .seq (⟨[.ref 39]⟩) 0, ⟨[]⟩⟩
noncomputable def hd.o_84 : Params → Obj := fun P => ⟨.type "builtin_function_or_method", none, .fields (⟨[.builtin "type.__prepare__", .type "type"]⟩), ⟨[]⟩⟩
noncomputable def hd.o_85 : Params → Obj := fun P => ⟨.type "dict", none, .dict (⟨[⟨PyData.keyHash P "__module__", .str "__module__" 236, .str "postkeep.errors" 187⟩, ⟨PyData.keyHash P "__qualname__", .str "__qualname__" 238, .str "WordFault" 237⟩, ⟨PyData.keyHash P "__firstlineno__", .str "__firstlineno__" 240, .int 11 239⟩, ⟨PyData.keyHash P "__static_attributes__", .str "__static_attributes__" 241, .ref 50⟩]⟩) 4, ⟨[]⟩⟩
noncomputable def hd.o_86 : Params → Obj := fun P => ⟨.type "tuple", none, .seq (⟨[]⟩) 0, ⟨[]⟩⟩
noncomputable def hd.o_87 : Params → Obj := fun P => ⟨.none, none, .fields (⟨[]⟩), ⟨[]⟩⟩
noncomputable def hd.o_88 : Params → Obj := fun P => ⟨.type "code", none, .fields (⟨[.str "WordFault" 231, .str "WordFault" 232, .str "/claim/cut.py" 233, .int 11 0, .int 0 0, .int 0 0, .int 0 0, .int 0 0, .ref 46, .bool false, .int 181 0, .ref 47, .none, .none, .none, .none, .int 234 0, .int 11 0, .str "/claim/cut.py" 235]⟩), ⟨[]⟩⟩
noncomputable def hd.o_89 : Params → Obj := fun P => ⟨.type "frame", none, .plain, ⟨[some (.ref 48), some (.ref 3), some (.ref 45), none, some (.str "postkeep.errors" 187), none, some (.ref 0)]⟩⟩
noncomputable def hd.o_90 : Params → Obj := fun P => ⟨.type "tuple", none, .seq (⟨[]⟩) 0, ⟨[]⟩⟩
noncomputable def hd.o_91 : Params → Obj := fun P => ⟨.type "dict", none, .dict (⟨[⟨PyData.keyHash P "__module__", .str "__module__" 236, .str "postkeep.errors" 187⟩, ⟨PyData.keyHash P "__firstlineno__", .str "__firstlineno__" 240, .int 11 239⟩, ⟨PyData.keyHash P "__static_attributes__", .str "__static_attributes__" 241, .ref 50⟩, ⟨PyData.keyHash P "__doc__", .str "__doc__" 242, .none⟩]⟩) 2, ⟨[]⟩⟩
noncomputable def hd.o_92 : Params → Obj := fun P => ⟨.type "type", none, .cls ⟨"WordFault", [.ref 39], [.ref 52, .ref 39, .type "Exception", .type "BaseException", .type "object"], 51, "WordFault", true, [], [], false, none, false⟩, ⟨[some (.ref 43), none, some (.str "WordFault" 229), some (.str "WordFault" 237), some (.builtin "Exception.__new__"), some (.bool true)]⟩⟩
noncomputable def hd.o_93 : Params → Obj := fun P => ⟨.type "super", none, .fields (⟨[.ref 52, .ref 52, .ref 52]⟩), ⟨[]⟩⟩
noncomputable def hd.o_94 : Params → Obj := fun P => ⟨.type "builtin_function_or_method", none, .fields (⟨[.builtin "object.__init_subclass__", .ref 52]⟩), ⟨[]⟩⟩
noncomputable def hd.o_95 : Params → Obj := fun P => ⟨.type "tuple", none, .seq (⟨[]⟩) 0, ⟨[]⟩⟩
noncomputable def hd.o_96 : Params → Obj := fun P => ⟨.none, none, .fields (⟨[]⟩), ⟨[]⟩⟩
noncomputable def hd.o_97 : Params → Obj := fun P => ⟨.type "tuple", none, .seq (⟨[.str "code" 252]⟩) 0, ⟨[]⟩⟩
noncomputable def hd.o_98 : Params → Obj := fun P => ⟨.type "tuple", none, .seq (⟨[]⟩) 0, ⟨[]⟩⟩
noncomputable def hd.o_99 : Params → Obj := fun P => ⟨.none, none, .func ⟨"lower_code", "lower_code", hd.ar_2, .stmts hd.bd_2, hd.sc_2, 0, [], .none, .none, .none, .none, none, .none, .none, 0⟩, ⟨[]⟩⟩
noncomputable def hd.o_100 : Params → Obj := fun P => ⟨.type "code", none, .fields (⟨[.str "lower_code" 249, .str "lower_code" 250, .str "/claim/cut.py" 251, .int 15 0, .int 1 0, .int 0 0, .int 0 0, .int 3 0, .ref 55, .bool true, .int 181 0, .ref 56, .none, .ref 57, .ref 58, .ref 59, .int 253 0, .int 15 0, .str "/claim/cut.py" 254]⟩), ⟨[]⟩⟩
noncomputable def hd.o_101 : Params → Obj := fun P => ⟨.type "function", none, .func ⟨"lower_code", "lower_code", hd.ar_2, .stmts hd.bd_2, hd.sc_2, 3, [], .none, .none, .none, .str "postkeep.octets" 245, none, .ref 60, .none, 0⟩, ⟨[]⟩⟩
noncomputable def hd.o_102 : Params → Obj := fun P => ⟨.type "tuple", none, .seq (⟨[]⟩) 0, ⟨[]⟩⟩
noncomputable def hd.o_103 : Params → Obj := fun P => ⟨.none, none, .fields (⟨[]⟩), ⟨[]⟩⟩
noncomputable def hd.o_104 : Params → Obj := fun P => ⟨.none, none, .func ⟨"lower_text", "lower_text", hd.ar_3, .stmts hd.bd_3, hd.sc_3, 0, [], .none, .none, .none, .none, none, .none, .none, 0⟩, ⟨[]⟩⟩
noncomputable def hd.o_105 : Params → Obj := fun P => ⟨.type "code", none, .fields (⟨[.str "lower_text" 256, .str "lower_text" 257, .str "/claim/cut.py" 258, .int 17 0, .int 1 0, .int 0 0, .int 0 0, .int 3 0, .ref 62, .bool true, .int 181 0, .ref 63, .none, .none, .none, .ref 64, .int 259 0, .int 17 0, .str "/claim/cut.py" 260]⟩), ⟨[]⟩⟩
noncomputable def hd.o_106 : Params → Obj := fun P => ⟨.type "function", none, .func ⟨"lower_text", "lower_text", hd.ar_3, .stmts hd.bd_3, hd.sc_3, 3, [], .none, .none, .none, .str "postkeep.octets" 245, none, .ref 65, .none, 0⟩, ⟨[]⟩⟩
noncomputable def hd.o_107 : Params → Obj := fun P => ⟨.type "tuple", none, .seq (⟨[.int 32 264, .int 9 265]⟩) 0, ⟨[]⟩⟩
noncomputable def hd.o_108 : Params → Obj := fun P => ⟨.type "dict", none, .dict (⟨[⟨PyData.keyHash P "__name__", .str "__name__" 165, .str "postkeep.headers" 262⟩, ⟨PyData.keyHash P "__doc__", .str "__doc__" 166, .none⟩, ⟨PyData.keyHash P "__package__", .str "__package__" 167, .none⟩, ⟨PyData.keyHash P "__loader__", .str "__loader__" 168, .builtin "__main__.__loader__#opaque"⟩, ⟨PyData.keyHash P "__spec__", .str "__spec__" 169, .none⟩, ⟨PyData.keyHash P "__annotations__", .str "__annotations__" 170, .ref 6⟩, ⟨PyData.keyHash P "__builtins__", .str "__builtins__" 171, .ref 4⟩, ⟨PyData.keyHash P "__file__", .str "__file__" 173, .str "/claim/cut.py" 172⟩, ⟨PyData.keyHash P "__cached__", .str "__cached__" 174, .none⟩, ⟨PyData.keyHash P "PostError", .str "PostError" 228, .ref 39⟩, ⟨PyData.keyHash P "WordFault", .str "WordFault" 244, .ref 52⟩, ⟨PyData.keyHash P "CRLF", .str "CRLF" 248, .bytes (⟨[13, 10]⟩) 247⟩, ⟨PyData.keyHash P "lower_code", .str "lower_code" 255, .ref 61⟩, ⟨PyData.keyHash P "lower_text", .str "lower_text" 261, .ref 66⟩, ⟨PyData.keyHash P "WHITE", .str "WHITE" 266, .ref 67⟩, ⟨PyData.keyHash P "Field", .str "Field" 310, .ref 96⟩, ⟨PyData.keyHash P "line_at", .str "line_at" 320, .ref 107⟩, ⟨PyData.keyHash P "is_name", .str "is_name" 328, .ref 114⟩, ⟨PyData.keyHash P "colon_in", .str "colon_in" 338, .ref 121⟩]⟩) 19, ⟨[]⟩⟩
noncomputable def hd.o_109 : Params → Obj := fun P => ⟨.none, none, .fields (⟨[.int 2 0, .int 0 0, .ref 20, .int 11 0, .int 0 0, .ref 48, .int 15 0, .int 0 0, .ref 60, .int 17 0, .int 0 0, .ref 65, .int 21 0, .int 0 0, .ref 73, .int 32 0, .int 0 0, .ref 106, .int 39 0, .int 0 0, .ref 113, .int 44 0, .int 0 0, .ref 120]⟩), ⟨[]⟩⟩
noncomputable def hd.o_110 : Params → Obj := fun P => ⟨.type "tuple", none, .seq (⟨[]⟩) 0, ⟨[]⟩⟩
noncomputable def hd.o_111 : Params → Obj := fun P => ⟨.type "builtin_function_or_method", none, .fields (⟨[.builtin "type.__prepare__", .type "type"]⟩), ⟨[]⟩⟩
noncomputable def hd.o_112 : Params → Obj := fun P => ⟨.type "dict", none, .dict (⟨[⟨PyData.keyHash P "__module__", .str "__module__" 274, .str "postkeep.headers" 262⟩, ⟨PyData.keyHash P "__qualname__", .str "__qualname__" 276, .str "Field" 275⟩, ⟨PyData.keyHash P "__firstlineno__", .str "__firstlineno__" 278, .int 21 277⟩, ⟨PyData.keyHash P "__init__", .str "__init__" 287, .ref 81⟩, ⟨PyData.keyHash P "word", .str "word" 293, .ref 86⟩, ⟨PyData.keyHash P "told", .str "told" 300, .ref 93⟩, ⟨PyData.keyHash P "__static_attributes__", .str "__static_attributes__" 303, .ref 94⟩]⟩) 7, ⟨[]⟩⟩
noncomputable def hd.o_113 : Params → Obj := fun P => ⟨.type "tuple", none, .seq (⟨[]⟩) 0, ⟨[]⟩⟩
noncomputable def hd.o_114 : Params → Obj := fun P => ⟨.none, none, .fields (⟨[.int 23 0, .int 4 0, .ref 80, .int 27 0, .int 4 0, .ref 85, .int 30 0, .int 4 0, .ref 92]⟩), ⟨[]⟩⟩
noncomputable def hd.o_115 : Params → Obj := fun P => ⟨.type "code", none, .fields (⟨[.str "Field" 269, .str "Field" 270, .str "/claim/cut.py" 271, .int 21 0, .int 0 0, .int 0 0, .int 0 0, .int 0 0, .ref 71, .bool false, .int 181 0, .ref 72, .none, .none, .none, .none, .int 272 0, .int 21 0, .str "/claim/cut.py" 273]⟩), ⟨[]⟩⟩
noncomputable def hd.o_116 : Params → Obj := fun P => ⟨.type "frame", none, .plain, ⟨[some (.ref 73), some (.ref 3), some (.ref 70), none, some (.str "postkeep.headers" 262), none, some (.ref 0)]⟩⟩
noncomputable def hd.o_117 : Params → Obj := fun P => ⟨.type "tuple", none, .seq (⟨[]⟩) 0, ⟨[]⟩⟩
noncomputable def hd.o_118 : Params → Obj := fun P => ⟨.none, none, .fields (⟨[]⟩), ⟨[]⟩⟩
noncomputable def hd.o_119 : Params → Obj := fun P => ⟨.type "tuple", none, .seq (⟨[.str "self" 282, .str "name" 283, .str "raw" 284]⟩) 0, ⟨[]⟩⟩
noncomputable def hd.o_120 : Params → Obj := fun P => ⟨.type "tuple", none, .seq (⟨[]⟩) 0, ⟨[]⟩⟩
noncomputable def hd.o_121 : Params → Obj := fun P => ⟨.none, none, .func ⟨"__init__", "Field.__init__", hd.ar_4, .stmts hd.bd_4, hd.sc_4, 0, [], .none, .none, .none, .none, none, .none, .none, 0⟩, ⟨[]⟩⟩
noncomputable def hd.o_122 : Params → Obj := fun P => ⟨.type "code", none, .fields (⟨[.str "__init__" 279, .str "Field.__init__" 280, .str "/claim/cut.py" 281, .int 23 0, .int 3 0, .int 0 0, .int 0 0, .int 3 0, .ref 75, .bool true, .int 181 0, .ref 76, .none, .ref 77, .ref 78, .ref 79, .int 285 0, .int 23 0, .str "/claim/cut.py" 286]⟩), ⟨[]⟩⟩
noncomputable def hd.o_123 : Params → Obj := fun P => ⟨.type "function", none, .func ⟨"__init__", "Field.__init__", hd.ar_4, .stmts hd.bd_4, hd.sc_4, 3, [], .none, .none, .none, .str "postkeep.headers" 262, none, .ref 80, .none, 0⟩, ⟨[]⟩⟩
noncomputable def hd.o_124 : Params → Obj := fun P => ⟨.type "tuple", none, .seq (⟨[]⟩) 0, ⟨[]⟩⟩
noncomputable def hd.o_125 : Params → Obj := fun P => ⟨.none, none, .fields (⟨[]⟩), ⟨[]⟩⟩
noncomputable def hd.o_126 : Params → Obj := fun P => ⟨.none, none, .func ⟨"word", "Field.word", hd.ar_5, .stmts hd.bd_5, hd.sc_5, 0, [], .none, .none, .none, .none, none, .none, .none, 0⟩, ⟨[]⟩⟩
noncomputable def hd.o_127 : Params → Obj := fun P => ⟨.type "code", none, .fields (⟨[.str "word" 288, .str "Field.word" 289, .str "/claim/cut.py" 290, .int 27 0, .int 1 0, .int 0 0, .int 0 0, .int 3 0, .ref 82, .bool true, .int 181 0, .ref 83, .none, .none, .none, .ref 84, .int 291 0, .int 27 0, .str "/claim/cut.py" 292]⟩), ⟨[]⟩⟩
noncomputable def hd.o_128 : Params → Obj := fun P => ⟨.type "function", none, .func ⟨"word", "Field.word", hd.ar_5, .stmts hd.bd_5, hd.sc_5, 3, [], .none, .none, .none, .str "postkeep.headers" 262, none, .ref 85, .none, 0⟩, ⟨[]⟩⟩
noncomputable def hd.o_129 : Params → Obj := fun P => ⟨.type "tuple", none, .seq (⟨[]⟩) 0, ⟨[]⟩⟩
noncomputable def hd.o_130 : Params → Obj := fun P => ⟨.none, none, .fields (⟨[]⟩), ⟨[]⟩⟩
noncomputable def hd.o_131 : Params → Obj := fun P => ⟨.type "tuple", none, .seq (⟨[.str "self" 297]⟩) 0, ⟨[]⟩⟩
noncomputable def hd.o_132 : Params → Obj := fun P => ⟨.type "tuple", none, .seq (⟨[]⟩) 0, ⟨[]⟩⟩
noncomputable def hd.o_133 : Params → Obj := fun P => ⟨.none, none, .func ⟨"told", "Field.told", hd.ar_6, .stmts hd.bd_6, hd.sc_6, 0, [], .none, .none, .none, .none, none, .none, .none, 0⟩, ⟨[]⟩⟩
noncomputable def hd.o_134 : Params → Obj := fun P => ⟨.type "code", none, .fields (⟨[.str "told" 294, .str "Field.told" 295, .str "/claim/cut.py" 296, .int 30 0, .int 1 0, .int 0 0, .int 0 0, .int 3 0, .ref 87, .bool true, .int 181 0, .ref 88, .none, .ref 89, .ref 90, .ref 91, .int 298 0, .int 30 0, .str "/claim/cut.py" 299]⟩), ⟨[]⟩⟩
noncomputable def hd.o_135 : Params → Obj := fun P => ⟨.type "function", none, .func ⟨"told", "Field.told", hd.ar_6, .stmts hd.bd_6, hd.sc_6, 3, [], .none, .none, .none, .str "postkeep.headers" 262, none, .ref 92, .none, 0⟩, ⟨[]⟩⟩
noncomputable def hd.o_136 : Params → Obj := fun P => ⟨.type "tuple", none, .seq (⟨[.str "name" 301, .str "raw" 302]⟩) 0, ⟨[]⟩⟩
noncomputable def hd.o_137 : Params → Obj := fun P => ⟨.type "dict", none, .dict (⟨[⟨PyData.keyHash P "__module__", .str "__module__" 274, .str "postkeep.headers" 262⟩, ⟨PyData.keyHash P "__firstlineno__", .str "__firstlineno__" 278, .int 21 277⟩, ⟨PyData.keyHash P "__init__", .str "__init__" 287, .ref 81⟩, ⟨PyData.keyHash P "word", .str "word" 293, .ref 86⟩, ⟨PyData.keyHash P "told", .str "told" 300, .ref 93⟩, ⟨PyData.keyHash P "__static_attributes__", .str "__static_attributes__" 303, .ref 94⟩, ⟨PyData.keyHash P "__dict__", .str "__dict__" 305, .ref 97⟩, ⟨PyData.keyHash P "__weakref__", .str "__weakref__" 307, .ref 98⟩, ⟨PyData.keyHash P "__doc__", .str "__doc__" 308, .none⟩]⟩) 4, ⟨[]⟩⟩
noncomputable def hd.o_138 : Params → Obj := fun P => ⟨.type "type", none, .cls ⟨"Field", [.type "object"], [.ref 96, .type "object"], 95, "Field", true, [], [], false, none, false⟩, ⟨[none, none, some (.str "Field" 267), some (.str "Field" 275), some (.builtin "object.__new__"), some (.bool true)]⟩⟩
noncomputable def hd.o_139 : Params → Obj := fun P => ⟨.type "getset_descriptor", none, .fields (⟨[.str "__dict__" 304, .ref 96, .builtin "function.__dict__", .builtin "function.__dict__#set"]⟩), ⟨[]⟩⟩
noncomputable def hd.o_140 : Params → Obj := fun P => ⟨.type "getset_descriptor", none, .fields (⟨[.str "__weakref__" 306, .ref 96, .builtin "ExceptionGroup.__weakref__", .none]⟩), ⟨[]⟩⟩
noncomputable def hd.o_141 : Params → Obj := fun P => ⟨.type "super", none, .fields (⟨[.ref 96, .ref 96, .ref 96]⟩), ⟨[]⟩⟩
noncomputable def hd.o_142 : Params → Obj := fun P => ⟨.type "builtin_function_or_method", none, .fields (⟨[.builtin "object.__init_subclass__", .ref 96]⟩), ⟨[]⟩⟩
noncomputable def hd.o_143 : Params → Obj := fun P => ⟨.type "tuple", none, .seq (⟨[]⟩) 0, ⟨[]⟩⟩
noncomputable def hd.o_144 : Params → Obj := fun P => ⟨.none, none, .fields (⟨[]⟩), ⟨[]⟩⟩
noncomputable def hd.o_145 : Params → Obj := fun P => ⟨.type "tuple", none, .seq (⟨[.str "data" 314, .str "at" 315, .str "end" 316, .str "spot" 317]⟩) 0, ⟨[]⟩⟩
noncomputable def hd.o_146 : Params → Obj := fun P => ⟨.type "tuple", none, .seq (⟨[]⟩) 0, ⟨[]⟩⟩
noncomputable def hd.o_147 : Params → Obj := fun P => ⟨.none, none, .func ⟨"line_at", "line_at", hd.ar_7, .stmts hd.bd_7, hd.sc_7, 0, [], .none, .none, .none, .none, none, .none, .none, 0⟩, ⟨[]⟩⟩
noncomputable def hd.o_148 : Params → Obj := fun P => ⟨.type "code", none, .fields (⟨[.str "line_at" 311, .str "line_at" 312, .str "/claim/cut.py" 313, .int 32 0, .int 3 0, .int 0 0, .int 0 0, .int 3 0, .ref 101, .bool true, .int 181 0, .ref 102, .none, .ref 103, .ref 104, .ref 105, .int 318 0, .int 32 0, .str "/claim/cut.py" 319]⟩), ⟨[]⟩⟩
noncomputable def hd.o_149 : Params → Obj := fun P => ⟨.type "function", none, .func ⟨"line_at", "line_at", hd.ar_7, .stmts hd.bd_7, hd.sc_7, 3, [], .none, .none, .none, .str "postkeep.headers" 262, none, .ref 106, .none, 0⟩, ⟨[]⟩⟩
noncomputable def hd.o_150 : Params → Obj := fun P => ⟨.type "tuple", none, .seq (⟨[]⟩) 0, ⟨[]⟩⟩
noncomputable def hd.o_151 : Params → Obj := fun P => ⟨.none, none, .fields (⟨[]⟩), ⟨[]⟩⟩
noncomputable def hd.o_152 : Params → Obj := fun P => ⟨.type "tuple", none, .seq (⟨[.str "octets" 324, .str "code" 325]⟩) 0, ⟨[]⟩⟩
noncomputable def hd.o_153 : Params → Obj := fun P => ⟨.type "tuple", none, .seq (⟨[]⟩) 0, ⟨[]⟩⟩
noncomputable def hd.o_154 : Params → Obj := fun P => ⟨.none, none, .func ⟨"is_name", "is_name", hd.ar_8, .stmts hd.bd_8, hd.sc_8, 0, [], .none, .none, .none, .none, none, .none, .none, 0⟩, ⟨[]⟩⟩
noncomputable def hd.o_155 : Params → Obj := fun P => ⟨.type "code", none, .fields (⟨[.str "is_name" 321, .str "is_name" 322, .str "/claim/cut.py" 323, .int 39 0, .int 1 0, .int 0 0, .int 0 0, .int 3 0, .ref 108, .bool true, .int 181 0, .ref 109, .none, .ref 110, .ref 111, .ref 112, .int 326 0, .int 39 0, .str "/claim/cut.py" 327]⟩), ⟨[]⟩⟩
noncomputable def hd.o_156 : Params → Obj := fun P => ⟨.type "function", none, .func ⟨"is_name", "is_name", hd.ar_8, .stmts hd.bd_8, hd.sc_8, 3, [], .none, .none, .none, .str "postkeep.headers" 262, none, .ref 113, .none, 0⟩, ⟨[]⟩⟩
noncomputable def hd.o_157 : Params → Obj := fun P => ⟨.type "tuple", none, .seq (⟨[]⟩) 0, ⟨[]⟩⟩
noncomputable def hd.o_158 : Params → Obj := fun P => ⟨.none, none, .fields (⟨[]⟩), ⟨[]⟩⟩
noncomputable def hd.o_159 : Params → Obj := fun P => ⟨.type "tuple", none, .seq (⟨[.str "data" 332, .str "at" 333, .str "end" 334, .str "spot" 335]⟩) 0, ⟨[]⟩⟩
noncomputable def hd.o_160 : Params → Obj := fun P => ⟨.type "tuple", none, .seq (⟨[]⟩) 0, ⟨[]⟩⟩
noncomputable def hd.o_161 : Params → Obj := fun P => ⟨.none, none, .func ⟨"colon_in", "colon_in", hd.ar_9, .stmts hd.bd_9, hd.sc_9, 0, [], .none, .none, .none, .none, none, .none, .none, 0⟩, ⟨[]⟩⟩
noncomputable def hd.o_162 : Params → Obj := fun P => ⟨.type "code", none, .fields (⟨[.str "colon_in" 329, .str "colon_in" 330, .str "/claim/cut.py" 331, .int 44 0, .int 3 0, .int 0 0, .int 0 0, .int 3 0, .ref 115, .bool true, .int 181 0, .ref 116, .none, .ref 117, .ref 118, .ref 119, .int 336 0, .int 44 0, .str "/claim/cut.py" 337]⟩), ⟨[]⟩⟩
noncomputable def hd.o_163 : Params → Obj := fun P => ⟨.type "function", none, .func ⟨"colon_in", "colon_in", hd.ar_9, .stmts hd.bd_9, hd.sc_9, 3, [], .none, .none, .none, .str "postkeep.headers" 262, none, .ref 120, .none, 0⟩, ⟨[]⟩⟩
noncomputable def hd.o_164 : Params → Obj := fun P => ⟨.type "dict", none, .dict (⟨(⟨PyData.keyHash P "__name__", .str "__name__" 165, .str "law_pq0966_01" 459⟩ :: ⟨PyData.keyHash P "__doc__", .str "__doc__" 166, .none⟩ :: ⟨PyData.keyHash P "__package__", .str "__package__" 167, .none⟩ :: [⟨PyData.keyHash P "__loader__", .str "__loader__" 168, .builtin "__main__.__loader__#opaque"⟩, ⟨PyData.keyHash P "__spec__", .str "__spec__" 169, .none⟩, ⟨PyData.keyHash P "__annotations__", .str "__annotations__" 170, .ref 6⟩, ⟨PyData.keyHash P "__builtins__", .str "__builtins__" 171, .ref 4⟩, ⟨PyData.keyHash P "__file__", .str "__file__" 173, .str "/claim/cut.py" 172⟩, ⟨PyData.keyHash P "__cached__", .str "__cached__" 174, .none⟩, ⟨PyData.keyHash P "PostError", .str "PostError" 228, .ref 39⟩, ⟨PyData.keyHash P "WordFault", .str "WordFault" 244, .ref 52⟩, ⟨PyData.keyHash P "CRLF", .str "CRLF" 248, .bytes (⟨[13, 10]⟩) 247⟩, ⟨PyData.keyHash P "lower_code", .str "lower_code" 255, .ref 61⟩, ⟨PyData.keyHash P "lower_text", .str "lower_text" 261, .ref 66⟩, ⟨PyData.keyHash P "WHITE", .str "WHITE" 266, .ref 67⟩, ⟨PyData.keyHash P "Field", .str "Field" 310, .ref 96⟩, ⟨PyData.keyHash P "line_at", .str "line_at" 320, .ref 107⟩, ⟨PyData.keyHash P "is_name", .str "is_name" 328, .ref 114⟩, ⟨PyData.keyHash P "colon_in", .str "colon_in" 338, .ref 121⟩, ⟨PyData.keyHash P "read_spans", .str "read_spans" 356, .ref 129⟩, ⟨PyData.keyHash P "read_fields", .str "read_fields" 365, .ref 135⟩, ⟨PyData.keyHash P "rows_of", .str "rows_of" 376, .ref 142⟩, ⟨PyData.keyHash P "pieces_of", .str "pieces_of" 386, .ref 149⟩, ⟨PyData.keyHash P "check_name", .str "check_name" 393, .ref 156⟩, ⟨PyData.keyHash P "folded", .str "folded" 409, .ref 164⟩, ⟨PyData.keyHash P "only_words", .str "only_words" 415, .ref 169⟩, ⟨PyData.keyHash P "without_words", .str "without_words" 421, .ref 174⟩, ⟨PyData.keyHash P "made_field", .str "made_field" 432, .ref 182⟩, ⟨PyData.keyHash P "with_field", .str "with_field" 444, .ref 189⟩, ⟨PyData.keyHash P "is_sound", .str "is_sound" 452, .ref 196⟩, ⟨PyData.keyHash P "write_fields", .str "write_fields" 458, .ref 201⟩])⟩) 31, ⟨[]⟩⟩
noncomputable def hd.o_165 : Params → Obj := fun P => ⟨.none, none, .fields (⟨(.int 2 0 :: .int 0 0 :: .ref 20 :: .int 11 0 :: .int 0 0 :: .ref 48 :: .int 15 0 :: .int 0 0 :: .ref 60 :: .int 17 0 :: .int 0 0 :: .ref 65 :: .int 21 0 :: .int 0 0 :: .ref 73 :: .int 32 0 :: .int 0 0 :: .ref 106 :: .int 39 0 :: .int 0 0 :: .ref 113 :: .int 44 0 :: .int 0 0 :: .ref 120 :: .int 47 0 :: .int 0 0 :: .ref 128 :: .int 63 0 :: .int 0 0 :: .ref 134 :: .int 66 0 :: .int 0 0 :: [.ref 141, .int 75 0, .int 0 0, .ref 148, .int 86 0, .int 0 0, .ref 155, .int 89 0, .int 0 0, .ref 163, .int 103 0, .int 0 0, .ref 168, .int 106 0, .int 0 0, .ref 173, .int 109 0, .int 0 0, .ref 181, .int 112 0, .int 0 0, .ref 188, .int 123 0, .int 0 0, .ref 195, .int 130 0, .int 0 0, .ref 200])⟩), ⟨[]⟩⟩
noncomputable def hd.o_166 : Params → Obj := fun P => ⟨.type "tuple", none, .seq (⟨[.int 0 339, .int (@Neg.neg Int Int.instNegInt 1) 341]⟩) 0, ⟨[]⟩⟩
noncomputable def hd.o_167 : Params → Obj := fun P => ⟨.type "tuple", none, .seq (⟨[]⟩) 0, ⟨[]⟩⟩
noncomputable def hd.o_168 : Params → Obj := fun P => ⟨.none, none, .fields (⟨[]⟩), ⟨[]⟩⟩
noncomputable def hd.o_169 : Params → Obj := fun P => ⟨.type "tuple", none, .seq (⟨[.str "data" 345, .str "at" 346, .str "end" 347, .str "stop" 348, .str "rows" 349, .str "here" 350, .str "last" 351, .str "later" 352, .str "colon" 353]⟩) 0, ⟨[]⟩⟩
noncomputable def hd.o_170 : Params → Obj := fun P => ⟨.type "tuple", none, .seq (⟨[]⟩) 0, ⟨[]⟩⟩
noncomputable def hd.o_171 : Params → Obj := fun P => ⟨.none, none, .func ⟨"read_spans", "read_spans", hd.ar_10, .stmts hd.bd_10, hd.sc_10, 0, [], .none, .none, .none, .none, none, .none, .none, 0⟩, ⟨[]⟩⟩
noncomputable def hd.o_172 : Params → Obj := fun P => ⟨.type "code", none, .fields (⟨[.str "read_spans" 342, .str "read_spans" 343, .str "/claim/cut.py" 344, .int 47 0, .int 3 0, .int 0 0, .int 0 0, .int 3 0, .ref 123, .bool true, .int 181 0, .ref 124, .none, .ref 125, .ref 126, .ref 127, .int 354 0, .int 47 0, .str "/claim/cut.py" 355]⟩), ⟨[]⟩⟩
noncomputable def hd.o_173 : Params → Obj := fun P => ⟨.type "function", none, .func ⟨"read_spans", "read_spans", hd.ar_10, .stmts hd.bd_10, hd.sc_10, 3, [], .ref 122, .none, .none, .str "postkeep.headers" 262, none, .ref 128, .none, 0⟩, ⟨[]⟩⟩
noncomputable def hd.o_174 : Params → Obj := fun P => ⟨.type "tuple", none, .seq (⟨[.int 0 357, .int (@Neg.neg Int Int.instNegInt 1) 359]⟩) 0, ⟨[]⟩⟩
noncomputable def hd.o_175 : Params → Obj := fun P => ⟨.type "tuple", none, .seq (⟨[]⟩) 0, ⟨[]⟩⟩
noncomputable def hd.o_176 : Params → Obj := fun P => ⟨.none, none, .fields (⟨[]⟩), ⟨[]⟩⟩
noncomputable def hd.o_177 : Params → Obj := fun P => ⟨.none, none, .func ⟨"read_fields", "read_fields", hd.ar_11, .stmts hd.bd_11, hd.sc_11, 0, [], .none, .none, .none, .none, none, .none, .none, 0⟩, ⟨[]⟩⟩
noncomputable def hd.o_178 : Params → Obj := fun P => ⟨.type "code", none, .fields (⟨[.str "read_fields" 360, .str "read_fields" 361, .str "/claim/cut.py" 362, .int 63 0, .int 3 0, .int 0 0, .int 0 0, .int 3 0, .ref 131, .bool true, .int 181 0, .ref 132, .none, .none, .none, .ref 133, .int 363 0, .int 63 0, .str "/claim/cut.py" 364]⟩), ⟨[]⟩⟩
noncomputable def hd.o_179 : Params → Obj := fun P => ⟨.type "function", none, .func ⟨"read_fields", "read_fields", hd.ar_11, .stmts hd.bd_11, hd.sc_11, 3, [], .ref 130, .none, .none, .str "postkeep.headers" 262, none, .ref 134, .none, 0⟩, ⟨[]⟩⟩
noncomputable def hd.o_180 : Params → Obj := fun P => ⟨.type "tuple", none, .seq (⟨[]⟩) 0, ⟨[]⟩⟩
noncomputable def hd.o_181 : Params → Obj := fun P => ⟨.none, none, .fields (⟨[]⟩), ⟨[]⟩⟩
noncomputable def hd.o_182 : Params → Obj := fun P => ⟨.type "tuple", none, .seq (⟨[.str "raw" 369, .str "rows" 370, .str "at" 371, .str "last" 372, .str "later" 373]⟩) 0, ⟨[]⟩⟩
noncomputable def hd.o_183 : Params → Obj := fun P => ⟨.type "tuple", none, .seq (⟨[]⟩) 0, ⟨[]⟩⟩
noncomputable def hd.o_184 : Params → Obj := fun P => ⟨.none, none, .func ⟨"rows_of", "rows_of", hd.ar_12, .stmts hd.bd_12, hd.sc_12, 0, [], .none, .none, .none, .none, none, .none, .none, 0⟩, ⟨[]⟩⟩
noncomputable def hd.o_185 : Params → Obj := fun P => ⟨.type "code", none, .fields (⟨[.str "rows_of" 366, .str "rows_of" 367, .str "/claim/cut.py" 368, .int 66 0, .int 1 0, .int 0 0, .int 0 0, .int 3 0, .ref 136, .bool true, .int 181 0, .ref 137, .none, .ref 138, .ref 139, .ref 140, .int 374 0, .int 66 0, .str "/claim/cut.py" 375]⟩), ⟨[]⟩⟩
noncomputable def hd.o_186 : Params → Obj := fun P => ⟨.type "function", none, .func ⟨"rows_of", "rows_of", hd.ar_12, .stmts hd.bd_12, hd.sc_12, 3, [], .none, .none, .none, .str "postkeep.headers" 262, none, .ref 141, .none, 0⟩, ⟨[]⟩⟩
noncomputable def hd.o_187 : Params → Obj := fun P => ⟨.type "tuple", none, .seq (⟨[]⟩) 0, ⟨[]⟩⟩
noncomputable def hd.o_188 : Params → Obj := fun P => ⟨.none, none, .fields (⟨[]⟩), ⟨[]⟩⟩
noncomputable def hd.o_189 : Params → Obj := fun P => ⟨.type "tuple", none, .seq (⟨[.str "body" 380, .str "pieces" 381, .str "at" 382, .str "begun" 383]⟩) 0, ⟨[]⟩⟩
noncomputable def hd.o_190 : Params → Obj := fun P => ⟨.type "tuple", none, .seq (⟨[]⟩) 0, ⟨[]⟩⟩
noncomputable def hd.o_191 : Params → Obj := fun P => ⟨.none, none, .func ⟨"pieces_of", "pieces_of", hd.ar_13, .stmts hd.bd_13, hd.sc_13, 0, [], .none, .none, .none, .none, none, .none, .none, 0⟩, ⟨[]⟩⟩
noncomputable def hd.o_192 : Params → Obj := fun P => ⟨.type "code", none, .fields (⟨[.str "pieces_of" 377, .str "pieces_of" 378, .str "/claim/cut.py" 379, .int 75 0, .int 1 0, .int 0 0, .int 0 0, .int 3 0, .ref 143, .bool true, .int 181 0, .ref 144, .none, .ref 145, .ref 146, .ref 147, .int 384 0, .int 75 0, .str "/claim/cut.py" 385]⟩), ⟨[]⟩⟩
noncomputable def hd.o_193 : Params → Obj := fun P => ⟨.type "function", none, .func ⟨"pieces_of", "pieces_of", hd.ar_13, .stmts hd.bd_13, hd.sc_13, 3, [], .none, .none, .none, .str "postkeep.headers" 262, none, .ref 148, .none, 0⟩, ⟨[]⟩⟩
noncomputable def hd.o_194 : Params → Obj := fun P => ⟨.type "tuple", none, .seq (⟨[]⟩) 0, ⟨[]⟩⟩
noncomputable def hd.o_195 : Params → Obj := fun P => ⟨.none, none, .fields (⟨[]⟩), ⟨[]⟩⟩
noncomputable def hd.o_196 : Params → Obj := fun P => ⟨.type "tuple", none, .seq (⟨[.str "name" 390]⟩) 0, ⟨[]⟩⟩
noncomputable def hd.o_197 : Params → Obj := fun P => ⟨.type "tuple", none, .seq (⟨[]⟩) 0, ⟨[]⟩⟩
noncomputable def hd.o_198 : Params → Obj := fun P => ⟨.none, none, .func ⟨"check_name", "check_name", hd.ar_14, .stmts hd.bd_14, hd.sc_14, 0, [], .none, .none, .none, .none, none, .none, .none, 0⟩, ⟨[]⟩⟩
noncomputable def hd.o_199 : Params → Obj := fun P => ⟨.type "code", none, .fields (⟨[.str "check_name" 387, .str "check_name" 388, .str "/claim/cut.py" 389, .int 86 0, .int 1 0, .int 0 0, .int 0 0, .int 3 0, .ref 150, .bool true, .int 181 0, .ref 151, .none, .ref 152, .ref 153, .ref 154, .int 391 0, .int 86 0, .str "/claim/cut.py" 392]⟩), ⟨[]⟩⟩
noncomputable def hd.o_200 : Params → Obj := fun P => ⟨.type "function", none, .func ⟨"check_name", "check_name", hd.ar_14, .stmts hd.bd_14, hd.sc_14, 3, [], .none, .none, .none, .str "postkeep.headers" 262, none, .ref 155, .none, 0⟩, ⟨[]⟩⟩
noncomputable def hd.o_201 : Params → Obj := fun P => ⟨.type "tuple", none, .seq (⟨[.int 78 394]⟩) 0, ⟨[]⟩⟩
noncomputable def hd.o_202 : Params → Obj := fun P => ⟨.type "tuple", none, .seq (⟨[]⟩) 0, ⟨[]⟩⟩
noncomputable def hd.o_203 : Params → Obj := fun P => ⟨.none, none, .fields (⟨[]⟩), ⟨[]⟩⟩
noncomputable def hd.o_204 : Params → Obj := fun P => ⟨.type "tuple", none, .seq (⟨[.str "name" 398, .str "body" 399, .str "width" 400, .str "code" 401, .str "rows" 402, .str "row" 403, .str "spot" 404, .str "piece" 405, .str "more" 406]⟩) 0, ⟨[]⟩⟩
noncomputable def hd.o_205 : Params → Obj := fun P => ⟨.type "tuple", none, .seq (⟨[]⟩) 0, ⟨[]⟩⟩
noncomputable def hd.o_206 : Params → Obj := fun P => ⟨.none, none, .func ⟨"folded", "folded", hd.ar_15, .stmts hd.bd_15, hd.sc_15, 0, [], .none, .none, .none, .none, none, .none, .none, 0⟩, ⟨[]⟩⟩
noncomputable def hd.o_207 : Params → Obj := fun P => ⟨.type "code", none, .fields (⟨[.str "folded" 395, .str "folded" 396, .str "/claim/cut.py" 397, .int 89 0, .int 3 0, .int 0 0, .int 0 0, .int 3 0, .ref 158, .bool true, .int 181 0, .ref 159, .none, .ref 160, .ref 161, .ref 162, .int 407 0, .int 89 0, .str "/claim/cut.py" 408]⟩), ⟨[]⟩⟩
noncomputable def hd.o_208 : Params → Obj := fun P => ⟨.type "function", none, .func ⟨"folded", "folded", hd.ar_15, .stmts hd.bd_15, hd.sc_15, 3, [], .ref 157, .none, .none, .str "postkeep.headers" 262, none, .ref 163, .none, 0⟩, ⟨[]⟩⟩
noncomputable def hd.o_209 : Params → Obj := fun P => ⟨.type "tuple", none, .seq (⟨[]⟩) 0, ⟨[]⟩⟩
noncomputable def hd.o_210 : Params → Obj := fun P => ⟨.none, none, .fields (⟨[]⟩), ⟨[]⟩⟩
noncomputable def hd.o_211 : Params → Obj := fun P => ⟨.none, none, .func ⟨"only_words", "only_words", hd.ar_16, .stmts hd.bd_16, hd.sc_16, 0, [], .none, .none, .none, .none, none, .none, .none, 0⟩, ⟨[]⟩⟩
noncomputable def hd.o_212 : Params → Obj := fun P => ⟨.type "code", none, .fields (⟨[.str "only_words" 410, .str "only_words" 411, .str "/claim/cut.py" 412, .int 103 0, .int 2 0, .int 0 0, .int 0 0, .int 3 0, .ref 165, .bool true, .int 181 0, .ref 166, .none, .none, .none, .ref 167, .int 413 0, .int 103 0, .str "/claim/cut.py" 414]⟩), ⟨[]⟩⟩
noncomputable def hd.o_213 : Params → Obj := fun P => ⟨.type "function", none, .func ⟨"only_words", "only_words", hd.ar_16, .stmts hd.bd_16, hd.sc_16, 3, [], .none, .none, .none, .str "postkeep.headers" 262, none, .ref 168, .none, 0⟩, ⟨[]⟩⟩
noncomputable def hd.o_214 : Params → Obj := fun P => ⟨.type "tuple", none, .seq (⟨[]⟩) 0, ⟨[]⟩⟩
noncomputable def hd.o_215 : Params → Obj := fun P => ⟨.none, none, .fields (⟨[]⟩), ⟨[]⟩⟩
noncomputable def hd.o_216 : Params → Obj := fun P => ⟨.none, none, .func ⟨"without_words", "without_words", hd.ar_17, .stmts hd.bd_17, hd.sc_17, 0, [], .none, .none, .none, .none, none, .none, .none, 0⟩, ⟨[]⟩⟩
noncomputable def hd.o_217 : Params → Obj := fun P => ⟨.type "code", none, .fields (⟨[.str "without_words" 416, .str "without_words" 417, .str "/claim/cut.py" 418, .int 106 0, .int 2 0, .int 0 0, .int 0 0, .int 3 0, .ref 170, .bool true, .int 181 0, .ref 171, .none, .none, .none, .ref 172, .int 419 0, .int 106 0, .str "/claim/cut.py" 420]⟩), ⟨[]⟩⟩
noncomputable def hd.o_218 : Params → Obj := fun P => ⟨.type "function", none, .func ⟨"without_words", "without_words", hd.ar_17, .stmts hd.bd_17, hd.sc_17, 3, [], .none, .none, .none, .str "postkeep.headers" 262, none, .ref 173, .none, 0⟩, ⟨[]⟩⟩
noncomputable def hd.o_219 : Params → Obj := fun P => ⟨.type "tuple", none, .seq (⟨[.int 78 422]⟩) 0, ⟨[]⟩⟩
noncomputable def hd.o_220 : Params → Obj := fun P => ⟨.type "tuple", none, .seq (⟨[]⟩) 0, ⟨[]⟩⟩
noncomputable def hd.o_221 : Params → Obj := fun P => ⟨.none, none, .fields (⟨[]⟩), ⟨[]⟩⟩
noncomputable def hd.o_222 : Params → Obj := fun P => ⟨.type "tuple", none, .seq (⟨[.str "name" 426, .str "body" 427, .str "width" 428, .str "octets" 429]⟩) 0, ⟨[]⟩⟩
noncomputable def hd.o_223 : Params → Obj := fun P => ⟨.type "tuple", none, .seq (⟨[]⟩) 0, ⟨[]⟩⟩
noncomputable def hd.o_224 : Params → Obj := fun P => ⟨.none, none, .func ⟨"made_field", "made_field", hd.ar_18, .stmts hd.bd_18, hd.sc_18, 0, [], .none, .none, .none, .none, none, .none, .none, 0⟩, ⟨[]⟩⟩
noncomputable def hd.o_225 : Params → Obj := fun P => ⟨.type "code", none, .fields (⟨[.str "made_field" 423, .str "made_field" 424, .str "/claim/cut.py" 425, .int 109 0, .int 3 0, .int 0 0, .int 0 0, .int 3 0, .ref 176, .bool true, .int 181 0, .ref 177, .none, .ref 178, .ref 179, .ref 180, .int 430 0, .int 109 0, .str "/claim/cut.py" 431]⟩), ⟨[]⟩⟩
noncomputable def hd.o_226 : Params → Obj := fun P => ⟨.type "function", none, .func ⟨"made_field", "made_field", hd.ar_18, .stmts hd.bd_18, hd.sc_18, 3, [], .ref 175, .none, .none, .str "postkeep.headers" 262, none, .ref 181, .none, 0⟩, ⟨[]⟩⟩
noncomputable def hd.o_227 : Params → Obj := fun P => ⟨.type "tuple", none, .seq (⟨[]⟩) 0, ⟨[]⟩⟩
noncomputable def hd.o_228 : Params → Obj := fun P => ⟨.none, none, .fields (⟨[]⟩), ⟨[]⟩⟩
noncomputable def hd.o_229 : Params → Obj := fun P => ⟨.type "tuple", none, .seq (⟨[.str "fields" 436, .str "field" 437, .str "word" 438, .str "found" 439, .str "is_put" 440, .str "other" 441]⟩) 0, ⟨[]⟩⟩
noncomputable def hd.o_230 : Params → Obj := fun P => ⟨.type "tuple", none, .seq (⟨[]⟩) 0, ⟨[]⟩⟩
noncomputable def hd.o_231 : Params → Obj := fun P => ⟨.none, none, .func ⟨"with_field", "with_field", hd.ar_19, .stmts hd.bd_19, hd.sc_19, 0, [], .none, .none, .none, .none, none, .none, .none, 0⟩, ⟨[]⟩⟩
noncomputable def hd.o_232 : Params → Obj := fun P => ⟨.type "code", none, .fields (⟨[.str "with_field" 433, .str "with_field" 434, .str "/claim/cut.py" 435, .int 112 0, .int 2 0, .int 0 0, .int 0 0, .int 3 0, .ref 183, .bool true, .int 181 0, .ref 184, .none, .ref 185, .ref 186, .ref 187, .int 442 0, .int 112 0, .str "/claim/cut.py" 443]⟩), ⟨[]⟩⟩
noncomputable def hd.o_233 : Params → Obj := fun P => ⟨.type "function", none, .func ⟨"with_field", "with_field", hd.ar_19, .stmts hd.bd_19, hd.sc_19, 3, [], .none, .none, .none, .str "postkeep.headers" 262, none, .ref 188, .none, 0⟩, ⟨[]⟩⟩
noncomputable def hd.o_234 : Params → Obj := fun P => ⟨.type "tuple", none, .seq (⟨[]⟩) 0, ⟨[]⟩⟩
noncomputable def hd.o_235 : Params → Obj := fun P => ⟨.none, none, .fields (⟨[]⟩), ⟨[]⟩⟩
noncomputable def hd.o_236 : Params → Obj := fun P => ⟨.type "tuple", none, .seq (⟨[.str "field" 448, .str "row" 449]⟩) 0, ⟨[]⟩⟩
noncomputable def hd.o_237 : Params → Obj := fun P => ⟨.type "tuple", none, .seq (⟨[]⟩) 0, ⟨[]⟩⟩
noncomputable def hd.o_238 : Params → Obj := fun P => ⟨.none, none, .func ⟨"is_sound", "is_sound", hd.ar_20, .stmts hd.bd_20, hd.sc_20, 0, [], .none, .none, .none, .none, none, .none, .none, 0⟩, ⟨[]⟩⟩
noncomputable def hd.o_239 : Params → Obj := fun P => ⟨.type "code", none, .fields (⟨[.str "is_sound" 445, .str "is_sound" 446, .str "/claim/cut.py" 447, .int 123 0, .int 1 0, .int 0 0, .int 0 0, .int 3 0, .ref 190, .bool true, .int 181 0, .ref 191, .none, .ref 192, .ref 193, .ref 194, .int 450 0, .int 123 0, .str "/claim/cut.py" 451]⟩), ⟨[]⟩⟩
noncomputable def hd.o_240 : Params → Obj := fun P => ⟨.type "function", none, .func ⟨"is_sound", "is_sound", hd.ar_20, .stmts hd.bd_20, hd.sc_20, 3, [], .none, .none, .none, .str "postkeep.headers" 262, none, .ref 195, .none, 0⟩, ⟨[]⟩⟩
noncomputable def hd.o_241 : Params → Obj := fun P => ⟨.type "tuple", none, .seq (⟨[]⟩) 0, ⟨[]⟩⟩
noncomputable def hd.o_242 : Params → Obj := fun P => ⟨.none, none, .fields (⟨[]⟩), ⟨[]⟩⟩
noncomputable def hd.o_243 : Params → Obj := fun P => ⟨.none, none, .func ⟨"write_fields", "write_fields", hd.ar_21, .stmts hd.bd_21, hd.sc_21, 0, [], .none, .none, .none, .none, none, .none, .none, 0⟩, ⟨[]⟩⟩
noncomputable def hd.o_244 : Params → Obj := fun P => ⟨.type "code", none, .fields (⟨[.str "write_fields" 453, .str "write_fields" 454, .str "/claim/cut.py" 455, .int 130 0, .int 1 0, .int 0 0, .int 0 0, .int 3 0, .ref 197, .bool true, .int 181 0, .ref 198, .none, .none, .none, .ref 199, .int 456 0, .int 130 0, .str "/claim/cut.py" 457]⟩), ⟨[]⟩⟩
noncomputable def hd.o_245 : Params → Obj := fun P => ⟨.type "function", none, .func ⟨"write_fields", "write_fields", hd.ar_21, .stmts hd.bd_21, hd.sc_21, 3, [], .none, .none, .none, .str "postkeep.headers" 262, none, .ref 200, .none, 0⟩, ⟨[]⟩⟩
noncomputable def hd.o_246 : Params → Obj := fun P => ⟨.type "dict", none, .dict (⟨(⟨PyData.keyHash P "__name__", .str "__name__" 165, .str "law_pq0966_01" 459⟩ :: ⟨PyData.keyHash P "__doc__", .str "__doc__" 166, .none⟩ :: ⟨PyData.keyHash P "__package__", .str "__package__" 167, .none⟩ :: ⟨PyData.keyHash P "__loader__", .str "__loader__" 168, .builtin "__main__.__loader__#opaque"⟩ :: ⟨PyData.keyHash P "__spec__", .str "__spec__" 169, .none⟩ :: ⟨PyData.keyHash P "__annotations__", .str "__annotations__" 170, .ref 6⟩ :: ⟨PyData.keyHash P "__builtins__", .str "__builtins__" 171, .ref 4⟩ :: ⟨PyData.keyHash P "__file__", .str "__file__" 173, .str "/claim/cut.py" 172⟩ :: ⟨PyData.keyHash P "__cached__", .str "__cached__" 174, .none⟩ :: ⟨PyData.keyHash P "PostError", .str "PostError" 228, .ref 39⟩ :: ⟨PyData.keyHash P "WordFault", .str "WordFault" 244, .ref 52⟩ :: ⟨PyData.keyHash P "CRLF", .str "CRLF" 248, .bytes (⟨[13, 10]⟩) 247⟩ :: ⟨PyData.keyHash P "lower_code", .str "lower_code" 255, .ref 61⟩ :: ⟨PyData.keyHash P "lower_text", .str "lower_text" 261, .ref 66⟩ :: ⟨PyData.keyHash P "WHITE", .str "WHITE" 266, .ref 67⟩ :: ⟨PyData.keyHash P "Field", .str "Field" 310, .ref 96⟩ :: ⟨PyData.keyHash P "line_at", .str "line_at" 320, .ref 107⟩ :: [⟨PyData.keyHash P "is_name", .str "is_name" 328, .ref 114⟩, ⟨PyData.keyHash P "colon_in", .str "colon_in" 338, .ref 121⟩, ⟨PyData.keyHash P "read_spans", .str "read_spans" 356, .ref 129⟩, ⟨PyData.keyHash P "read_fields", .str "read_fields" 365, .ref 135⟩, ⟨PyData.keyHash P "rows_of", .str "rows_of" 376, .ref 142⟩, ⟨PyData.keyHash P "pieces_of", .str "pieces_of" 386, .ref 149⟩, ⟨PyData.keyHash P "check_name", .str "check_name" 393, .ref 156⟩, ⟨PyData.keyHash P "folded", .str "folded" 409, .ref 164⟩, ⟨PyData.keyHash P "only_words", .str "only_words" 415, .ref 169⟩, ⟨PyData.keyHash P "without_words", .str "without_words" 421, .ref 174⟩, ⟨PyData.keyHash P "made_field", .str "made_field" 432, .ref 182⟩, ⟨PyData.keyHash P "with_field", .str "with_field" 444, .ref 189⟩, ⟨PyData.keyHash P "is_sound", .str "is_sound" 452, .ref 196⟩, ⟨PyData.keyHash P "write_fields", .str "write_fields" 458, .ref 201⟩, ⟨PyData.keyHash P "_law_names", .str "_law_names" 466, .ref 202⟩, ⟨PyData.keyHash P "_law_tape", .str "_law_tape" 476, .ref 209⟩, ⟨PyData.keyHash P "_law_draw", .str "_law_draw" 485, .ref 216⟩, ⟨PyData.keyHash P "_law_name", .str "_law_name" 491, .ref 221⟩, ⟨PyData.keyHash P "_law_small", .str "_law_small" 497, .ref 226⟩, ⟨PyData.keyHash P "_law_end", .str "_law_end" 504, .ref 233⟩, ⟨PyData.keyHash P "_law_raw", .str "_law_raw" 513, .ref 240⟩, ⟨PyData.keyHash P "_law_words", .str "_law_words" 519, .ref 245⟩, ⟨PyData.keyHash P "_law_folded", .str "_law_folded" 531, .ref 252⟩, ⟨PyData.keyHash P "_law_made", .str "_law_made" 545, .ref 259⟩, ⟨PyData.keyHash P "_law_told", .str "_law_told" 551, .ref 264⟩, ⟨PyData.keyHash P "_law_is_written", .str "_law_is_written" 557, .ref 269⟩, ⟨PyData.keyHash P "_law_parted", .str "_law_parted" 563, .ref 274⟩, ⟨PyData.keyHash P "_law_row_with", .str "_law_row_with" 569, .ref 279⟩])⟩) 45, ⟨[]⟩⟩
noncomputable def hd.o_247 : Params → Obj := fun P => ⟨.none, none, .fields (⟨(.int 2 0 :: .int 0 0 :: .ref 20 :: .int 11 0 :: .int 0 0 :: .ref 48 :: .int 15 0 :: .int 0 0 :: .ref 60 :: .int 17 0 :: .int 0 0 :: .ref 65 :: .int 21 0 :: .int 0 0 :: .ref 73 :: .int 32 0 :: .int 0 0 :: .ref 106 :: .int 39 0 :: .int 0 0 :: .ref 113 :: .int 44 0 :: .int 0 0 :: .ref 120 :: .int 47 0 :: .int 0 0 :: .ref 128 :: .int 63 0 :: .int 0 0 :: .ref 134 :: .int 66 0 :: .int 0 0 :: .ref 141 :: .int 75 0 :: .int 0 0 :: .ref 148 :: .int 86 0 :: .int 0 0 :: .ref 155 :: .int 89 0 :: .int 0 0 :: .ref 163 :: .int 103 0 :: .int 0 0 :: .ref 168 :: .int 106 0 :: .int 0 0 :: .ref 173 :: .int 109 0 :: .int 0 0 :: .ref 181 :: .int 112 0 :: .int 0 0 :: .ref 188 :: .int 123 0 :: .int 0 0 :: .ref 195 :: .int 130 0 :: .int 0 0 :: .ref 200 :: .int 137 0 :: .int 0 0 :: .ref 208 :: .int 143 0 :: .int 0 0 :: .ref 215 :: .int 150 0 :: .int 0 0 :: .ref 220 :: .int 153 0 :: .int 0 0 :: [.ref 225, .int 155 0, .int 0 0, .ref 232, .int 157 0, .int 0 0, .ref 239, .int 162 0, .int 0 0, .ref 244, .int 168 0, .int 0 0, .ref 251, .int 177 0, .int 0 0, .ref 258, .int 185 0, .int 0 0, .ref 263, .int 187 0, .int 0 0, .ref 268, .int 195 0, .int 0 0, .ref 273, .int 210 0, .int 0 0, .ref 278])⟩), ⟨[]⟩⟩
noncomputable def hd.o_248 : Params → Obj := fun P => ⟨.type "tuple", none, .seq (⟨[.bytes (⟨[116, 111]⟩) 461, .bytes (⟨[116, 111, 101]⟩) 462, .bytes (⟨[120, 91]⟩) 463, .bytes (⟨[120, 123]⟩) 464, .bytes (⟨[99, 99, 45, 49]⟩) 465]⟩) 0, ⟨[]⟩⟩
noncomputable def hd.o_249 : Params → Obj := fun P => ⟨.type "tuple", none, .seq (⟨[]⟩) 0, ⟨[]⟩⟩
noncomputable def hd.o_250 : Params → Obj := fun P => ⟨.none, none, .fields (⟨[]⟩), ⟨[]⟩⟩
noncomputable def hd.o_251 : Params → Obj := fun P => ⟨.type "tuple", none, .seq (⟨[.str "script" 470, .str "digits" 471, .str "seed" 472, .str "cell" 473]⟩) 0, ⟨[]⟩⟩
noncomputable def hd.o_252 : Params → Obj := fun P => ⟨.type "tuple", none, .seq (⟨[]⟩) 0, ⟨[]⟩⟩
noncomputable def hd.o_253 : Params → Obj := fun P => ⟨.none, none, .func ⟨"_law_tape", "_law_tape", hd.ar_22, .stmts hd.bd_22, hd.sc_22, 0, [], .none, .none, .none, .none, none, .none, .none, 0⟩, ⟨[]⟩⟩
noncomputable def hd.o_254 : Params → Obj := fun P => ⟨.type "code", none, .fields (⟨[.str "_law_tape" 467, .str "_law_tape" 468, .str "/claim/cut.py" 469, .int 137 0, .int 1 0, .int 0 0, .int 0 0, .int 3 0, .ref 203, .bool true, .int 181 0, .ref 204, .none, .ref 205, .ref 206, .ref 207, .int 474 0, .int 137 0, .str "/claim/cut.py" 475]⟩), ⟨[]⟩⟩
noncomputable def hd.o_255 : Params → Obj := fun P => ⟨.type "function", none, .func ⟨"_law_tape", "_law_tape", hd.ar_22, .stmts hd.bd_22, hd.sc_22, 3, [], .none, .none, .none, .str "law_pq0966_01" 459, none, .ref 208, .none, 0⟩, ⟨[]⟩⟩
noncomputable def hd.o_256 : Params → Obj := fun P => ⟨.type "tuple", none, .seq (⟨[]⟩) 0, ⟨[]⟩⟩
noncomputable def hd.o_257 : Params → Obj := fun P => ⟨.none, none, .fields (⟨[]⟩), ⟨[]⟩⟩
noncomputable def hd.o_258 : Params → Obj := fun P => ⟨.type "tuple", none, .seq (⟨[.str "tape" 480, .str "many" 481, .str "digit" 482]⟩) 0, ⟨[]⟩⟩
noncomputable def hd.o_259 : Params → Obj := fun P => ⟨.type "tuple", none, .seq (⟨[]⟩) 0, ⟨[]⟩⟩
noncomputable def hd.o_260 : Params → Obj := fun P => ⟨.none, none, .func ⟨"_law_draw", "_law_draw", hd.ar_23, .stmts hd.bd_23, hd.sc_23, 0, [], .none, .none, .none, .none, none, .none, .none, 0⟩, ⟨[]⟩⟩
noncomputable def hd.o_261 : Params → Obj := fun P => ⟨.type "code", none, .fields (⟨[.str "_law_draw" 477, .str "_law_draw" 478, .str "/claim/cut.py" 479, .int 143 0, .int 2 0, .int 0 0, .int 0 0, .int 3 0, .ref 210, .bool true, .int 181 0, .ref 211, .none, .ref 212, .ref 213, .ref 214, .int 483 0, .int 143 0, .str "/claim/cut.py" 484]⟩), ⟨[]⟩⟩
noncomputable def hd.o_262 : Params → Obj := fun P => ⟨.type "function", none, .func ⟨"_law_draw", "_law_draw", hd.ar_23, .stmts hd.bd_23, hd.sc_23, 3, [], .none, .none, .none, .str "law_pq0966_01" 459, none, .ref 215, .none, 0⟩, ⟨[]⟩⟩
noncomputable def hd.o_263 : Params → Obj := fun P => ⟨.type "tuple", none, .seq (⟨[]⟩) 0, ⟨[]⟩⟩
noncomputable def hd.o_264 : Params → Obj := fun P => ⟨.none, none, .fields (⟨[]⟩), ⟨[]⟩⟩
noncomputable def hd.o_265 : Params → Obj := fun P => ⟨.none, none, .func ⟨"_law_name", "_law_name", hd.ar_24, .stmts hd.bd_24, hd.sc_24, 0, [], .none, .none, .none, .none, none, .none, .none, 0⟩, ⟨[]⟩⟩
noncomputable def hd.o_266 : Params → Obj := fun P => ⟨.type "code", none, .fields (⟨[.str "_law_name" 486, .str "_law_name" 487, .str "/claim/cut.py" 488, .int 150 0, .int 1 0, .int 0 0, .int 0 0, .int 3 0, .ref 217, .bool true, .int 181 0, .ref 218, .none, .none, .none, .ref 219, .int 489 0, .int 150 0, .str "/claim/cut.py" 490]⟩), ⟨[]⟩⟩
noncomputable def hd.o_267 : Params → Obj := fun P => ⟨.type "function", none, .func ⟨"_law_name", "_law_name", hd.ar_24, .stmts hd.bd_24, hd.sc_24, 3, [], .none, .none, .none, .str "law_pq0966_01" 459, none, .ref 220, .none, 0⟩, ⟨[]⟩⟩
noncomputable def hd.o_268 : Params → Obj := fun P => ⟨.type "tuple", none, .seq (⟨[]⟩) 0, ⟨[]⟩⟩
noncomputable def hd.o_269 : Params → Obj := fun P => ⟨.none, none, .fields (⟨[]⟩), ⟨[]⟩⟩
noncomputable def hd.o_270 : Params → Obj := fun P => ⟨.none, none, .func ⟨"_law_small", "_law_small", hd.ar_25, .stmts hd.bd_25, hd.sc_25, 0, [], .none, .none, .none, .none, none, .none, .none, 0⟩, ⟨[]⟩⟩
noncomputable def hd.o_271 : Params → Obj := fun P => ⟨.type "code", none, .fields (⟨[.str "_law_small" 492, .str "_law_small" 493, .str "/claim/cut.py" 494, .int 153 0, .int 1 0, .int 0 0, .int 0 0, .int 3 0, .ref 222, .bool true, .int 181 0, .ref 223, .none, .none, .none, .ref 224, .int 495 0, .int 153 0, .str "/claim/cut.py" 496]⟩), ⟨[]⟩⟩
noncomputable def hd.o_272 : Params → Obj := fun P => ⟨.type "function", none, .func ⟨"_law_small", "_law_small", hd.ar_25, .stmts hd.bd_25, hd.sc_25, 3, [], .none, .none, .none, .str "law_pq0966_01" 459, none, .ref 225, .none, 0⟩, ⟨[]⟩⟩
noncomputable def hd.o_273 : Params → Obj := fun P => ⟨.type "tuple", none, .seq (⟨[]⟩) 0, ⟨[]⟩⟩
noncomputable def hd.o_274 : Params → Obj := fun P => ⟨.none, none, .fields (⟨[]⟩), ⟨[]⟩⟩
noncomputable def hd.o_275 : Params → Obj := fun P => ⟨.type "tuple", none, .seq (⟨[.str "tape" 501]⟩) 0, ⟨[]⟩⟩
noncomputable def hd.o_276 : Params → Obj := fun P => ⟨.type "tuple", none, .seq (⟨[]⟩) 0, ⟨[]⟩⟩
noncomputable def hd.o_277 : Params → Obj := fun P => ⟨.none, none, .func ⟨"_law_end", "_law_end", hd.ar_26, .stmts hd.bd_26, hd.sc_26, 0, [], .none, .none, .none, .none, none, .none, .none, 0⟩, ⟨[]⟩⟩
noncomputable def hd.o_278 : Params → Obj := fun P => ⟨.type "code", none, .fields (⟨[.str "_law_end" 498, .str "_law_end" 499, .str "/claim/cut.py" 500, .int 155 0, .int 1 0, .int 0 0, .int 0 0, .int 3 0, .ref 227, .bool true, .int 181 0, .ref 228, .none, .ref 229, .ref 230, .ref 231, .int 502 0, .int 155 0, .str "/claim/cut.py" 503]⟩), ⟨[]⟩⟩
noncomputable def hd.o_279 : Params → Obj := fun P => ⟨.type "function", none, .func ⟨"_law_end", "_law_end", hd.ar_26, .stmts hd.bd_26, hd.sc_26, 3, [], .none, .none, .none, .str "law_pq0966_01" 459, none, .ref 232, .none, 0⟩, ⟨[]⟩⟩
noncomputable def hd.o_280 : Params → Obj := fun P => ⟨.type "tuple", none, .seq (⟨[]⟩) 0, ⟨[]⟩⟩
noncomputable def hd.o_281 : Params → Obj := fun P => ⟨.none, none, .fields (⟨[]⟩), ⟨[]⟩⟩
noncomputable def hd.o_282 : Params → Obj := fun P => ⟨.type "tuple", none, .seq (⟨[.str "tape" 508, .str "raw" 509, .str "turn" 510]⟩) 0, ⟨[]⟩⟩
noncomputable def hd.o_283 : Params → Obj := fun P => ⟨.type "tuple", none, .seq (⟨[]⟩) 0, ⟨[]⟩⟩
noncomputable def hd.o_284 : Params → Obj := fun P => ⟨.none, none, .func ⟨"_law_raw", "_law_raw", hd.ar_27, .stmts hd.bd_27, hd.sc_27, 0, [], .none, .none, .none, .none, none, .none, .none, 0⟩, ⟨[]⟩⟩
noncomputable def hd.o_285 : Params → Obj := fun P => ⟨.type "code", none, .fields (⟨[.str "_law_raw" 505, .str "_law_raw" 506, .str "/claim/cut.py" 507, .int 157 0, .int 1 0, .int 0 0, .int 0 0, .int 3 0, .ref 234, .bool true, .int 181 0, .ref 235, .none, .ref 236, .ref 237, .ref 238, .int 511 0, .int 157 0, .str "/claim/cut.py" 512]⟩), ⟨[]⟩⟩
noncomputable def hd.o_286 : Params → Obj := fun P => ⟨.type "function", none, .func ⟨"_law_raw", "_law_raw", hd.ar_27, .stmts hd.bd_27, hd.sc_27, 3, [], .none, .none, .none, .str "law_pq0966_01" 459, none, .ref 239, .none, 0⟩, ⟨[]⟩⟩
noncomputable def hd.o_287 : Params → Obj := fun P => ⟨.type "tuple", none, .seq (⟨[]⟩) 0, ⟨[]⟩⟩
noncomputable def hd.o_288 : Params → Obj := fun P => ⟨.none, none, .fields (⟨[]⟩), ⟨[]⟩⟩
noncomputable def hd.o_289 : Params → Obj := fun P => ⟨.none, none, .func ⟨"_law_words", "_law_words", hd.ar_28, .stmts hd.bd_28, hd.sc_28, 0, [], .none, .none, .none, .none, none, .none, .none, 0⟩, ⟨[]⟩⟩
noncomputable def hd.o_290 : Params → Obj := fun P => ⟨.type "code", none, .fields (⟨[.str "_law_words" 514, .str "_law_words" 515, .str "/claim/cut.py" 516, .int 162 0, .int 1 0, .int 0 0, .int 0 0, .int 3 0, .ref 241, .bool true, .int 181 0, .ref 242, .none, .none, .none, .ref 243, .int 517 0, .int 162 0, .str "/claim/cut.py" 518]⟩), ⟨[]⟩⟩
noncomputable def hd.o_291 : Params → Obj := fun P => ⟨.type "function", none, .func ⟨"_law_words", "_law_words", hd.ar_28, .stmts hd.bd_28, hd.sc_28, 3, [], .none, .none, .none, .str "law_pq0966_01" 459, none, .ref 244, .none, 0⟩, ⟨[]⟩⟩
noncomputable def hd.o_292 : Params → Obj := fun P => ⟨.type "tuple", none, .seq (⟨[]⟩) 0, ⟨[]⟩⟩
noncomputable def hd.o_293 : Params → Obj := fun P => ⟨.none, none, .fields (⟨[]⟩), ⟨[]⟩⟩
noncomputable def hd.o_294 : Params → Obj := fun P => ⟨.type "tuple", none, .seq (⟨[.str "name" 523, .str "some" 524, .str "width" 525, .str "rows" 526, .str "used" 527, .str "piece" 528]⟩) 0, ⟨[]⟩⟩
noncomputable def hd.o_295 : Params → Obj := fun P => ⟨.type "tuple", none, .seq (⟨[]⟩) 0, ⟨[]⟩⟩
noncomputable def hd.o_296 : Params → Obj := fun P => ⟨.none, none, .func ⟨"_law_folded", "_law_folded", hd.ar_29, .stmts hd.bd_29, hd.sc_29, 0, [], .none, .none, .none, .none, none, .none, .none, 0⟩, ⟨[]⟩⟩
noncomputable def hd.o_297 : Params → Obj := fun P => ⟨.type "code", none, .fields (⟨[.str "_law_folded" 520, .str "_law_folded" 521, .str "/claim/cut.py" 522, .int 168 0, .int 3 0, .int 0 0, .int 0 0, .int 3 0, .ref 246, .bool true, .int 181 0, .ref 247, .none, .ref 248, .ref 249, .ref 250, .int 529 0, .int 168 0, .str "/claim/cut.py" 530]⟩), ⟨[]⟩⟩
noncomputable def hd.o_298 : Params → Obj := fun P => ⟨.type "function", none, .func ⟨"_law_folded", "_law_folded", hd.ar_29, .stmts hd.bd_29, hd.sc_29, 3, [], .none, .none, .none, .str "law_pq0966_01" 459, none, .ref 251, .none, 0⟩, ⟨[]⟩⟩
noncomputable def hd.o_299 : Params → Obj := fun P => ⟨.type "tuple", none, .seq (⟨[]⟩) 0, ⟨[]⟩⟩
noncomputable def hd.o_300 : Params → Obj := fun P => ⟨.none, none, .fields (⟨[]⟩), ⟨[]⟩⟩
noncomputable def hd.o_301 : Params → Obj := fun P => ⟨.type "tuple", none, .seq (⟨[.str "tape" 535, .str "name" 536, .str "width" 537, .str "body" 538, .str "some" 539, .str "turn" 540, .str "word" 541, .str "white" 542]⟩) 0, ⟨[]⟩⟩
noncomputable def hd.o_302 : Params → Obj := fun P => ⟨.type "tuple", none, .seq (⟨[]⟩) 0, ⟨[]⟩⟩
noncomputable def hd.o_303 : Params → Obj := fun P => ⟨.none, none, .func ⟨"_law_made", "_law_made", hd.ar_30, .stmts hd.bd_30, hd.sc_30, 0, [], .none, .none, .none, .none, none, .none, .none, 0⟩, ⟨[]⟩⟩
noncomputable def hd.o_304 : Params → Obj := fun P => ⟨.type "code", none, .fields (⟨[.str "_law_made" 532, .str "_law_made" 533, .str "/claim/cut.py" 534, .int 177 0, .int 1 0, .int 0 0, .int 0 0, .int 3 0, .ref 253, .bool true, .int 181 0, .ref 254, .none, .ref 255, .ref 256, .ref 257, .int 543 0, .int 177 0, .str "/claim/cut.py" 544]⟩), ⟨[]⟩⟩
noncomputable def hd.o_305 : Params → Obj := fun P => ⟨.type "function", none, .func ⟨"_law_made", "_law_made", hd.ar_30, .stmts hd.bd_30, hd.sc_30, 3, [], .none, .none, .none, .str "law_pq0966_01" 459, none, .ref 258, .none, 0⟩, ⟨[]⟩⟩
noncomputable def hd.o_306 : Params → Obj := fun P => ⟨.type "tuple", none, .seq (⟨[]⟩) 0, ⟨[]⟩⟩
noncomputable def hd.o_307 : Params → Obj := fun P => ⟨.none, none, .fields (⟨[]⟩), ⟨[]⟩⟩
noncomputable def hd.o_308 : Params → Obj := fun P => ⟨.none, none, .func ⟨"_law_told", "_law_told", hd.ar_31, .stmts hd.bd_31, hd.sc_31, 0, [], .none, .none, .none, .none, none, .none, .none, 0⟩, ⟨[]⟩⟩
noncomputable def hd.o_309 : Params → Obj := fun P => ⟨.type "code", none, .fields (⟨[.str "_law_told" 546, .str "_law_told" 547, .str "/claim/cut.py" 548, .int 185 0, .int 1 0, .int 0 0, .int 0 0, .int 3 0, .ref 260, .bool true, .int 181 0, .ref 261, .none, .none, .none, .ref 262, .int 549 0, .int 185 0, .str "/claim/cut.py" 550]⟩), ⟨[]⟩⟩
noncomputable def hd.o_310 : Params → Obj := fun P => ⟨.type "function", none, .func ⟨"_law_told", "_law_told", hd.ar_31, .stmts hd.bd_31, hd.sc_31, 3, [], .none, .none, .none, .str "law_pq0966_01" 459, none, .ref 263, .none, 0⟩, ⟨[]⟩⟩
noncomputable def hd.o_311 : Params → Obj := fun P => ⟨.type "tuple", none, .seq (⟨[]⟩) 0, ⟨[]⟩⟩
noncomputable def hd.o_312 : Params → Obj := fun P => ⟨.none, none, .fields (⟨[]⟩), ⟨[]⟩⟩
noncomputable def hd.o_313 : Params → Obj := fun P => ⟨.none, none, .func ⟨"_law_is_written", "_law_is_written", hd.ar_32, .stmts hd.bd_32, hd.sc_32, 0, [], .none, .none, .none, .none, none, .none, .none, 0⟩, ⟨[]⟩⟩
noncomputable def hd.o_314 : Params → Obj := fun P => ⟨.type "code", none, .fields (⟨[.str "_law_is_written" 552, .str "_law_is_written" 553, .str "/claim/cut.py" 554, .int 187 0, .int 2 0, .int 0 0, .int 0 0, .int 3 0, .ref 265, .bool true, .int 181 0, .ref 266, .none, .none, .none, .ref 267, .int 555 0, .int 187 0, .str "/claim/cut.py" 556]⟩), ⟨[]⟩⟩
noncomputable def hd.o_315 : Params → Obj := fun P => ⟨.type "function", none, .func ⟨"_law_is_written", "_law_is_written", hd.ar_32, .stmts hd.bd_32, hd.sc_32, 3, [], .none, .none, .none, .str "law_pq0966_01" 459, none, .ref 268, .none, 0⟩, ⟨[]⟩⟩
noncomputable def hd.o_316 : Params → Obj := fun P => ⟨.type "tuple", none, .seq (⟨[]⟩) 0, ⟨[]⟩⟩
noncomputable def hd.o_317 : Params → Obj := fun P => ⟨.none, none, .fields (⟨[]⟩), ⟨[]⟩⟩
noncomputable def hd.o_318 : Params → Obj := fun P => ⟨.none, none, .func ⟨"_law_parted", "_law_parted", hd.ar_33, .stmts hd.bd_33, hd.sc_33, 0, [], .none, .none, .none, .none, none, .none, .none, 0⟩, ⟨[]⟩⟩
noncomputable def hd.o_319 : Params → Obj := fun P => ⟨.type "code", none, .fields (⟨[.str "_law_parted" 558, .str "_law_parted" 559, .str "/claim/cut.py" 560, .int 195 0, .int 3 0, .int 0 0, .int 0 0, .int 3 0, .ref 270, .bool true, .int 181 0, .ref 271, .none, .none, .none, .ref 272, .int 561 0, .int 195 0, .str "/claim/cut.py" 562]⟩), ⟨[]⟩⟩
noncomputable def hd.o_320 : Params → Obj := fun P => ⟨.type "function", none, .func ⟨"_law_parted", "_law_parted", hd.ar_33, .stmts hd.bd_33, hd.sc_33, 3, [], .none, .none, .none, .str "law_pq0966_01" 459, none, .ref 273, .none, 0⟩, ⟨[]⟩⟩
noncomputable def hd.o_321 : Params → Obj := fun P => ⟨.type "tuple", none, .seq (⟨[]⟩) 0, ⟨[]⟩⟩
noncomputable def hd.o_322 : Params → Obj := fun P => ⟨.none, none, .fields (⟨[]⟩), ⟨[]⟩⟩
noncomputable def hd.o_323 : Params → Obj := fun P => ⟨.none, none, .func ⟨"_law_row_with", "_law_row_with", hd.ar_34, .stmts hd.bd_34, hd.sc_34, 0, [], .none, .none, .none, .none, none, .none, .none, 0⟩, ⟨[]⟩⟩
noncomputable def hd.o_324 : Params → Obj := fun P => ⟨.type "code", none, .fields (⟨[.str "_law_row_with" 564, .str "_law_row_with" 565, .str "/claim/cut.py" 566, .int 210 0, .int 3 0, .int 0 0, .int 0 0, .int 3 0, .ref 275, .bool true, .int 181 0, .ref 276, .none, .none, .none, .ref 277, .int 567 0, .int 210 0, .str "/claim/cut.py" 568]⟩), ⟨[]⟩⟩
noncomputable def hd.o_325 : Params → Obj := fun P => ⟨.type "function", none, .func ⟨"_law_row_with", "_law_row_with", hd.ar_34, .stmts hd.bd_34, hd.sc_34, 3, [], .none, .none, .none, .str "law_pq0966_01" 459, none, .ref 278, .none, 0⟩, ⟨[]⟩⟩
noncomputable def hd.o_326 : Params → Obj := fun P => ⟨.type "dict", none, .dict (⟨(⟨PyData.keyHash P "__name__", .str "__name__" 165, .str "law_pq0966_01" 459⟩ :: ⟨PyData.keyHash P "__doc__", .str "__doc__" 166, .none⟩ :: ⟨PyData.keyHash P "__package__", .str "__package__" 167, .none⟩ :: ⟨PyData.keyHash P "__loader__", .str "__loader__" 168, .builtin "__main__.__loader__#opaque"⟩ :: ⟨PyData.keyHash P "__spec__", .str "__spec__" 169, .none⟩ :: ⟨PyData.keyHash P "__annotations__", .str "__annotations__" 170, .ref 6⟩ :: ⟨PyData.keyHash P "__builtins__", .str "__builtins__" 171, .ref 4⟩ :: ⟨PyData.keyHash P "__file__", .str "__file__" 173, .str "/claim/cut.py" 172⟩ :: ⟨PyData.keyHash P "__cached__", .str "__cached__" 174, .none⟩ :: ⟨PyData.keyHash P "PostError", .str "PostError" 228, .ref 39⟩ :: ⟨PyData.keyHash P "WordFault", .str "WordFault" 244, .ref 52⟩ :: ⟨PyData.keyHash P "CRLF", .str "CRLF" 248, .bytes (⟨[13, 10]⟩) 247⟩ :: ⟨PyData.keyHash P "lower_code", .str "lower_code" 255, .ref 61⟩ :: ⟨PyData.keyHash P "lower_text", .str "lower_text" 261, .ref 66⟩ :: ⟨PyData.keyHash P "WHITE", .str "WHITE" 266, .ref 67⟩ :: ⟨PyData.keyHash P "Field", .str "Field" 310, .ref 96⟩ :: ⟨PyData.keyHash P "line_at", .str "line_at" 320, .ref 107⟩ :: ⟨PyData.keyHash P "is_name", .str "is_name" 328, .ref 114⟩ :: [⟨PyData.keyHash P "colon_in", .str "colon_in" 338, .ref 121⟩, ⟨PyData.keyHash P "read_spans", .str "read_spans" 356, .ref 129⟩, ⟨PyData.keyHash P "read_fields", .str "read_fields" 365, .ref 135⟩, ⟨PyData.keyHash P "rows_of", .str "rows_of" 376, .ref 142⟩, ⟨PyData.keyHash P "pieces_of", .str "pieces_of" 386, .ref 149⟩, ⟨PyData.keyHash P "check_name", .str "check_name" 393, .ref 156⟩, ⟨PyData.keyHash P "folded", .str "folded" 409, .ref 164⟩, ⟨PyData.keyHash P "only_words", .str "only_words" 415, .ref 169⟩, ⟨PyData.keyHash P "without_words", .str "without_words" 421, .ref 174⟩, ⟨PyData.keyHash P "made_field", .str "made_field" 432, .ref 182⟩, ⟨PyData.keyHash P "with_field", .str "with_field" 444, .ref 189⟩, ⟨PyData.keyHash P "is_sound", .str "is_sound" 452, .ref 196⟩, ⟨PyData.keyHash P "write_fields", .str "write_fields" 458, .ref 201⟩, ⟨PyData.keyHash P "_law_names", .str "_law_names" 466, .ref 202⟩, ⟨PyData.keyHash P "_law_tape", .str "_law_tape" 476, .ref 209⟩, ⟨PyData.keyHash P "_law_draw", .str "_law_draw" 485, .ref 216⟩, ⟨PyData.keyHash P "_law_name", .str "_law_name" 491, .ref 221⟩, ⟨PyData.keyHash P "_law_small", .str "_law_small" 497, .ref 226⟩, ⟨PyData.keyHash P "_law_end", .str "_law_end" 504, .ref 233⟩, ⟨PyData.keyHash P "_law_raw", .str "_law_raw" 513, .ref 240⟩, ⟨PyData.keyHash P "_law_words", .str "_law_words" 519, .ref 245⟩, ⟨PyData.keyHash P "_law_folded", .str "_law_folded" 531, .ref 252⟩, ⟨PyData.keyHash P "_law_made", .str "_law_made" 545, .ref 259⟩, ⟨PyData.keyHash P "_law_told", .str "_law_told" 551, .ref 264⟩, ⟨PyData.keyHash P "_law_is_written", .str "_law_is_written" 557, .ref 269⟩, ⟨PyData.keyHash P "_law_parted", .str "_law_parted" 563, .ref 274⟩, ⟨PyData.keyHash P "_law_row_with", .str "_law_row_with" 569, .ref 279⟩, ⟨PyData.keyHash P "law", .str "law" 575, .ref 284⟩])⟩) 46, ⟨[]⟩⟩
noncomputable def hd.o_327 : Params → Obj := fun P => ⟨.none, none, .fields (⟨(.int 2 0 :: .int 0 0 :: .ref 20 :: .int 11 0 :: .int 0 0 :: .ref 48 :: .int 15 0 :: .int 0 0 :: .ref 60 :: .int 17 0 :: .int 0 0 :: .ref 65 :: .int 21 0 :: .int 0 0 :: .ref 73 :: .int 32 0 :: .int 0 0 :: .ref 106 :: .int 39 0 :: .int 0 0 :: .ref 113 :: .int 44 0 :: .int 0 0 :: .ref 120 :: .int 47 0 :: .int 0 0 :: .ref 128 :: .int 63 0 :: .int 0 0 :: .ref 134 :: .int 66 0 :: .int 0 0 :: .ref 141 :: .int 75 0 :: .int 0 0 :: .ref 148 :: .int 86 0 :: .int 0 0 :: .ref 155 :: .int 89 0 :: .int 0 0 :: .ref 163 :: .int 103 0 :: .int 0 0 :: .ref 168 :: .int 106 0 :: .int 0 0 :: .ref 173 :: .int 109 0 :: .int 0 0 :: .ref 181 :: .int 112 0 :: .int 0 0 :: .ref 188 :: .int 123 0 :: .int 0 0 :: .ref 195 :: .int 130 0 :: .int 0 0 :: .ref 200 :: .int 137 0 :: .int 0 0 :: .ref 208 :: .int 143 0 :: .int 0 0 :: .ref 215 :: .int 150 0 :: .int 0 0 :: .ref 220 :: .int 153 0 :: .int 0 0 :: .ref 225 :: .int 155 0 :: .int 0 0 :: [.ref 232, .int 157 0, .int 0 0, .ref 239, .int 162 0, .int 0 0, .ref 244, .int 168 0, .int 0 0, .ref 251, .int 177 0, .int 0 0, .ref 258, .int 185 0, .int 0 0, .ref 263, .int 187 0, .int 0 0, .ref 268, .int 195 0, .int 0 0, .ref 273, .int 210 0, .int 0 0, .ref 278, .int 215 0, .int 0 0, .ref 283])⟩), ⟨[]⟩⟩
noncomputable def hd.o_328 : Params → Obj := fun P => ⟨.type "tuple", none, .seq (⟨[]⟩) 0, ⟨[]⟩⟩
noncomputable def hd.o_329 : Params → Obj := fun P => ⟨.none, none, .fields (⟨[]⟩), ⟨[]⟩⟩
noncomputable def hd.o_330 : Params → Obj := fun P => ⟨.none, none, .func ⟨"law", "law", hd.ar_35, .stmts hd.bd_35, hd.sc_35, 0, [], .none, .none, .none, .none, none, .none, .none, 0⟩, ⟨[]⟩⟩
noncomputable def hd.o_331 : Params → Obj := fun P => ⟨.type "code", none, .fields (⟨[.str "law" 570, .str "law" 571, .str "/claim/cut.py" 572, .int 215 0, .int 1 0, .int 0 0, .int 0 0, .int 3 0, .ref 280, .bool true, .int 181 0, .ref 281, .none, .none, .none, .ref 282, .int 573 0, .int 215 0, .str "/claim/cut.py" 574]⟩), ⟨[]⟩⟩
noncomputable def hd.o_332 : Params → Obj := fun P => ⟨.type "function", none, .func ⟨"law", "law", hd.ar_35, .stmts hd.bd_35, hd.sc_35, 3, [], .none, .none, .none, .str "law_pq0966_01" 459, none, .ref 283, .none, 0⟩, ⟨[]⟩⟩
noncomputable def hd.heap_46 : Params → Heap := fun P => ⟨⟨[boot_o_0 P, boot_o_1 P, boot_o_2 P, boot_o_3 P, boot_o_4 P, boot_o_5 P, boot_o_6 P, boot_o_7 P, boot_o_8 P, boot_o_9 P, boot_o_10 P, hd.o_43 P, hd.o_44 P, hd.o_45 P, hd.o_46 P]⟩, ⟨[], [], [], 0, [], [], false, ⟨[]⟩, [], 0, false, false, false, 0, [2000, 10, 10], false, 0, true, [], [], 0, false⟩⟩
noncomputable def hd.tree_47 : Params → BT := fun P => .node (boot_o_0 P) (.node (boot_o_1 P) (.node (boot_o_3 P) (.node (boot_o_7 P) .nil .nil) (.node (hd.o_43 P) .nil .nil)) (.node (boot_o_5 P) (.node (boot_o_9 P) .nil .nil) (.node (hd.o_45 P) .nil .nil))) (.node (boot_o_2 P) (.node (boot_o_4 P) (.node (boot_o_8 P) .nil .nil) (.node (hd.o_44 P) .nil .nil)) (.node (boot_o_6 P) (.node (boot_o_10 P) .nil .nil) (.node (hd.o_46 P) .nil .nil)))
noncomputable def hd.tree_79 : Params → BT := fun P => .node (boot_o_0 P) (.node (boot_o_1 P) (.node (hd.o_50 P) (.node (boot_o_7 P) (.node (hd.o_52 P) (.node (hd.o_68 P) .nil .nil) .nil) (.node (hd.o_60 P) (.node (hd.o_76 P) .nil .nil) .nil)) (.node (hd.o_43 P) (.node (hd.o_56 P) (.node (hd.o_72 P) .nil .nil) .nil) (.node (hd.o_64 P) .nil .nil))) (.node (boot_o_5 P) (.node (boot_o_9 P) (.node (hd.o_54 P) (.node (hd.o_70 P) .nil .nil) .nil) (.node (hd.o_62 P) (.node (hd.o_78 P) .nil .nil) .nil)) (.node (hd.o_45 P) (.node (hd.o_58 P) (.node (hd.o_74 P) .nil .nil) .nil) (.node (hd.o_66 P) .nil .nil)))) (.node (hd.o_49 P) (.node (boot_o_4 P) (.node (boot_o_8 P) (.node (hd.o_53 P) (.node (hd.o_69 P) .nil .nil) .nil) (.node (hd.o_61 P) (.node (hd.o_77 P) .nil .nil) .nil)) (.node (hd.o_51 P) (.node (hd.o_57 P) (.node (hd.o_73 P) .nil .nil) .nil) (.node (hd.o_65 P) .nil .nil))) (.node (boot_o_6 P) (.node (boot_o_10 P) (.node (hd.o_55 P) (.node (hd.o_71 P) .nil .nil) .nil) (.node (hd.o_63 P) (.node (hd.o_79 P) .nil .nil) .nil)) (.node (hd.o_46 P) (.node (hd.o_59 P) (.node (hd.o_75 P) .nil .nil) .nil) (.node (hd.o_67 P) .nil .nil))))
noncomputable def hd.tree_107 : Params → BT := fun P => .node (boot_o_0 P) (.node (boot_o_1 P) (.node (hd.o_80 P) (.node (boot_o_7 P) (.node (hd.o_52 P) (.node (hd.o_68 P) (.node (hd.o_103 P) .nil .nil) .nil) (.node (hd.o_87 P) .nil .nil)) (.node (hd.o_60 P) (.node (hd.o_82 P) .nil .nil) (.node (hd.o_95 P) .nil .nil))) (.node (hd.o_43 P) (.node (hd.o_56 P) (.node (hd.o_72 P) (.node (hd.o_107 P) .nil .nil) .nil) (.node (hd.o_91 P) .nil .nil)) (.node (hd.o_64 P) (.node (hd.o_83 P) .nil .nil) (.node (hd.o_99 P) .nil .nil)))) (.node (boot_o_5 P) (.node (boot_o_9 P) (.node (hd.o_54 P) (.node (hd.o_70 P) (.node (hd.o_105 P) .nil .nil) .nil) (.node (hd.o_89 P) .nil .nil)) (.node (hd.o_62 P) (.node (hd.o_78 P) .nil .nil) (.node (hd.o_97 P) .nil .nil))) (.node (hd.o_45 P) (.node (hd.o_58 P) (.node (hd.o_74 P) .nil .nil) (.node (hd.o_93 P) .nil .nil)) (.node (hd.o_66 P) (.node (hd.o_85 P) .nil .nil) (.node (hd.o_101 P) .nil .nil))))) (.node (hd.o_49 P) (.node (boot_o_4 P) (.node (boot_o_8 P) (.node (hd.o_53 P) (.node (hd.o_69 P) (.node (hd.o_104 P) .nil .nil) .nil) (.node (hd.o_88 P) .nil .nil)) (.node (hd.o_61 P) (.node (hd.o_77 P) .nil .nil) (.node (hd.o_96 P) .nil .nil))) (.node (hd.o_81 P) (.node (hd.o_57 P) (.node (hd.o_73 P) .nil .nil) (.node (hd.o_92 P) .nil .nil)) (.node (hd.o_65 P) (.node (hd.o_84 P) .nil .nil) (.node (hd.o_100 P) .nil .nil)))) (.node (boot_o_6 P) (.node (boot_o_10 P) (.node (hd.o_55 P) (.node (hd.o_71 P) (.node (hd.o_106 P) .nil .nil) .nil) (.node (hd.o_90 P) .nil .nil)) (.node (hd.o_63 P) (.node (hd.o_79 P) .nil .nil) (.node (hd.o_98 P) .nil .nil))) (.node (hd.o_46 P) (.node (hd.o_59 P) (.node (hd.o_75 P) .nil .nil) (.node (hd.o_94 P) .nil .nil)) (.node (hd.o_67 P) (.node (hd.o_86 P) .nil .nil) (.node (hd.o_102 P) .nil .nil)))))
noncomputable def hd.tree_163 : Params → BT := fun P => .node (boot_o_0 P) (.node (boot_o_1 P) (.node (hd.o_108 P) (.node (boot_o_7 P) (.node (hd.o_52 P) (.node (hd.o_68 P) (.node (hd.o_103 P) .nil .nil) (.node (hd.o_137 P) .nil .nil)) (.node (hd.o_87 P) (.node (hd.o_121 P) .nil .nil) (.node (hd.o_153 P) .nil .nil))) (.node (hd.o_60 P) (.node (hd.o_82 P) (.node (hd.o_113 P) .nil .nil) (.node (hd.o_145 P) .nil .nil)) (.node (hd.o_95 P) (.node (hd.o_129 P) .nil .nil) (.node (hd.o_161 P) .nil .nil)))) (.node (hd.o_43 P) (.node (hd.o_56 P) (.node (hd.o_72 P) (.node (hd.o_107 P) .nil .nil) (.node (hd.o_141 P) .nil .nil)) (.node (hd.o_91 P) (.node (hd.o_125 P) .nil .nil) (.node (hd.o_157 P) .nil .nil))) (.node (hd.o_64 P) (.node (hd.o_83 P) (.node (hd.o_117 P) .nil .nil) (.node (hd.o_149 P) .nil .nil)) (.node (hd.o_99 P) (.node (hd.o_133 P) .nil .nil) .nil)))) (.node (boot_o_5 P) (.node (boot_o_9 P) (.node (hd.o_54 P) (.node (hd.o_70 P) (.node (hd.o_105 P) .nil .nil) (.node (hd.o_139 P) .nil .nil)) (.node (hd.o_89 P) (.node (hd.o_123 P) .nil .nil) (.node (hd.o_155 P) .nil .nil))) (.node (hd.o_62 P) (.node (hd.o_78 P) (.node (hd.o_115 P) .nil .nil) (.node (hd.o_147 P) .nil .nil)) (.node (hd.o_97 P) (.node (hd.o_131 P) .nil .nil) (.node (hd.o_163 P) .nil .nil)))) (.node (hd.o_45 P) (.node (hd.o_58 P) (.node (hd.o_74 P) (.node (hd.o_111 P) .nil .nil) (.node (hd.o_143 P) .nil .nil)) (.node (hd.o_93 P) (.node (hd.o_127 P) .nil .nil) (.node (hd.o_159 P) .nil .nil))) (.node (hd.o_66 P) (.node (hd.o_85 P) (.node (hd.o_119 P) .nil .nil) (.node (hd.o_151 P) .nil .nil)) (.node (hd.o_101 P) (.node (hd.o_135 P) .nil .nil) .nil))))) (.node (hd.o_49 P) (.node (boot_o_4 P) (.node (boot_o_8 P) (.node (hd.o_53 P) (.node (hd.o_69 P) (.node (hd.o_104 P) .nil .nil) (.node (hd.o_138 P) .nil .nil)) (.node (hd.o_88 P) (.node (hd.o_122 P) .nil .nil) (.node (hd.o_154 P) .nil .nil))) (.node (hd.o_61 P) (.node (hd.o_77 P) (.node (hd.o_114 P) .nil .nil) (.node (hd.o_146 P) .nil .nil)) (.node (hd.o_96 P) (.node (hd.o_130 P) .nil .nil) (.node (hd.o_162 P) .nil .nil)))) (.node (hd.o_109 P) (.node (hd.o_57 P) (.node (hd.o_73 P) (.node (hd.o_110 P) .nil .nil) (.node (hd.o_142 P) .nil .nil)) (.node (hd.o_92 P) (.node (hd.o_126 P) .nil .nil) (.node (hd.o_158 P) .nil .nil))) (.node (hd.o_65 P) (.node (hd.o_84 P) (.node (hd.o_118 P) .nil .nil) (.node (hd.o_150 P) .nil .nil)) (.node (hd.o_100 P) (.node (hd.o_134 P) .nil .nil) .nil)))) (.node (boot_o_6 P) (.node (boot_o_10 P) (.node (hd.o_55 P) (.node (hd.o_71 P) (.node (hd.o_106 P) .nil .nil) (.node (hd.o_140 P) .nil .nil)) (.node (hd.o_90 P) (.node (hd.o_124 P) .nil .nil) (.node (hd.o_156 P) .nil .nil))) (.node (hd.o_63 P) (.node (hd.o_79 P) (.node (hd.o_116 P) .nil .nil) (.node (hd.o_148 P) .nil .nil)) (.node (hd.o_98 P) (.node (hd.o_132 P) .nil .nil) .nil))) (.node (hd.o_46 P) (.node (hd.o_59 P) (.node (hd.o_75 P) (.node (hd.o_112 P) .nil .nil) (.node (hd.o_144 P) .nil .nil)) (.node (hd.o_94 P) (.node (hd.o_128 P) .nil .nil) (.node (hd.o_160 P) .nil .nil))) (.node (hd.o_67 P) (.node (hd.o_86 P) (.node (hd.o_120 P) .nil .nil) (.node (hd.o_152 P) .nil .nil)) (.node (hd.o_102 P) (.node (hd.o_136 P) .nil .nil) .nil)))))
noncomputable def hd.tree_245 : Params → BT := fun P => .node (boot_o_0 P) (.node (boot_o_1 P) (.node (hd.o_164 P) (.node (boot_o_7 P) (.node (hd.o_52 P) (.node (hd.o_68 P) (.node (hd.o_103 P) (.node (hd.o_171 P) .nil .nil) (.node (hd.o_235 P) .nil .nil)) (.node (hd.o_137 P) (.node (hd.o_203 P) .nil .nil) .nil)) (.node (hd.o_87 P) (.node (hd.o_121 P) (.node (hd.o_187 P) .nil .nil) .nil) (.node (hd.o_153 P) (.node (hd.o_219 P) .nil .nil) .nil))) (.node (hd.o_60 P) (.node (hd.o_82 P) (.node (hd.o_113 P) (.node (hd.o_179 P) .nil .nil) (.node (hd.o_243 P) .nil .nil)) (.node (hd.o_145 P) (.node (hd.o_211 P) .nil .nil) .nil)) (.node (hd.o_95 P) (.node (hd.o_129 P) (.node (hd.o_195 P) .nil .nil) .nil) (.node (hd.o_161 P) (.node (hd.o_227 P) .nil .nil) .nil)))) (.node (hd.o_43 P) (.node (hd.o_56 P) (.node (hd.o_72 P) (.node (hd.o_107 P) (.node (hd.o_175 P) .nil .nil) (.node (hd.o_239 P) .nil .nil)) (.node (hd.o_141 P) (.node (hd.o_207 P) .nil .nil) .nil)) (.node (hd.o_91 P) (.node (hd.o_125 P) (.node (hd.o_191 P) .nil .nil) .nil) (.node (hd.o_157 P) (.node (hd.o_223 P) .nil .nil) .nil))) (.node (hd.o_64 P) (.node (hd.o_83 P) (.node (hd.o_117 P) (.node (hd.o_183 P) .nil .nil) .nil) (.node (hd.o_149 P) (.node (hd.o_215 P) .nil .nil) .nil)) (.node (hd.o_99 P) (.node (hd.o_133 P) (.node (hd.o_199 P) .nil .nil) .nil) (.node (hd.o_167 P) (.node (hd.o_231 P) .nil .nil) .nil))))) (.node (boot_o_5 P) (.node (boot_o_9 P) (.node (hd.o_54 P) (.node (hd.o_70 P) (.node (hd.o_105 P) (.node (hd.o_173 P) .nil .nil) (.node (hd.o_237 P) .nil .nil)) (.node (hd.o_139 P) (.node (hd.o_205 P) .nil .nil) .nil)) (.node (hd.o_89 P) (.node (hd.o_123 P) (.node (hd.o_189 P) .nil .nil) .nil) (.node (hd.o_155 P) (.node (hd.o_221 P) .nil .nil) .nil))) (.node (hd.o_62 P) (.node (hd.o_78 P) (.node (hd.o_115 P) (.node (hd.o_181 P) .nil .nil) (.node (hd.o_245 P) .nil .nil)) (.node (hd.o_147 P) (.node (hd.o_213 P) .nil .nil) .nil)) (.node (hd.o_97 P) (.node (hd.o_131 P) (.node (hd.o_197 P) .nil .nil) .nil) (.node (hd.o_163 P) (.node (hd.o_229 P) .nil .nil) .nil)))) (.node (hd.o_45 P) (.node (hd.o_58 P) (.node (hd.o_74 P) (.node (hd.o_111 P) (.node (hd.o_177 P) .nil .nil) (.node (hd.o_241 P) .nil .nil)) (.node (hd.o_143 P) (.node (hd.o_209 P) .nil .nil) .nil)) (.node (hd.o_93 P) (.node (hd.o_127 P) (.node (hd.o_193 P) .nil .nil) .nil) (.node (hd.o_159 P) (.node (hd.o_225 P) .nil .nil) .nil))) (.node (hd.o_66 P) (.node (hd.o_85 P) (.node (hd.o_119 P) (.node (hd.o_185 P) .nil .nil) .nil) (.node (hd.o_151 P) (.node (hd.o_217 P) .nil .nil) .nil)) (.node (hd.o_101 P) (.node (hd.o_135 P) (.node (hd.o_201 P) .nil .nil) .nil) (.node (hd.o_169 P) (.node (hd.o_233 P) .nil .nil) .nil)))))) (.node (hd.o_49 P) (.node (boot_o_4 P) (.node (boot_o_8 P) (.node (hd.o_53 P) (.node (hd.o_69 P) (.node (hd.o_104 P) (.node (hd.o_172 P) .nil .nil) (.node (hd.o_236 P) .nil .nil)) (.node (hd.o_138 P) (.node (hd.o_204 P) .nil .nil) .nil)) (.node (hd.o_88 P) (.node (hd.o_122 P) (.node (hd.o_188 P) .nil .nil) .nil) (.node (hd.o_154 P) (.node (hd.o_220 P) .nil .nil) .nil))) (.node (hd.o_61 P) (.node (hd.o_77 P) (.node (hd.o_114 P) (.node (hd.o_180 P) .nil .nil) (.node (hd.o_244 P) .nil .nil)) (.node (hd.o_146 P) (.node (hd.o_212 P) .nil .nil) .nil)) (.node (hd.o_96 P) (.node (hd.o_130 P) (.node (hd.o_196 P) .nil .nil) .nil) (.node (hd.o_162 P) (.node (hd.o_228 P) .nil .nil) .nil)))) (.node (hd.o_165 P) (.node (hd.o_57 P) (.node (hd.o_73 P) (.node (hd.o_110 P) (.node (hd.o_176 P) .nil .nil) (.node (hd.o_240 P) .nil .nil)) (.node (hd.o_142 P) (.node (hd.o_208 P) .nil .nil) .nil)) (.node (hd.o_92 P) (.node (hd.o_126 P) (.node (hd.o_192 P) .nil .nil) .nil) (.node (hd.o_158 P) (.node (hd.o_224 P) .nil .nil) .nil))) (.node (hd.o_65 P) (.node (hd.o_84 P) (.node (hd.o_118 P) (.node (hd.o_184 P) .nil .nil) .nil) (.node (hd.o_150 P) (.node (hd.o_216 P) .nil .nil) .nil)) (.node (hd.o_100 P) (.node (hd.o_134 P) (.node (hd.o_200 P) .nil .nil) .nil) (.node (hd.o_168 P) (.node (hd.o_232 P) .nil .nil) .nil))))) (.node (boot_o_6 P) (.node (boot_o_10 P) (.node (hd.o_55 P) (.node (hd.o_71 P) (.node (hd.o_106 P) (.node (hd.o_174 P) .nil .nil) (.node (hd.o_238 P) .nil .nil)) (.node (hd.o_140 P) (.node (hd.o_206 P) .nil .nil) .nil)) (.node (hd.o_90 P) (.node (hd.o_124 P) (.node (hd.o_190 P) .nil .nil) .nil) (.node (hd.o_156 P) (.node (hd.o_222 P) .nil .nil) .nil))) (.node (hd.o_63 P) (.node (hd.o_79 P) (.node (hd.o_116 P) (.node (hd.o_182 P) .nil .nil) .nil) (.node (hd.o_148 P) (.node (hd.o_214 P) .nil .nil) .nil)) (.node (hd.o_98 P) (.node (hd.o_132 P) (.node (hd.o_198 P) .nil .nil) .nil) (.node (hd.o_166 P) (.node (hd.o_230 P) .nil .nil) .nil)))) (.node (hd.o_46 P) (.node (hd.o_59 P) (.node (hd.o_75 P) (.node (hd.o_112 P) (.node (hd.o_178 P) .nil .nil) (.node (hd.o_242 P) .nil .nil)) (.node (hd.o_144 P) (.node (hd.o_210 P) .nil .nil) .nil)) (.node (hd.o_94 P) (.node (hd.o_128 P) (.node (hd.o_194 P) .nil .nil) .nil) (.node (hd.o_160 P) (.node (hd.o_226 P) .nil .nil) .nil))) (.node (hd.o_67 P) (.node (hd.o_86 P) (.node (hd.o_120 P) (.node (hd.o_186 P) .nil .nil) .nil) (.node (hd.o_152 P) (.node (hd.o_218 P) .nil .nil) .nil)) (.node (hd.o_102 P) (.node (hd.o_136 P) (.node (hd.o_202 P) .nil .nil) .nil) (.node (hd.o_170 P) (.node (hd.o_234 P) .nil .nil) .nil))))))
noncomputable def hd.tree_325 : Params → BT := fun P => .node (boot_o_0 P) (.node (boot_o_1 P) (.node (hd.o_246 P) (.node (boot_o_7 P) (.node (hd.o_52 P) (.node (hd.o_68 P) (.node (hd.o_103 P) (.node (hd.o_171 P) (.node (hd.o_301 P) .nil .nil) .nil) (.node (hd.o_235 P) .nil .nil)) (.node (hd.o_137 P) (.node (hd.o_203 P) .nil .nil) (.node (hd.o_269 P) .nil .nil))) (.node (hd.o_87 P) (.node (hd.o_121 P) (.node (hd.o_187 P) (.node (hd.o_317 P) .nil .nil) .nil) (.node (hd.o_253 P) .nil .nil)) (.node (hd.o_153 P) (.node (hd.o_219 P) .nil .nil) (.node (hd.o_285 P) .nil .nil)))) (.node (hd.o_60 P) (.node (hd.o_82 P) (.node (hd.o_113 P) (.node (hd.o_179 P) (.node (hd.o_309 P) .nil .nil) .nil) (.node (hd.o_243 P) .nil .nil)) (.node (hd.o_145 P) (.node (hd.o_211 P) .nil .nil) (.node (hd.o_277 P) .nil .nil))) (.node (hd.o_95 P) (.node (hd.o_129 P) (.node (hd.o_195 P) (.node (hd.o_325 P) .nil .nil) .nil) (.node (hd.o_261 P) .nil .nil)) (.node (hd.o_161 P) (.node (hd.o_227 P) .nil .nil) (.node (hd.o_293 P) .nil .nil))))) (.node (hd.o_43 P) (.node (hd.o_56 P) (.node (hd.o_72 P) (.node (hd.o_107 P) (.node (hd.o_175 P) (.node (hd.o_305 P) .nil .nil) .nil) (.node (hd.o_239 P) .nil .nil)) (.node (hd.o_141 P) (.node (hd.o_207 P) .nil .nil) (.node (hd.o_273 P) .nil .nil))) (.node (hd.o_91 P) (.node (hd.o_125 P) (.node (hd.o_191 P) (.node (hd.o_321 P) .nil .nil) .nil) (.node (hd.o_257 P) .nil .nil)) (.node (hd.o_157 P) (.node (hd.o_223 P) .nil .nil) (.node (hd.o_289 P) .nil .nil)))) (.node (hd.o_64 P) (.node (hd.o_83 P) (.node (hd.o_117 P) (.node (hd.o_183 P) (.node (hd.o_313 P) .nil .nil) .nil) (.node (hd.o_249 P) .nil .nil)) (.node (hd.o_149 P) (.node (hd.o_215 P) .nil .nil) (.node (hd.o_281 P) .nil .nil))) (.node (hd.o_99 P) (.node (hd.o_133 P) (.node (hd.o_199 P) .nil .nil) (.node (hd.o_265 P) .nil .nil)) (.node (hd.o_167 P) (.node (hd.o_231 P) .nil .nil) (.node (hd.o_297 P) .nil .nil)))))) (.node (boot_o_5 P) (.node (boot_o_9 P) (.node (hd.o_54 P) (.node (hd.o_70 P) (.node (hd.o_105 P) (.node (hd.o_173 P) (.node (hd.o_303 P) .nil .nil) .nil) (.node (hd.o_237 P) .nil .nil)) (.node (hd.o_139 P) (.node (hd.o_205 P) .nil .nil) (.node (hd.o_271 P) .nil .nil))) (.node (hd.o_89 P) (.node (hd.o_123 P) (.node (hd.o_189 P) (.node (hd.o_319 P) .nil .nil) .nil) (.node (hd.o_255 P) .nil .nil)) (.node (hd.o_155 P) (.node (hd.o_221 P) .nil .nil) (.node (hd.o_287 P) .nil .nil)))) (.node (hd.o_62 P) (.node (hd.o_78 P) (.node (hd.o_115 P) (.node (hd.o_181 P) (.node (hd.o_311 P) .nil .nil) .nil) (.node (hd.o_245 P) .nil .nil)) (.node (hd.o_147 P) (.node (hd.o_213 P) .nil .nil) (.node (hd.o_279 P) .nil .nil))) (.node (hd.o_97 P) (.node (hd.o_131 P) (.node (hd.o_197 P) .nil .nil) (.node (hd.o_263 P) .nil .nil)) (.node (hd.o_163 P) (.node (hd.o_229 P) .nil .nil) (.node (hd.o_295 P) .nil .nil))))) (.node (hd.o_45 P) (.node (hd.o_58 P) (.node (hd.o_74 P) (.node (hd.o_111 P) (.node (hd.o_177 P) (.node (hd.o_307 P) .nil .nil) .nil) (.node (hd.o_241 P) .nil .nil)) (.node (hd.o_143 P) (.node (hd.o_209 P) .nil .nil) (.node (hd.o_275 P) .nil .nil))) (.node (hd.o_93 P) (.node (hd.o_127 P) (.node (hd.o_193 P) (.node (hd.o_323 P) .nil .nil) .nil) (.node (hd.o_259 P) .nil .nil)) (.node (hd.o_159 P) (.node (hd.o_225 P) .nil .nil) (.node (hd.o_291 P) .nil .nil)))) (.node (hd.o_66 P) (.node (hd.o_85 P) (.node (hd.o_119 P) (.node (hd.o_185 P) (.node (hd.o_315 P) .nil .nil) .nil) (.node (hd.o_251 P) .nil .nil)) (.node (hd.o_151 P) (.node (hd.o_217 P) .nil .nil) (.node (hd.o_283 P) .nil .nil))) (.node (hd.o_101 P) (.node (hd.o_135 P) (.node (hd.o_201 P) .nil .nil) (.node (hd.o_267 P) .nil .nil)) (.node (hd.o_169 P) (.node (hd.o_233 P) .nil .nil) (.node (hd.o_299 P) .nil .nil))))))) (.node (hd.o_49 P) (.node (boot_o_4 P) (.node (boot_o_8 P) (.node (hd.o_53 P) (.node (hd.o_69 P) (.node (hd.o_104 P) (.node (hd.o_172 P) (.node (hd.o_302 P) .nil .nil) .nil) (.node (hd.o_236 P) .nil .nil)) (.node (hd.o_138 P) (.node (hd.o_204 P) .nil .nil) (.node (hd.o_270 P) .nil .nil))) (.node (hd.o_88 P) (.node (hd.o_122 P) (.node (hd.o_188 P) (.node (hd.o_318 P) .nil .nil) .nil) (.node (hd.o_254 P) .nil .nil)) (.node (hd.o_154 P) (.node (hd.o_220 P) .nil .nil) (.node (hd.o_286 P) .nil .nil)))) (.node (hd.o_61 P) (.node (hd.o_77 P) (.node (hd.o_114 P) (.node (hd.o_180 P) (.node (hd.o_310 P) .nil .nil) .nil) (.node (hd.o_244 P) .nil .nil)) (.node (hd.o_146 P) (.node (hd.o_212 P) .nil .nil) (.node (hd.o_278 P) .nil .nil))) (.node (hd.o_96 P) (.node (hd.o_130 P) (.node (hd.o_196 P) .nil .nil) (.node (hd.o_262 P) .nil .nil)) (.node (hd.o_162 P) (.node (hd.o_228 P) .nil .nil) (.node (hd.o_294 P) .nil .nil))))) (.node (hd.o_247 P) (.node (hd.o_57 P) (.node (hd.o_73 P) (.node (hd.o_110 P) (.node (hd.o_176 P) (.node (hd.o_306 P) .nil .nil) .nil) (.node (hd.o_240 P) .nil .nil)) (.node (hd.o_142 P) (.node (hd.o_208 P) .nil .nil) (.node (hd.o_274 P) .nil .nil))) (.node (hd.o_92 P) (.node (hd.o_126 P) (.node (hd.o_192 P) (.node (hd.o_322 P) .nil .nil) .nil) (.node (hd.o_258 P) .nil .nil)) (.node (hd.o_158 P) (.node (hd.o_224 P) .nil .nil) (.node (hd.o_290 P) .nil .nil)))) (.node (hd.o_65 P) (.node (hd.o_84 P) (.node (hd.o_118 P) (.node (hd.o_184 P) (.node (hd.o_314 P) .nil .nil) .nil) (.node (hd.o_250 P) .nil .nil)) (.node (hd.o_150 P) (.node (hd.o_216 P) .nil .nil) (.node (hd.o_282 P) .nil .nil))) (.node (hd.o_100 P) (.node (hd.o_134 P) (.node (hd.o_200 P) .nil .nil) (.node (hd.o_266 P) .nil .nil)) (.node (hd.o_168 P) (.node (hd.o_232 P) .nil .nil) (.node (hd.o_298 P) .nil .nil)))))) (.node (boot_o_6 P) (.node (boot_o_10 P) (.node (hd.o_55 P) (.node (hd.o_71 P) (.node (hd.o_106 P) (.node (hd.o_174 P) (.node (hd.o_304 P) .nil .nil) .nil) (.node (hd.o_238 P) .nil .nil)) (.node (hd.o_140 P) (.node (hd.o_206 P) .nil .nil) (.node (hd.o_272 P) .nil .nil))) (.node (hd.o_90 P) (.node (hd.o_124 P) (.node (hd.o_190 P) (.node (hd.o_320 P) .nil .nil) .nil) (.node (hd.o_256 P) .nil .nil)) (.node (hd.o_156 P) (.node (hd.o_222 P) .nil .nil) (.node (hd.o_288 P) .nil .nil)))) (.node (hd.o_63 P) (.node (hd.o_79 P) (.node (hd.o_116 P) (.node (hd.o_182 P) (.node (hd.o_312 P) .nil .nil) .nil) (.node (hd.o_248 P) .nil .nil)) (.node (hd.o_148 P) (.node (hd.o_214 P) .nil .nil) (.node (hd.o_280 P) .nil .nil))) (.node (hd.o_98 P) (.node (hd.o_132 P) (.node (hd.o_198 P) .nil .nil) (.node (hd.o_264 P) .nil .nil)) (.node (hd.o_166 P) (.node (hd.o_230 P) .nil .nil) (.node (hd.o_296 P) .nil .nil))))) (.node (hd.o_46 P) (.node (hd.o_59 P) (.node (hd.o_75 P) (.node (hd.o_112 P) (.node (hd.o_178 P) (.node (hd.o_308 P) .nil .nil) .nil) (.node (hd.o_242 P) .nil .nil)) (.node (hd.o_144 P) (.node (hd.o_210 P) .nil .nil) (.node (hd.o_276 P) .nil .nil))) (.node (hd.o_94 P) (.node (hd.o_128 P) (.node (hd.o_194 P) (.node (hd.o_324 P) .nil .nil) .nil) (.node (hd.o_260 P) .nil .nil)) (.node (hd.o_160 P) (.node (hd.o_226 P) .nil .nil) (.node (hd.o_292 P) .nil .nil)))) (.node (hd.o_67 P) (.node (hd.o_86 P) (.node (hd.o_120 P) (.node (hd.o_186 P) (.node (hd.o_316 P) .nil .nil) .nil) (.node (hd.o_252 P) .nil .nil)) (.node (hd.o_152 P) (.node (hd.o_218 P) .nil .nil) (.node (hd.o_284 P) .nil .nil))) (.node (hd.o_102 P) (.node (hd.o_136 P) (.node (hd.o_202 P) .nil .nil) (.node (hd.o_268 P) .nil .nil)) (.node (hd.o_170 P) (.node (hd.o_234 P) .nil .nil) (.node (hd.o_300 P) .nil .nil)))))))
noncomputable def hd.tree_332 : Params → BT := fun P => .node (boot_o_0 P) (.node (boot_o_1 P) (.node (hd.o_326 P) (.node (boot_o_7 P) (.node (hd.o_52 P) (.node (hd.o_68 P) (.node (hd.o_103 P) (.node (hd.o_171 P) (.node (hd.o_301 P) .nil .nil) .nil) (.node (hd.o_235 P) .nil .nil)) (.node (hd.o_137 P) (.node (hd.o_203 P) .nil .nil) (.node (hd.o_269 P) .nil .nil))) (.node (hd.o_87 P) (.node (hd.o_121 P) (.node (hd.o_187 P) (.node (hd.o_317 P) .nil .nil) .nil) (.node (hd.o_253 P) .nil .nil)) (.node (hd.o_153 P) (.node (hd.o_219 P) .nil .nil) (.node (hd.o_285 P) .nil .nil)))) (.node (hd.o_60 P) (.node (hd.o_82 P) (.node (hd.o_113 P) (.node (hd.o_179 P) (.node (hd.o_309 P) .nil .nil) .nil) (.node (hd.o_243 P) .nil .nil)) (.node (hd.o_145 P) (.node (hd.o_211 P) .nil .nil) (.node (hd.o_277 P) .nil .nil))) (.node (hd.o_95 P) (.node (hd.o_129 P) (.node (hd.o_195 P) (.node (hd.o_325 P) .nil .nil) .nil) (.node (hd.o_261 P) .nil .nil)) (.node (hd.o_161 P) (.node (hd.o_227 P) .nil .nil) (.node (hd.o_293 P) .nil .nil))))) (.node (hd.o_43 P) (.node (hd.o_56 P) (.node (hd.o_72 P) (.node (hd.o_107 P) (.node (hd.o_175 P) (.node (hd.o_305 P) .nil .nil) .nil) (.node (hd.o_239 P) .nil .nil)) (.node (hd.o_141 P) (.node (hd.o_207 P) .nil .nil) (.node (hd.o_273 P) .nil .nil))) (.node (hd.o_91 P) (.node (hd.o_125 P) (.node (hd.o_191 P) (.node (hd.o_321 P) .nil .nil) .nil) (.node (hd.o_257 P) .nil .nil)) (.node (hd.o_157 P) (.node (hd.o_223 P) .nil .nil) (.node (hd.o_289 P) .nil .nil)))) (.node (hd.o_64 P) (.node (hd.o_83 P) (.node (hd.o_117 P) (.node (hd.o_183 P) (.node (hd.o_313 P) .nil .nil) .nil) (.node (hd.o_249 P) .nil .nil)) (.node (hd.o_149 P) (.node (hd.o_215 P) .nil .nil) (.node (hd.o_281 P) .nil .nil))) (.node (hd.o_99 P) (.node (hd.o_133 P) (.node (hd.o_199 P) (.node (hd.o_331 P) .nil .nil) .nil) (.node (hd.o_265 P) .nil .nil)) (.node (hd.o_167 P) (.node (hd.o_231 P) .nil .nil) (.node (hd.o_297 P) .nil .nil)))))) (.node (boot_o_5 P) (.node (boot_o_9 P) (.node (hd.o_54 P) (.node (hd.o_70 P) (.node (hd.o_105 P) (.node (hd.o_173 P) (.node (hd.o_303 P) .nil .nil) .nil) (.node (hd.o_237 P) .nil .nil)) (.node (hd.o_139 P) (.node (hd.o_205 P) .nil .nil) (.node (hd.o_271 P) .nil .nil))) (.node (hd.o_89 P) (.node (hd.o_123 P) (.node (hd.o_189 P) (.node (hd.o_319 P) .nil .nil) .nil) (.node (hd.o_255 P) .nil .nil)) (.node (hd.o_155 P) (.node (hd.o_221 P) .nil .nil) (.node (hd.o_287 P) .nil .nil)))) (.node (hd.o_62 P) (.node (hd.o_78 P) (.node (hd.o_115 P) (.node (hd.o_181 P) (.node (hd.o_311 P) .nil .nil) .nil) (.node (hd.o_245 P) .nil .nil)) (.node (hd.o_147 P) (.node (hd.o_213 P) .nil .nil) (.node (hd.o_279 P) .nil .nil))) (.node (hd.o_97 P) (.node (hd.o_131 P) (.node (hd.o_197 P) (.node (hd.o_329 P) .nil .nil) .nil) (.node (hd.o_263 P) .nil .nil)) (.node (hd.o_163 P) (.node (hd.o_229 P) .nil .nil) (.node (hd.o_295 P) .nil .nil))))) (.node (hd.o_45 P) (.node (hd.o_58 P) (.node (hd.o_74 P) (.node (hd.o_111 P) (.node (hd.o_177 P) (.node (hd.o_307 P) .nil .nil) .nil) (.node (hd.o_241 P) .nil .nil)) (.node (hd.o_143 P) (.node (hd.o_209 P) .nil .nil) (.node (hd.o_275 P) .nil .nil))) (.node (hd.o_93 P) (.node (hd.o_127 P) (.node (hd.o_193 P) (.node (hd.o_323 P) .nil .nil) .nil) (.node (hd.o_259 P) .nil .nil)) (.node (hd.o_159 P) (.node (hd.o_225 P) .nil .nil) (.node (hd.o_291 P) .nil .nil)))) (.node (hd.o_66 P) (.node (hd.o_85 P) (.node (hd.o_119 P) (.node (hd.o_185 P) (.node (hd.o_315 P) .nil .nil) .nil) (.node (hd.o_251 P) .nil .nil)) (.node (hd.o_151 P) (.node (hd.o_217 P) .nil .nil) (.node (hd.o_283 P) .nil .nil))) (.node (hd.o_101 P) (.node (hd.o_135 P) (.node (hd.o_201 P) .nil .nil) (.node (hd.o_267 P) .nil .nil)) (.node (hd.o_169 P) (.node (hd.o_233 P) .nil .nil) (.node (hd.o_299 P) .nil .nil))))))) (.node (hd.o_49 P) (.node (boot_o_4 P) (.node (boot_o_8 P) (.node (hd.o_53 P) (.node (hd.o_69 P) (.node (hd.o_104 P) (.node (hd.o_172 P) (.node (hd.o_302 P) .nil .nil) .nil) (.node (hd.o_236 P) .nil .nil)) (.node (hd.o_138 P) (.node (hd.o_204 P) .nil .nil) (.node (hd.o_270 P) .nil .nil))) (.node (hd.o_88 P) (.node (hd.o_122 P) (.node (hd.o_188 P) (.node (hd.o_318 P) .nil .nil) .nil) (.node (hd.o_254 P) .nil .nil)) (.node (hd.o_154 P) (.node (hd.o_220 P) .nil .nil) (.node (hd.o_286 P) .nil .nil)))) (.node (hd.o_61 P) (.node (hd.o_77 P) (.node (hd.o_114 P) (.node (hd.o_180 P) (.node (hd.o_310 P) .nil .nil) .nil) (.node (hd.o_244 P) .nil .nil)) (.node (hd.o_146 P) (.node (hd.o_212 P) .nil .nil) (.node (hd.o_278 P) .nil .nil))) (.node (hd.o_96 P) (.node (hd.o_130 P) (.node (hd.o_196 P) (.node (hd.o_328 P) .nil .nil) .nil) (.node (hd.o_262 P) .nil .nil)) (.node (hd.o_162 P) (.node (hd.o_228 P) .nil .nil) (.node (hd.o_294 P) .nil .nil))))) (.node (hd.o_327 P) (.node (hd.o_57 P) (.node (hd.o_73 P) (.node (hd.o_110 P) (.node (hd.o_176 P) (.node (hd.o_306 P) .nil .nil) .nil) (.node (hd.o_240 P) .nil .nil)) (.node (hd.o_142 P) (.node (hd.o_208 P) .nil .nil) (.node (hd.o_274 P) .nil .nil))) (.node (hd.o_92 P) (.node (hd.o_126 P) (.node (hd.o_192 P) (.node (hd.o_322 P) .nil .nil) .nil) (.node (hd.o_258 P) .nil .nil)) (.node (hd.o_158 P) (.node (hd.o_224 P) .nil .nil) (.node (hd.o_290 P) .nil .nil)))) (.node (hd.o_65 P) (.node (hd.o_84 P) (.node (hd.o_118 P) (.node (hd.o_184 P) (.node (hd.o_314 P) .nil .nil) .nil) (.node (hd.o_250 P) .nil .nil)) (.node (hd.o_150 P) (.node (hd.o_216 P) .nil .nil) (.node (hd.o_282 P) .nil .nil))) (.node (hd.o_100 P) (.node (hd.o_134 P) (.node (hd.o_200 P) (.node (hd.o_332 P) .nil .nil) .nil) (.node (hd.o_266 P) .nil .nil)) (.node (hd.o_168 P) (.node (hd.o_232 P) .nil .nil) (.node (hd.o_298 P) .nil .nil)))))) (.node (boot_o_6 P) (.node (boot_o_10 P) (.node (hd.o_55 P) (.node (hd.o_71 P) (.node (hd.o_106 P) (.node (hd.o_174 P) (.node (hd.o_304 P) .nil .nil) .nil) (.node (hd.o_238 P) .nil .nil)) (.node (hd.o_140 P) (.node (hd.o_206 P) .nil .nil) (.node (hd.o_272 P) .nil .nil))) (.node (hd.o_90 P) (.node (hd.o_124 P) (.node (hd.o_190 P) (.node (hd.o_320 P) .nil .nil) .nil) (.node (hd.o_256 P) .nil .nil)) (.node (hd.o_156 P) (.node (hd.o_222 P) .nil .nil) (.node (hd.o_288 P) .nil .nil)))) (.node (hd.o_63 P) (.node (hd.o_79 P) (.node (hd.o_116 P) (.node (hd.o_182 P) (.node (hd.o_312 P) .nil .nil) .nil) (.node (hd.o_248 P) .nil .nil)) (.node (hd.o_148 P) (.node (hd.o_214 P) .nil .nil) (.node (hd.o_280 P) .nil .nil))) (.node (hd.o_98 P) (.node (hd.o_132 P) (.node (hd.o_198 P) (.node (hd.o_330 P) .nil .nil) .nil) (.node (hd.o_264 P) .nil .nil)) (.node (hd.o_166 P) (.node (hd.o_230 P) .nil .nil) (.node (hd.o_296 P) .nil .nil))))) (.node (hd.o_46 P) (.node (hd.o_59 P) (.node (hd.o_75 P) (.node (hd.o_112 P) (.node (hd.o_178 P) (.node (hd.o_308 P) .nil .nil) .nil) (.node (hd.o_242 P) .nil .nil)) (.node (hd.o_144 P) (.node (hd.o_210 P) .nil .nil) (.node (hd.o_276 P) .nil .nil))) (.node (hd.o_94 P) (.node (hd.o_128 P) (.node (hd.o_194 P) (.node (hd.o_324 P) .nil .nil) .nil) (.node (hd.o_260 P) .nil .nil)) (.node (hd.o_160 P) (.node (hd.o_226 P) .nil .nil) (.node (hd.o_292 P) .nil .nil)))) (.node (hd.o_67 P) (.node (hd.o_86 P) (.node (hd.o_120 P) (.node (hd.o_186 P) (.node (hd.o_316 P) .nil .nil) .nil) (.node (hd.o_252 P) .nil .nil)) (.node (hd.o_152 P) (.node (hd.o_218 P) .nil .nil) (.node (hd.o_284 P) .nil .nil))) (.node (hd.o_102 P) (.node (hd.o_136 P) (.node (hd.o_202 P) .nil .nil) (.node (hd.o_268 P) .nil .nil)) (.node (hd.o_170 P) (.node (hd.o_234 P) .nil .nil) (.node (hd.o_300 P) .nil .nil)))))))
noncomputable def hd.heap_333 : Params → Heap := fun P => ⟨⟨(boot_o_0 P :: boot_o_1 P :: hd.o_49 P :: hd.o_326 P :: boot_o_4 P :: boot_o_5 P :: boot_o_6 P :: boot_o_7 P :: boot_o_8 P :: boot_o_9 P :: boot_o_10 P :: hd.o_43 P :: hd.o_327 P :: hd.o_45 P :: hd.o_46 P :: hd.o_52 P :: hd.o_53 P :: hd.o_54 P :: hd.o_55 P :: hd.o_56 P :: hd.o_57 P :: hd.o_58 P :: hd.o_59 P :: hd.o_60 P :: hd.o_61 P :: hd.o_62 P :: hd.o_63 P :: hd.o_64 P :: hd.o_65 P :: hd.o_66 P :: hd.o_67 P :: hd.o_68 P :: hd.o_69 P :: hd.o_70 P :: hd.o_71 P :: hd.o_72 P :: hd.o_73 P :: hd.o_74 P :: hd.o_75 P :: hd.o_82 P :: hd.o_77 P :: hd.o_78 P :: hd.o_79 P :: hd.o_83 P :: hd.o_84 P :: hd.o_85 P :: hd.o_86 P :: hd.o_87 P :: hd.o_88 P :: hd.o_89 P :: hd.o_90 P :: hd.o_91 P :: hd.o_92 P :: hd.o_93 P :: hd.o_94 P :: hd.o_95 P :: hd.o_96 P :: hd.o_97 P :: hd.o_98 P :: hd.o_99 P :: hd.o_100 P :: hd.o_101 P :: hd.o_102 P :: hd.o_103 P :: hd.o_104 P :: hd.o_105 P :: hd.o_106 P :: hd.o_107 P :: hd.o_110 P :: hd.o_111 P :: hd.o_112 P :: hd.o_113 P :: hd.o_114 P :: hd.o_115 P :: hd.o_116 P :: hd.o_117 P :: hd.o_118 P :: hd.o_119 P :: hd.o_120 P :: hd.o_121 P :: hd.o_122 P :: hd.o_123 P :: hd.o_124 P :: hd.o_125 P :: hd.o_126 P :: hd.o_127 P :: hd.o_128 P :: hd.o_129 P :: hd.o_130 P :: hd.o_131 P :: hd.o_132 P :: hd.o_133 P :: hd.o_134 P :: hd.o_135 P :: hd.o_136 P :: hd.o_137 P :: hd.o_138 P :: hd.o_139 P :: hd.o_140 P :: hd.o_141 P :: hd.o_142 P :: hd.o_143 P :: hd.o_144 P :: hd.o_145 P :: hd.o_146 P :: hd.o_147 P :: hd.o_148 P :: hd.o_149 P :: hd.o_150 P :: hd.o_151 P :: hd.o_152 P :: hd.o_153 P :: hd.o_154 P :: hd.o_155 P :: hd.o_156 P :: hd.o_157 P :: hd.o_158 P :: hd.o_159 P :: hd.o_160 P :: hd.o_161 P :: hd.o_162 P :: hd.o_163 P :: hd.o_166 P :: hd.o_167 P :: hd.o_168 P :: hd.o_169 P :: hd.o_170 P :: hd.o_171 P :: hd.o_172 P :: hd.o_173 P :: hd.o_174 P :: hd.o_175 P :: hd.o_176 P :: hd.o_177 P :: hd.o_178 P :: hd.o_179 P :: hd.o_180 P :: hd.o_181 P :: hd.o_182 P :: hd.o_183 P :: hd.o_184 P :: hd.o_185 P :: hd.o_186 P :: hd.o_187 P :: hd.o_188 P :: hd.o_189 P :: hd.o_190 P :: hd.o_191 P :: hd.o_192 P :: hd.o_193 P :: hd.o_194 P :: hd.o_195 P :: hd.o_196 P :: hd.o_197 P :: hd.o_198 P :: hd.o_199 P :: hd.o_200 P :: hd.o_201 P :: hd.o_202 P :: hd.o_203 P :: hd.o_204 P :: hd.o_205 P :: hd.o_206 P :: hd.o_207 P :: hd.o_208 P :: hd.o_209 P :: hd.o_210 P :: hd.o_211 P :: hd.o_212 P :: hd.o_213 P :: hd.o_214 P :: hd.o_215 P :: hd.o_216 P :: hd.o_217 P :: hd.o_218 P :: hd.o_219 P :: hd.o_220 P :: hd.o_221 P :: hd.o_222 P :: hd.o_223 P :: hd.o_224 P :: hd.o_225 P :: hd.o_226 P :: hd.o_227 P :: hd.o_228 P :: hd.o_229 P :: hd.o_230 P :: hd.o_231 P :: hd.o_232 P :: hd.o_233 P :: hd.o_234 P :: hd.o_235 P :: hd.o_236 P :: hd.o_237 P :: hd.o_238 P :: hd.o_239 P :: hd.o_240 P :: hd.o_241 P :: hd.o_242 P :: hd.o_243 P :: hd.o_244 P :: hd.o_245 P :: hd.o_248 P :: hd.o_249 P :: hd.o_250 P :: hd.o_251 P :: hd.o_252 P :: hd.o_253 P :: hd.o_254 P :: hd.o_255 P :: hd.o_256 P :: hd.o_257 P :: hd.o_258 P :: hd.o_259 P :: hd.o_260 P :: hd.o_261 P :: hd.o_262 P :: hd.o_263 P :: hd.o_264 P :: hd.o_265 P :: hd.o_266 P :: hd.o_267 P :: hd.o_268 P :: hd.o_269 P :: hd.o_270 P :: hd.o_271 P :: hd.o_272 P :: hd.o_273 P :: hd.o_274 P :: hd.o_275 P :: hd.o_276 P :: hd.o_277 P :: hd.o_278 P :: hd.o_279 P :: hd.o_280 P :: hd.o_281 P :: hd.o_282 P :: hd.o_283 P :: hd.o_284 P :: hd.o_285 P :: hd.o_286 P :: hd.o_287 P :: hd.o_288 P :: hd.o_289 P :: hd.o_290 P :: hd.o_291 P :: hd.o_292 P :: hd.o_293 P :: hd.o_294 P :: hd.o_295 P :: hd.o_296 P :: hd.o_297 P :: hd.o_298 P :: hd.o_299 P :: hd.o_300 P :: hd.o_301 P :: hd.o_302 P :: [hd.o_303 P, hd.o_304 P, hd.o_305 P, hd.o_306 P, hd.o_307 P, hd.o_308 P, hd.o_309 P, hd.o_310 P, hd.o_311 P, hd.o_312 P, hd.o_313 P, hd.o_314 P, hd.o_315 P, hd.o_316 P, hd.o_317 P, hd.o_318 P, hd.o_319 P, hd.o_320 P, hd.o_321 P, hd.o_322 P, hd.o_323 P, hd.o_324 P, hd.o_325 P, hd.o_328 P, hd.o_329 P, hd.o_330 P, hd.o_331 P, hd.o_332 P])⟩, ⟨[], [], [], 0, [], [], false, ⟨[]⟩, [], 0, false, false, false, 0, [2000, 10, 10], false, 0, true, [], [], 0, false⟩⟩
noncomputable def hd.heap_39 : Params → Frag := fun P => ((2, hd.o_49 P) :: (3, hd.o_326 P) :: (15, hd.o_52 P) :: (22, hd.o_59 P) :: (23, hd.o_60 P) :: (25, hd.o_62 P) :: (26, hd.o_63 P) :: (28, hd.o_65 P) :: (29, hd.o_66 P) :: (30, hd.o_67 P) :: (32, hd.o_69 P) :: (33, hd.o_70 P) :: (35, hd.o_72 P) :: (36, hd.o_73 P) :: (37, hd.o_74 P) :: (38, hd.o_75 P) :: (39, hd.o_82 P) :: (40, hd.o_77 P) :: (43, hd.o_83 P) :: (50, hd.o_90 P) :: (51, hd.o_91 P) :: (52, hd.o_92 P) :: (55, hd.o_95 P) :: (57, hd.o_97 P) :: (58, hd.o_98 P) :: (60, hd.o_100 P) :: (61, hd.o_101 P) :: (62, hd.o_102 P) :: (65, hd.o_105 P) :: (66, hd.o_106 P) :: (67, hd.o_107 P) :: (75, hd.o_117 P) :: (77, hd.o_119 P) :: (78, hd.o_120 P) :: (80, hd.o_122 P) :: (81, hd.o_123 P) :: (82, hd.o_124 P) :: (85, hd.o_127 P) :: (86, hd.o_128 P) :: (87, hd.o_129 P) :: (89, hd.o_131 P) :: (90, hd.o_132 P) :: (92, hd.o_134 P) :: (93, hd.o_135 P) :: (94, hd.o_136 P) :: (95, hd.o_137 P) :: (96, hd.o_138 P) :: (97, hd.o_139 P) :: (98, hd.o_140 P) :: (101, hd.o_143 P) :: (103, hd.o_145 P) :: (104, hd.o_146 P) :: (106, hd.o_148 P) :: (107, hd.o_149 P) :: (108, hd.o_150 P) :: (110, hd.o_152 P) :: (111, hd.o_153 P) :: (113, hd.o_155 P) :: (114, hd.o_156 P) :: (115, hd.o_157 P) :: (117, hd.o_159 P) :: (118, hd.o_160 P) :: (120, hd.o_162 P) :: (121, hd.o_163 P) :: (122, hd.o_166 P) :: (123, hd.o_167 P) :: (125, hd.o_169 P) :: (126, hd.o_170 P) :: (128, hd.o_172 P) :: (129, hd.o_173 P) :: (130, hd.o_174 P) :: (131, hd.o_175 P) :: (134, hd.o_178 P) :: (135, hd.o_179 P) :: (136, hd.o_180 P) :: (138, hd.o_182 P) :: (139, hd.o_183 P) :: (141, hd.o_185 P) :: (142, hd.o_186 P) :: (143, hd.o_187 P) :: (145, hd.o_189 P) :: (146, hd.o_190 P) :: (148, hd.o_192 P) :: (149, hd.o_193 P) :: (150, hd.o_194 P) :: (152, hd.o_196 P) :: (153, hd.o_197 P) :: (155, hd.o_199 P) :: (156, hd.o_200 P) :: (157, hd.o_201 P) :: (158, hd.o_202 P) :: (160, hd.o_204 P) :: (161, hd.o_205 P) :: (163, hd.o_207 P) :: (164, hd.o_208 P) :: (165, hd.o_209 P) :: (168, hd.o_212 P) :: (169, hd.o_213 P) :: (170, hd.o_214 P) :: (173, hd.o_217 P) :: (174, hd.o_218 P) :: (175, hd.o_219 P) :: (176, hd.o_220 P) :: (178, hd.o_222 P) :: (179, hd.o_223 P) :: (181, hd.o_225 P) :: (182, hd.o_226 P) :: (183, hd.o_227 P) :: (185, hd.o_229 P) :: (186, hd.o_230 P) :: (188, hd.o_232 P) :: (189, hd.o_233 P) :: (190, hd.o_234 P) :: (192, hd.o_236 P) :: (193, hd.o_237 P) :: (195, hd.o_239 P) :: (196, hd.o_240 P) :: (197, hd.o_241 P) :: (200, hd.o_244 P) :: (201, hd.o_245 P) :: (202, hd.o_248 P) :: (203, hd.o_249 P) :: (205, hd.o_251 P) :: (206, hd.o_252 P) :: (208, hd.o_254 P) :: (209, hd.o_255 P) :: (210, hd.o_256 P) :: (212, hd.o_258 P) :: (213, hd.o_259 P) :: (215, hd.o_261 P) :: (216, hd.o_262 P) :: (217, hd.o_263 P) :: (220, hd.o_266 P) :: (221, hd.o_267 P) :: (222, hd.o_268 P) :: (225, hd.o_271 P) :: (226, hd.o_272 P) :: (227, hd.o_273 P) :: (229, hd.o_275 P) :: (230, hd.o_276 P) :: (232, hd.o_278 P) :: (233, hd.o_279 P) :: (234, hd.o_280 P) :: (236, hd.o_282 P) :: (237, hd.o_283 P) :: (239, hd.o_285 P) :: (240, hd.o_286 P) :: [(241, hd.o_287 P), (244, hd.o_290 P), (245, hd.o_291 P), (246, hd.o_292 P), (248, hd.o_294 P), (249, hd.o_295 P), (251, hd.o_297 P), (252, hd.o_298 P), (253, hd.o_299 P), (255, hd.o_301 P), (256, hd.o_302 P), (258, hd.o_304 P), (259, hd.o_305 P), (260, hd.o_306 P), (263, hd.o_309 P), (264, hd.o_310 P), (265, hd.o_311 P), (268, hd.o_314 P), (269, hd.o_315 P), (270, hd.o_316 P), (273, hd.o_319 P), (274, hd.o_320 P), (275, hd.o_321 P), (278, hd.o_324 P), (279, hd.o_325 P), (280, hd.o_328 P), (283, hd.o_331 P), (284, hd.o_332 P)])
noncomputable def hd.ads : List Addr := (2 :: 3 :: 15 :: 22 :: 23 :: 25 :: 26 :: 28 :: 29 :: 30 :: 32 :: 33 :: 35 :: 36 :: 37 :: 38 :: 39 :: 40 :: 43 :: 50 :: 51 :: 52 :: 55 :: 57 :: 58 :: 60 :: 61 :: 62 :: 65 :: 66 :: 67 :: 75 :: 77 :: 78 :: 80 :: 81 :: 82 :: 85 :: 86 :: 87 :: 89 :: 90 :: 92 :: 93 :: 94 :: 95 :: 96 :: 97 :: 98 :: 101 :: 103 :: 104 :: 106 :: 107 :: 108 :: 110 :: 111 :: 113 :: 114 :: 115 :: 117 :: 118 :: 120 :: 121 :: 122 :: 123 :: 125 :: 126 :: 128 :: 129 :: 130 :: 131 :: 134 :: 135 :: 136 :: 138 :: 139 :: 141 :: 142 :: 143 :: 145 :: 146 :: 148 :: 149 :: 150 :: 152 :: 153 :: 155 :: 156 :: 157 :: 158 :: 160 :: 161 :: 163 :: 164 :: 165 :: 168 :: 169 :: 170 :: 173 :: 174 :: 175 :: 176 :: 178 :: 179 :: 181 :: 182 :: 183 :: 185 :: 186 :: 188 :: 189 :: 190 :: 192 :: 193 :: 195 :: 196 :: 197 :: 200 :: 201 :: 202 :: 203 :: 205 :: 206 :: 208 :: 209 :: 210 :: 212 :: 213 :: 215 :: 216 :: 217 :: 220 :: 221 :: 222 :: 225 :: 226 :: 227 :: 229 :: 230 :: 232 :: 233 :: 234 :: 236 :: 237 :: 239 :: 240 :: [241, 244, 245, 246, 248, 249, 251, 252, 253, 255, 256, 258, 259, 260, 263, 264, 265, 268, 269, 270, 273, 274, 275, 278, 279, 280, 283, 284])
noncomputable def hd.sts_49 : List Stmt := ((behindTheImports hd.pg).drop 0).take 2
noncomputable def hd.sts_80 : List Stmt := ((behindTheImports hd.pg).drop 2).take 7
noncomputable def hd.sts_108 : List Stmt := ((behindTheImports hd.pg).drop 9).take 4
noncomputable def hd.sts_164 : List Stmt := ((behindTheImports hd.pg).drop 13).take 13
noncomputable def hd.sts_246 : List Stmt := ((behindTheImports hd.pg).drop 26).take 14
noncomputable def hd.sts_326 : List Stmt := ((behindTheImports hd.pg).drop 40).take 1
noncomputable abbrev hd.cd : Code := .body (behindTheImports hd.pg) hd.env_41
noncomputable abbrev hd.an : Option Value := some (.ref 6)
noncomputable abbrev hd.fr : List Frame := [topFrame ⟨0, 0, 0, 0⟩]
noncomputable abbrev hd.sT (t : BT) (n k : Nat) (os : OsState) : SharedT := { tree := t, n := n, life := { }, gens := { toList := [] }, drawn := { }, toks := k, os := os }
theorem hd.p42 : opening hd.pg = plainProg hd.pg.main.scope.names := by kernel_rfl
theorem hd.p43 (s : Shared) : fenceModules? hd.pg s = some s := by kernel_rfl
theorem hd.p338 (w : World) : ((boot_heap w.params).isNs mainGlobals && (Array.mk ([] : List GenState)).size == 0, (boot_heap w.params).objs.size, (boot_heap w.params).nsMap mainGlobals "__annotations__") = (true, 11, hd.an) := by kernel_rfl
theorem hd.p47 (w : World) (os : OsState) : topGo treeTable hd.pg w 11 hd.an 12 { heap := boot_heap w.params, gens := { toList := [] }, drawn := boot_drawn, toks := boot_toks, os := os } (topStub hd.pg) =
    some ({ heap := hd.heap_46 w.params, gens := { toList := [] }, drawn := { }, toks := 187, os := os }, { cur := denote treeTable hd.cd, code := hd.cd, pos := ⟨0, 0, 0, 0⟩, stack := hd.fr }) := by kernel_rfl
theorem hd.p49 (w : World) (os : OsState) : segRun treeTable hd.pg w 11 hd.an 1 1 { heap := hd.heap_46 w.params, gens := { toList := [] }, drawn := { }, toks := 187, os := os } (blockOf (behindTheImports hd.pg) hd.env_41 hd.cd ⟨0, 0, 0, 0⟩ hd.fr) =
    some (Flow.next, (hd.sT (hd.tree_47 w.params) 15 187 os).abs, hd.cd, ⟨0, 0, 0, 0⟩) := by kernel_rfl
theorem hd.p80 (w : World) (os : OsState) : segRunT treeTable hd.pg w 11 hd.an 1 278 (hd.sT (hd.tree_47 w.params) 15 187 os) (piecesOf hd.sts_49 hd.env_41 hd.cd ⟨0, 0, 0, 0⟩ hd.fr) =
    some (Flow.next, hd.sT (hd.tree_79 w.params) 43 229 os, hd.cd, ⟨2, 0, 10, 35⟩) := by kernel_rfl
theorem hd.p108 (w : World) (os : OsState) : segRunT treeTable hd.pg w 11 hd.an 1 308 (hd.sT (hd.tree_79 w.params) 43 229 os) (piecesOf hd.sts_80 hd.env_41 hd.cd ⟨2, 0, 10, 35⟩ hd.fr) =
    some (Flow.next, hd.sT (hd.tree_107 w.params) 68 267 os, hd.cd, ⟨20, 0, 20, 5⟩) := by kernel_rfl
theorem hd.p164 (w : World) (os : OsState) : segRunT treeTable hd.pg w 11 hd.an 1 378 (hd.sT (hd.tree_107 w.params) 68 267 os) (piecesOf hd.sts_108 hd.env_41 hd.cd ⟨20, 0, 20, 5⟩ hd.fr) =
    some (Flow.next, hd.sT (hd.tree_163 w.params) 122 339 os, hd.cd, ⟨44, 0, 46, 63⟩) := by kernel_rfl
theorem hd.p246 (w : World) (os : OsState) : segRunT treeTable hd.pg w 11 hd.an 1 398 (hd.sT (hd.tree_163 w.params) 122 339 os) (piecesOf hd.sts_164 hd.env_41 hd.cd ⟨44, 0, 46, 63⟩ hd.fr) =
    some (Flow.next, hd.sT (hd.tree_245 w.params) 202 461 os, hd.cd, ⟨135, 0, 135, 8⟩) := by kernel_rfl
theorem hd.p326 (w : World) (os : OsState) : segRunT treeTable hd.pg w 11 hd.an 1 391 (hd.sT (hd.tree_245 w.params) 202 461 os) (piecesOf hd.sts_246 hd.env_41 hd.cd ⟨135, 0, 135, 8⟩ hd.fr) =
    some (Flow.next, hd.sT (hd.tree_325 w.params) 280 570 os, hd.cd, ⟨210, 0, 214, 108⟩) := by kernel_rfl
theorem hd.p333 (w : World) (os : OsState) : segRunT treeTable hd.pg w 11 hd.an 1 27 (hd.sT (hd.tree_325 w.params) 280 570 os) (piecesOf hd.sts_326 hd.env_41 hd.cd ⟨210, 0, 214, 108⟩ hd.fr) =
    some (Flow.next, hd.sT (hd.tree_332 w.params) 285 576 os, hd.cd, ⟨215, 0, 254, 15⟩) := by kernel_rfl
noncomputable abbrev hd.sF (w : World) (os : OsState) : Shared := { heap := hd.heap_333 w.params, gens := { toList := [] }, drawn := { }, toks := 576, os := os }
theorem hd.p335 (w : World) (os : OsState) : topRun treeTable hd.pg w 11 hd.an 2 (hd.sT (hd.tree_332 w.params) 285 576 os).abs { cur := doneF Flow.next, code := hd.cd, pos := ⟨215, 0, 254, 15⟩, stack := hd.fr } = some (hd.sF w os) := by kernel_rfl
theorem hd.run (w : World) (os : OsState) : topRun treeTable hd.pg w 11 hd.an (Nat.add 12 (Nat.add 1 (Nat.add 278 (Nat.add 308 (Nat.add 378 (Nat.add 398 (Nat.add 391 (Nat.add 27 2)))))))) { heap := boot_heap w.params, gens := { toList := [] }, drawn := boot_drawn, toks := boot_toks, os := os } (topStub hd.pg) = some (hd.sF w os) :=
  go_top (hd.p47 w os) (piece_block (hd.p49 w os) (piece_app (l := hd.sts_49) (segRun_of (hd.p80 w os)) (piece_app (l := hd.sts_80) (segRun_of (hd.p108 w os)) (piece_app (l := hd.sts_108) (segRun_of (hd.p164 w os)) (piece_app (l := hd.sts_164) (segRun_of (hd.p246 w os)) (piece_app (l := hd.sts_246) (segRun_of (hd.p326 w os)) (piece_app (l := hd.sts_326) (rest := []) (segRun_of (hd.p333 w os)) (hd.p335 w os))))))))
noncomputable abbrev hd.loose : List Str := ["PostError", "read_spans", "read_fields", "folded", "made_field"]
theorem hd.l1 (w : World) (os : OsState) : (staticsOk (importedModules hd.pg.main.body) (boot_heap w.params) (hd.heap_333 w.params) && namesBound hd.pg (hd.heap_333 w.params) && gensDone (hd.sF w os) && laidKept (boot_heap w.params) (hd.heap_333 w.params)) = true := by kernel_rfl
noncomputable abbrev hd.xt : Shared → Bool := fun s => xlAt hd.view_39 [] s && recOk (RowW.records PySem.Challenge.rw_pq0966_01.row.toRowW) s
theorem hd.l2 (w : World) (os : OsState) : openSeen hd.view_39 hd.loose (importedModules hd.pg.main.body) hd.xt true (hd.sF w os) = openGood hd.view_39 hd.loose := by kernel_rfl
theorem hd.ade (P : Params) : hd.ads = (hd.heap_39 P).map (·.1) := by kernel_rfl
noncomputable abbrev hd.hk : Hook := kHook hd.heap_39 hd.ads hd.ade
theorem hd.l3 (w : World) (os : OsState) : hd.hk.obs (hd.sF w os) = hd.hk.val w := by kernel_rfl
theorem hd.left : LeftO PySem.Challenge.rw_pq0966_01.row.prog hd.view_39 hd.loose hd.xt hd.hk.obs hd.hk.val 3674 :=
  LeftO.of_pieces (boot_open hd.p42 (by decide) hd.p43) hd.p338 hd.run (by decide) fun w => funext fun os => looks_pair (hd.l1 w os) (looks_pair (hd.l2 w os) (hd.l3 w os))
end Mine
namespace Mine
open PySem PySem.W PySem.Calls PyProof.Rows PyProof.Rows.LCg
noncomputable abbrev Led := List (Addr × Obj)

/-- what stood at the call's start stands; the ledger's objects stand as written, each at its own place, none of them of the start -/
structure Hp (h₀ h : Heap) (l : Led) : Prop where
  keep : ∀ b o, h₀.get? b = some o → h.get? b = some o
  get : ∀ p ∈ l, h.get? p.1 = some p.2
  new : ∀ p ∈ l, h₀.get? p.1 = none
  nd : (l.map (·.1)).Nodup

namespace Hp
variable {h₀ h h' : Heap} {l l' : Led} {a : Addr} {o o' : Obj}
theorem perm (H : Hp h₀ h l) (p : l.Perm l') : Hp h₀ h l' :=
  ⟨H.keep, fun q hq => H.get q (p.mem_iff.mpr hq), fun q hq => H.new q (p.mem_iff.mpr hq), (p.map _).nodup_iff.mp H.nd⟩
theorem sub (H : Hp h₀ h l) (p : l'.Sublist l) : Hp h₀ h l' :=
  ⟨H.keep, fun q hq => H.get q (p.subset hq), fun q hq => H.new q (p.subset hq), (p.map _).nodup H.nd⟩
theorem fresh (H : Hp h₀ h l) : h₀.get? h.objs.size = none := by
  cases e : h₀.get? h.objs.size with
  | none => rfl
  | some o => exact absurd (Heap.lt_size (H.keep _ _ e)) (Nat.lt_irrefl _)
theorem lt (H : Hp h₀ h l) {p : Addr × Obj} (hp : p ∈ l) : p.1 < h.objs.size := Heap.lt_size (H.get p hp)
theorem notin (H : Hp h₀ h l) : h.objs.size ∉ l.map (·.1) := fun hm => by
  obtain ⟨p, hp, e⟩ := List.mem_map.mp hm
  exact absurd (H.lt hp) (by rw [e]; exact Nat.lt_irrefl _)
/-- a heap that keeps all, and one object more -/
theorem more (H : Hp h₀ h l) (hk : ∀ b o, h.get? b = some o → h'.get? b = some o) (ha : h'.get? a = some o) (hn : h.get? a = none) : Hp h₀ h' ((a, o) :: l) where
  keep := fun b x e => hk b x (H.keep b x e)
  get := fun p hp => by
    rcases List.mem_cons.mp hp with rfl | hp
    · exact ha
    · exact hk _ _ (H.get p hp)
  new := fun p hp => by
    rcases List.mem_cons.mp hp with rfl | hp
    · cases e : h₀.get? a with
      | none => rfl
      | some o => have := H.keep _ _ e; rw [hn] at this; cases this
    · exact H.new p hp
  nd := by
    rw [List.map_cons, List.nodup_cons]
    refine ⟨fun hm => ?_, H.nd⟩
    obtain ⟨p, hp, e⟩ := List.mem_map.mp hm
    have := H.get p hp
    rw [e, hn] at this; cases this
theorem keeps (H : Hp h₀ h l) (hk : ∀ b o, h.get? b = some o → h'.get? b = some o) : Hp h₀ h' l where
  keep := fun b x e => hk b x (H.keep b x e)
  get := fun p hp => hk _ _ (H.get p hp)
  new := H.new
  nd := H.nd
theorem none_size (h : Heap) : h.get? h.objs.size = none := by
  cases e : h.get? h.objs.size with
  | none => rfl
  | some o => exact absurd (Heap.lt_size e) (Nat.lt_irrefl _)
theorem push (H : Hp h₀ h l) (o : Obj) (hf : o.isFreed = false := by rfl) : Hp h₀ (h.push o) ((h.objs.size, o) :: l) :=
  H.more (fun _ _ e => Heap.get?_push_of_some _ e) (Heap.get?_push_size _ hf) (none_size h)
theorem set (H : Hp h₀ h ((a, o) :: l)) (hs : Heap.SameBut a h h') (ha : h'.get? a = some o') : Hp h₀ h' ((a, o') :: l) := by
  have hnd := H.nd
  rw [List.map_cons, List.nodup_cons] at hnd
  refine ⟨fun b x e => (hs.2 b fun q => ?_).trans (H.keep b x e), fun p hp => ?_, fun p hp => ?_, ?_⟩
  · have := H.new _ (List.mem_cons_self (a := (a, o)))
    rw [q] at e; rw [this] at e; cases e
  · rcases List.mem_cons.mp hp with rfl | hp
    · exact ha
    · exact (hs.2 p.1 fun q => hnd.1 (List.mem_map.mpr ⟨p, hp, q⟩)).trans (H.get p (List.mem_cons_of_mem _ hp))
  · rcases List.mem_cons.mp hp with rfl | hp
    · exact H.new (a, o) List.mem_cons_self
    · exact H.new p (List.mem_cons_of_mem _ hp)
  · rw [List.map_cons, List.nodup_cons]; exact hnd
/-- the same, wherever the object stands in the ledger -/
theorem setAt {l₁ l₂ : Led} (H : Hp h₀ h (l₁ ++ (a, o) :: l₂)) (hs : Heap.SameBut a h h') (ha : h'.get? a = some o') : Hp h₀ h' (l₁ ++ (a, o') :: l₂) :=
  ((H.perm List.perm_middle).set hs ha).perm List.perm_middle.symm
theorem apart {l₁ l₂ : Led} (H : Hp h₀ h (l₁ ++ l₂)) {p q : Addr × Obj} (hp : p ∈ l₁) (hq : q ∈ l₂) : p.1 ≠ q.1 := fun e => by
  have := H.nd
  rw [List.map_append, List.nodup_append] at this
  exact this.2.2 _ (List.mem_map_of_mem hp) _ (List.mem_map_of_mem hq) e
theorem one {p q : Addr × Obj} (H : Hp h₀ h l) (hp : p ∈ l) (hq : q ∈ l) (e : p.1 = q.1) : p = q := by
  have h1 := H.get p hp
  have h2 := H.get q hq
  rw [e, h2] at h1
  exact Prod.ext e (Option.some.inj h1).symm
end Hp

/-- pure values -/
inductive AV where
  | none
  | bool (b : Bool)
  | int (i : Int)
  | str (x : List Nat)
  | bytes (b : List UInt8)
  | tup (l : List AV)
  | lst (l : List AV)
  | fld (n r : List UInt8)
  | rng (n : Nat)
  | tape
  | new (l : List AV)
  | obj (D : Addr)

/-- an object of the ledger, or of the start -/
noncomputable def InL (h₀ : Heap) (sl : Led) (a : Addr) (o : Obj) : Prop := (a, o) ∈ sl ∨ h₀.get? a = some o
noncomputable abbrev tupOf (its : Array Value) (n : Nat) : Obj := { cls := .type "tuple", data := .seq its n }
/-- the dict of a Field -/
noncomputable def FldDict (o : Obj) (n r : List UInt8) : Prop := ∃ h1 h2 t1 t2 u1 u2 k, o = dictOf [⟨h1, .str "name" t1, .bytes n.toArray u1⟩, ⟨h2, .str "raw" t2, .bytes r.toArray u2⟩] k
mutual
inductive Rep (h₀ : Heap) (T : Addr) (sl : Led) : Value → AV → Prop
  | none : Rep h₀ T sl .none .none
  | bool (b : Bool) : Rep h₀ T sl (.bool b) (.bool b)
  | int (i : Int) (t : Tok) : Rep h₀ T sl (.int i t) (.int i)
  | str (x : List Nat) (t : Tok) : Rep h₀ T sl (.str ⟨x.toArray⟩ t) (.str x)
  | bytes (b : List UInt8) (t : Tok) : Rep h₀ T sl (.bytes b.toArray t) (.bytes b)
  | tup {a : Addr} {vs : List Value} {n : Nat} {l : List AV} : InL h₀ sl a (tupOf vs.toArray n) → RepAll h₀ T sl vs l → Rep h₀ T sl (.ref a) (.tup l)
  | lst {a : Addr} {o : Obj} {vs : List Value} {n : Nat} {l : List AV} : InL h₀ sl a o → o.cls = .type "list" → o.data = .seq vs.toArray n → RepAll h₀ T sl vs l → Rep h₀ T sl (.ref a) (.lst l)
  | fld {a d : Addr} {o : Obj} {n r : List UInt8} : (a, instObj 96 d) ∈ sl → (d, o) ∈ sl → FldDict o n r → Rep h₀ T sl (.ref a) (.fld n r)
  | rng {a : Addr} {n : Nat} {t u v : Tok} : InL h₀ sl a { cls := .type "range", data := .fields #[.int 0 t, .int (n : Int) u, .int 1 v] } → Rep h₀ T sl (.ref a) (.rng n)
  | tape : Rep h₀ T sl (.ref T) .tape
  | new {a : Addr} {o : Obj} {vs : List Value} {n : Nat} {l : List AV} : (a, o) ∈ sl → o = listOf vs.toArray n → RepAll h₀ T sl vs l → Rep h₀ T sl (.ref a) (.new l)
  | obj (D : Addr) : Rep h₀ T sl (.ref D) (.obj D)
inductive RepAll (h₀ : Heap) (T : Addr) (sl : Led) : List Value → List AV → Prop
  | nil : RepAll h₀ T sl [] []
  | cons {v : Value} {vs : List Value} {d : AV} {ds : List AV} : Rep h₀ T sl v d → RepAll h₀ T sl vs ds → RepAll h₀ T sl (v :: vs) (d :: ds)
end
inductive TupInv (h₀ : Heap) (T : Addr) (sl : Led) (v : Value) (l : List AV) : Prop
  | mk (a : Addr) (vs : List Value) (n : Nat) (e : v = .ref a) (i : InL h₀ sl a (tupOf vs.toArray n)) (r : RepAll h₀ T sl vs l) : TupInv h₀ T sl v l
inductive LstInv (h₀ : Heap) (T : Addr) (sl : Led) (v : Value) (l : List AV) : Prop
  | mk (a : Addr) (o : Obj) (vs : List Value) (n : Nat) (e : v = .ref a) (i : InL h₀ sl a o) (c : o.cls = .type "list") (d : o.data = .seq vs.toArray n) (r : RepAll h₀ T sl vs l) : LstInv h₀ T sl v l
inductive NewInv (h₀ : Heap) (T : Addr) (sl : Led) (v : Value) (l : List AV) : Prop
  | mk (a : Addr) (o : Obj) (vs : List Value) (n : Nat) (e : v = .ref a) (i : (a, o) ∈ sl) (q : o = listOf vs.toArray n) (r : RepAll h₀ T sl vs l) : NewInv h₀ T sl v l
inductive FldInv (sl : Led) (v : Value) (n r : List UInt8) : Prop
  | mk (a d : Addr) (o : Obj) (e : v = .ref a) (i : (a, instObj 96 d) ∈ sl) (j : (d, o) ∈ sl) (f : FldDict o n r) : FldInv sl v n r
inductive RngInv (h₀ : Heap) (sl : Led) (v : Value) (n : Nat) : Prop
  | mk (a : Addr) (t u w : Tok) (e : v = .ref a) (i : InL h₀ sl a { cls := .type "range", data := .fields #[.int 0 t, .int (n : Int) u, .int 1 w] }) : RngInv h₀ sl v n
noncomputable def RepInv (h₀ : Heap) (T : Addr) (sl : Led) (v : Value) : AV → Prop
  | .none => v = .none
  | .bool b => v = .bool b
  | .int i => ∃ t, v = .int i t
  | .str x => ∃ t, v = .str ⟨x.toArray⟩ t
  | .bytes b => ∃ t, v = .bytes b.toArray t
  | .tup l => TupInv h₀ T sl v l
  | .lst l => LstInv h₀ T sl v l
  | .fld n r => FldInv sl v n r
  | .rng n => RngInv h₀ sl v n
  | .tape => v = .ref T
  | .new l => NewInv h₀ T sl v l
  | .obj D => v = .ref D
theorem Rep.inv {h₀ : Heap} {T : Addr} {sl : Led} {v : Value} {d : AV} (r : Rep h₀ T sl v d) : RepInv h₀ T sl v d :=
  Rep.casesOn (motive_1 := fun v d _ => RepInv h₀ T sl v d) r rfl (fun _ => rfl) (fun _ t => ⟨t, rfl⟩) (fun _ t => ⟨t, rfl⟩) (fun _ t => ⟨t, rfl⟩) (fun h q => ⟨_, _, _, rfl, h, q⟩)
    (fun h h1 h2 q => ⟨_, _, _, _, rfl, h, h1, h2, q⟩) (fun h1 h2 h3 => ⟨_, _, _, rfl, h1, h2, h3⟩) (fun h => ⟨_, _, _, _, rfl, h⟩) rfl (fun h e q => ⟨_, _, _, _, rfl, h, e, q⟩) (fun _ => rfl)
inductive ConsInv (h₀ : Heap) (T : Addr) (sl : Led) (vs : List Value) (d : AV) (ds : List AV) : Prop
  | mk (v : Value) (ws : List Value) (e : vs = v :: ws) (r : Rep h₀ T sl v d) (q : RepAll h₀ T sl ws ds) : ConsInv h₀ T sl vs d ds
noncomputable def RepAllInv (h₀ : Heap) (T : Addr) (sl : Led) (vs : List Value) : List AV → Prop
  | [] => vs = []
  | d :: ds => ConsInv h₀ T sl vs d ds
theorem RepAll.inv {h₀ : Heap} {T : Addr} {sl : Led} {vs : List Value} {ds : List AV} (r : RepAll h₀ T sl vs ds) : RepAllInv h₀ T sl vs ds :=
  RepAll.casesOn (motive_2 := fun vs ds _ => RepAllInv h₀ T sl vs ds) r rfl (fun a b => ⟨_, _, rfl, a, b⟩)
theorem InL.mono {h₀ : Heap} {sl sl' : Led} {a : Addr} {o : Obj} (hs : ∀ p ∈ sl, p ∈ sl') (h : InL h₀ sl a o) : InL h₀ sl' a o := h.imp (hs _) id
theorem InL.get {h₀ h : Heap} {l sl : Led} {a : Addr} {o : Obj} (H : Hp h₀ h l) (hs : ∀ p ∈ sl, p ∈ l) (i : InL h₀ sl a o) : h.get? a = some o := i.elim (fun m => H.get _ (hs _ m)) (H.keep _ _)
theorem Rep.mono {h₀ : Heap} {T : Addr} {sl sl' : Led} (hs : ∀ p ∈ sl, p ∈ sl') {v : Value} {d : AV} (r : Rep h₀ T sl v d) : Rep h₀ T sl' v d :=
  Rep.rec (motive_1 := fun v d _ => Rep h₀ T sl' v d) (motive_2 := fun vs ds _ => RepAll h₀ T sl' vs ds) .none .bool .int .str .bytes (fun h _ r => .tup (h.mono hs) r)
    (fun h h1 h2 _ r => .lst (h.mono hs) h1 h2 r) (fun h1 h2 h3 => .fld (hs _ h1) (hs _ h2) h3) (fun h => .rng (h.mono hs)) .tape (fun h e _ r => .new (hs _ h) e r) .obj .nil (fun _ _ h r => .cons h r) r
theorem RepAll.mono {h₀ : Heap} {T : Addr} {sl sl' : Led} (hs : ∀ p ∈ sl, p ∈ sl') {vs : List Value} {ds : List AV} (r : RepAll h₀ T sl vs ds) : RepAll h₀ T sl' vs ds :=
  RepAll.rec (motive_1 := fun v d _ => Rep h₀ T sl' v d) (motive_2 := fun vs ds _ => RepAll h₀ T sl' vs ds) .none .bool .int .str .bytes (fun h _ r => .tup (h.mono hs) r)
    (fun h h1 h2 _ r => .lst (h.mono hs) h1 h2 r) (fun h1 h2 h3 => .fld (hs _ h1) (hs _ h2) h3) (fun h => .rng (h.mono hs)) .tape (fun h e _ r => .new (hs _ h) e r) .obj .nil (fun _ _ h r => .cons h r) r
section
variable {h₀ : Heap} {T : Addr} {sl : Led} {v : Value} {vs ws : List Value} {d : AV} {ds es : List AV}
theorem RepAll.ind {P : List Value → List AV → Prop} (h : RepAll h₀ T sl vs ds) (n : P [] []) (c : ∀ v d, Rep h₀ T sl v d → ∀ vs ds, RepAll h₀ T sl vs ds → P vs ds → P (v :: vs) (d :: ds)) : P vs ds :=
  RepAll.rec (motive_1 := fun _ _ _ => True) (motive_2 := fun vs ds _ => P vs ds) trivial (fun _ => trivial) (fun _ _ => trivial) (fun _ _ => trivial) (fun _ _ => trivial) (fun _ _ _ => trivial)
    (fun _ _ _ _ _ => trivial) (fun _ _ _ => trivial) (fun _ => trivial) trivial (fun _ _ _ _ => trivial) (fun _ => trivial) n (fun a b _ r => c _ _ a _ _ b r) h
theorem RepAll.length (h : RepAll h₀ T sl vs ds) : vs.length = ds.length := h.ind (P := fun vs ds => vs.length = ds.length) rfl fun _ _ _ _ _ _ r => congrArg (· + 1) r
theorem RepAll.append (h : RepAll h₀ T sl vs ds) (k : RepAll h₀ T sl ws es) : RepAll h₀ T sl (vs ++ ws) (ds ++ es) := h.ind (P := fun vs ds => RepAll h₀ T sl (vs ++ ws) (ds ++ es)) k fun _ _ a _ _ _ r => .cons a r
theorem RepAll.one (h : Rep h₀ T sl v d) : RepAll h₀ T sl [v] [d] := .cons h .nil
theorem RepAll.get (h : RepAll h₀ T sl vs ds) {k : Nat} {d : AV} (hk : ds[k]? = some d) : ∃ v, vs[k]? = some v ∧ Rep h₀ T sl v d :=
  h.ind (P := fun vs ds => ∀ k, ds[k]? = some d → ∃ v, vs[k]? = some v ∧ Rep h₀ T sl v d) (fun _ e => by simp at e) (fun v _ a _ _ _ r k => k.casesOn (fun e => ⟨v, rfl, Option.some.inj e ▸ a⟩) (fun k e => let ⟨w, p, q⟩ := r k e; ⟨w, p, q⟩)) k hk
theorem RepAll.take (h : RepAll h₀ T sl vs ds) (k : Nat) : RepAll h₀ T sl (vs.take k) (ds.take k) :=
  h.ind (P := fun vs ds => ∀ k, RepAll h₀ T sl (vs.take k) (ds.take k)) (fun k => k.casesOn .nil fun _ => .nil) (fun _ _ a _ _ _ r k => k.casesOn .nil fun k => .cons a (r k)) k
theorem RepAll.drop (h : RepAll h₀ T sl vs ds) (k : Nat) : RepAll h₀ T sl (vs.drop k) (ds.drop k) :=
  h.ind (P := fun vs ds => ∀ k, RepAll h₀ T sl (vs.drop k) (ds.drop k)) (fun k => k.casesOn .nil fun _ => .nil) (fun _ _ a _ _ b r k => k.casesOn (.cons a b) fun k => r k) k
theorem RepAll.set (h : RepAll h₀ T sl vs ds) (k : Nat) (hv : Rep h₀ T sl v d) : RepAll h₀ T sl (vs.set k v) (ds.set k d) :=
  h.ind (P := fun vs ds => ∀ k, RepAll h₀ T sl (vs.set k v) (ds.set k d)) (fun _ => .nil) (fun _ _ a _ _ b r k => k.casesOn (.cons hv b) fun k => .cons a (r k)) k
end

/-- of the world: what the top left, as the call finds it -/
structure Bs (w : World) (h₀ : Heap) : Prop where
  K : (hd.heap_39 w.params).In h₀
  lim : h₀.NoLimit
  g : ∃ mg, h₀.Ns mainGlobals mg
  b : ∃ mb, h₀.Ns builtinsNs mb ∧ ∀ x : Str, x ≠ "__name__" → mb x = bootBuiltins x

inductive Slot where
  | val (a : AV)
  | opn (l : List AV)
  | pin (D : Addr)
/-- the pure state -/
structure Sg where
  tp : Option (Int × Int × Int)
  ev : Str → Option Slot
noncomputable def Sg.set (σ : Sg) (x : Str) (v : Slot) : Sg := ⟨σ.tp, fun y => if y = x then some v else σ.ev y⟩
/-- where a function's body is run -/
structure Cx where
  prog : Program
  w : World
  A : Around
  env : Env
  h₀ : Heap
  T : Addr
  hid : Led
  own : Bool

/-- a list's object -/
inductive IsLst (o : Obj) (ws : List Value) : Prop
  | mk (cls : o.cls = .type "list") (n : Nat) (data : o.data = .seq ws.toArray n) (dict : o.dict = none) (slots : o.slots = #[]) : IsLst o ws
theorem IsLst.type {o : Obj} {ws : List Value} (h : IsLst o ws) : o.cls = .type "list" := h.casesOn fun c _ _ _ _ => c
theorem IsLst.seq {o : Obj} {ws : List Value} (h : IsLst o ws) : ∃ n, o.data = .seq ws.toArray n := h.casesOn fun _ n d _ _ => ⟨n, d⟩
inductive TpSome (T : Addr) (a b c : Int) (tl : Led) : Prop
  | mk (t1 t2 t3 : Tok) (o : Obj) (e : tl = [(T, o)]) (l : IsLst o [.int a t1, .int b t2, .int c t3]) : TpSome T a b c tl
noncomputable def TpAt (T : Addr) : Option (Int × Int × Int) → Led → Prop
  | none, tl => tl = []
  | some (a, b, c), tl => TpSome T a b c tl

inductive HasC (env : Env) (cells : Led) (x : Str) (v : Value) : Prop
  | mk (k : env.kindOf x = some .cell ∨ (env.kindOf x = some .free ∧ (x == ("__classdict__" : Str)) = false)) (c : Addr) (o : Obj) (l : env.cells.lookup x = some c) (m : (c, o) ∈ cells) (d : o.data = .cell (some v)) : HasC env cells x v
noncomputable def HasV (env : Env) (m : Str → Option Value) (cells : Led) (x : Str) (v : Value) : Prop :=
  (env.kindOf x = some .local ∧ m x = some v) ∨ HasC env cells x v
inductive OpnAt (env : Env) (h₀ : Heap) (T : Addr) (m : Str → Option Value) (op sl : Led) (x : Str) (l : List AV) : Prop
  | mk (D : Addr) (ws : List Value) (o : Obj) (k : env.kindOf x = some .local) (e : m x = some (.ref D)) (i : (D, o) ∈ op) (s : IsLst o ws) (r : RepAll h₀ T sl ws l) : OpnAt env h₀ T m op sl x l

structure EvRep (c : Cx) (m : Str → Option Value) (op sl : Led) (ev : Str → Option Slot) : Prop where
  vals : ∀ x a, ev x = some (.val a) → ∃ v, HasV c.env m (op ++ c.hid) x v ∧ Rep c.h₀ c.T sl v a
  opens : ∀ x l, ev x = some (.opn l) → OpnAt c.env c.h₀ c.T m op sl x l
  pins : ∀ x D, ev x = some (.pin D) → c.env.kindOf x = some .local ∧ m x = some (.ref D)
  inj : ∀ x y l l', ev x = some (.opn l) → ev y = some (.opn l') → m x = m y → x = y
  cells : c.own = true → ∀ x k, c.env.kindOf x = some .cell → c.env.cells.lookup x = some k → ∃ o v₀, (k, o) ∈ op ∧ o.data = .cell v₀

/-- the heap shows the pure state -/
inductive St (c : Cx) (σ : Sg) (sl : Led) (h : Heap) : Prop
  | mk (tl : Led) (oD : Obj) (op : Led) (m : Str → Option Value) (H : Hp c.h₀ h (sl ++ (c.hid ++ (op ++ ((c.env.locals, oD) :: tl))))) (t : TpAt c.T σ.tp tl) (n : NsObj oD m) (r : EvRep c m op sl σ.ev) : St c σ sl h

/-- room for n calls, one within the other -/
structure Room (A : Around) (n : Nat) : Prop where
  hh : A.handled = none
  hd : A.depth + n < 900
  hu : A.units + 40 * n + 200 < cLine

structure CxOk (c : Cx) (n : Nat) : Prop where
  bs : Bs c.w c.h₀
  room : Room c.A n
  kind : c.env.scope.kind = .function
  glob : c.env.globals = mainGlobals
  blt : c.env.builtins = builtinsNs
  apart : c.env.cells.Pairwise fun x y => x.2 ≠ y.2

/-- an expression: what it gives, and the state behind it -/
noncomputable def EV (c : Cx) (e : Expr) (σ : Sg) (Φ : AV → Sg → Prop) : Prop :=
  ∀ (sl : Led) (s : Shared), St c σ sl s.heap → ∀ Q : Value → Shared → Prop,
    (∀ v a σ' sl' h' tk', (∀ p ∈ sl, p ∈ sl') → St c σ' sl' h' → Rep c.h₀ c.T sl' v a → Φ a σ' → Q v { s with heap := h', toks := tk' }) →
    wpAny (model c.prog c.w) c.A (eval e c.env) Q (fun _ _ => False) s

theorem EV.mono {c : Cx} {e : Expr} {σ : Sg} {Φ Ψ : AV → Sg → Prop} (h : EV c e σ Φ) (hi : ∀ a σ', Φ a σ' → Ψ a σ') : EV c e σ Ψ :=
  fun sl s hs Q hQ => h sl s hs Q fun v a σ' sl' h' tk' h1 h2 h3 h4 => hQ v a σ' sl' h' tk' h1 h2 h3 (hi _ _ h4)

noncomputable def Cx.withHid (c : Cx) (l : Led) : Cx := { c with hid := l }
/-- some datum of that kind, and the walk goes on with it -/
inductive ExR {α : Type} (R : α → Prop) (Φ : α → Sg → Prop) (σ : Sg) : Prop
  | mk (d : α) (r : R d) (h : Φ d σ) : ExR R Φ σ
@[reducible] noncomputable def aBool (a : AV) (b : Bool) : Prop := a = .bool b
@[reducible] noncomputable def aInt (a : AV) (i : Int) : Prop := a = .int i
inductive FldE (a : AV) (Φ : List UInt8 → List UInt8 → Sg → Prop) (σ : Sg) : Prop
  | mk (x y : List UInt8) (e : a = .fld x y) (h : Φ x y σ) : FldE a Φ σ
theorem St.hp {c : Cx} {σ : Sg} {sl : Led} {h : Heap} (S : St c σ sl h) : ∃ l, Hp c.h₀ h (sl ++ l) := by
  obtain ⟨tl, oD, op, m, H, _, _, _⟩ := S
  exact ⟨_, H⟩
theorem EvRep.mono {c : Cx} {m : Str → Option Value} {op sl sl' : Led} {ev : Str → Option Slot} (R : EvRep c m op sl ev) (hs : ∀ p ∈ sl, p ∈ sl') : EvRep c m op sl' ev :=
  ⟨fun x a e => let ⟨v, q, r⟩ := R.vals x a e; ⟨v, q, r.mono hs⟩, fun x l e => let ⟨D, ws, n, q1, q2, q3, q4, r⟩ := R.opens x l e; ⟨D, ws, n, q1, q2, q3, q4, r.mono hs⟩, R.pins, R.inj, R.cells⟩
/-- one object more, sealed -/
theorem St.seal {c : Cx} {σ : Sg} {sl : Led} {h h' : Heap} {a : Addr} {o : Obj} (S : St c σ sl h) (hk : ∀ b o, h.get? b = some o → h'.get? b = some o) (ha : h'.get? a = some o) (hn : h.get? a = none) : St c σ ((a, o) :: sl) h' := by
  obtain ⟨tl, oD, op, m, H, h1, h2, h3⟩ := S
  exact ⟨tl, oD, op, m, H.more hk ha hn, h1, h2, h3.mono fun p hp => List.mem_cons_of_mem _ hp⟩
theorem St.push {c : Cx} {σ : Sg} {sl : Led} {h : Heap} (S : St c σ sl h) (o : Obj) (hf : o.isFreed = false := by rfl) : St c σ ((h.objs.size, o) :: sl) (h.push o) :=
  S.seal (fun _ _ e => Heap.get?_push_of_some _ e) (Heap.get?_push_size _ hf) (Hp.none_size h)
/-- all stands as it stood -/
theorem St.keeps {c : Cx} {σ : Sg} {sl : Led} {h h' : Heap} (S : St c σ sl h) (hk : ∀ b o, h.get? b = some o → h'.get? b = some o) : St c σ sl h' := by
  obtain ⟨tl, oD, op, m, H, h1, h2, h3⟩ := S
  exact ⟨tl, oD, op, m, H.keeps hk, h1, h2, h3⟩
theorem St.rep {c : Cx} {σ : Sg} {sl sl' : Led} {h : Heap} (S : St c σ sl h) (hs : ∀ p ∈ sl', p ∈ sl) {a : Addr} {o : Obj} (i : InL c.h₀ sl' a o) : h.get? a = some o := by
  obtain ⟨l, H⟩ := S.hp
  exact i.get H fun p hp => List.mem_append_left _ (hs p hp)
end Mine
namespace Mine
open PySem PySem.W PySem.Calls PyProof.Rows PyProof.Rows.LCg
theorem sh_eta (s : Shared) : ({ s with heap := s.heap, toks := s.toks } : Shared) = s := rfl

section
variable {c : Cx} {σ : Sg} {Φ : AV → Sg → Prop} {n : Nat}

/-- a value that is no object -/
theorem EV.ret {e : Expr} {σ : Sg} {a : AV} (h : Φ a σ)
    (w : ∀ (sl : Led) (s : Shared), St c σ sl s.heap → ∀ Q : Value → Shared → Prop, (∀ v tk, Rep c.h₀ c.T sl v a → Q v { s with toks := tk }) → wpAny (model c.prog c.w) c.A (eval e c.env) Q (fun _ _ => False) s) : EV c e σ Φ :=
  fun sl s hs Q hQ => w sl s hs Q fun v tk r => hQ v a σ sl s.heap tk (fun _ h => h) hs r h

theorem EV.int {i : Int} {k pos} (h : Φ (.int i) σ) : EV c (.Constant (.int i) k pos) σ Φ := .ret h fun _ s _ Q hQ => wpAny_Constant_int (hQ _ _ (.int i _))
theorem EV.str {x : Str} {k pos} (h : Φ (.str x.cps.toList) σ) : EV c (.Constant (.str x) k pos) σ Φ := .ret h fun sl s _ Q hQ => Constant_str (hQ _ _ (by
  have : x = ⟨x.cps.toList.toArray⟩ := by cases x; simp
  have r := Rep.str (h₀ := c.h₀) (T := c.T) (sl := sl) x.cps.toList s.toks
  rw [← this] at r; exact r))
theorem EV.bytes {b : List UInt8} {k pos} (h : Φ (.bytes b) σ) : EV c (.Constant (.bytes b) k pos) σ Φ := .ret h fun _ s _ Q hQ => Constant_bytes (hQ _ _ (.bytes b _))
theorem EV.none {k pos} (h : Φ .none σ) : EV c (.Constant .none k pos) σ Φ := .ret h fun _ s _ Q hQ => fun _ _ _ => hQ _ _ .none
theorem EV.bool {b : Bool} {k pos} (h : Φ (.bool b) σ) : EV c (.Constant (.bool b) k pos) σ Φ := .ret h fun _ s _ Q hQ => fun _ _ _ => hQ _ _ (.bool b)

theorem HasV.load {M : Model} {A : Around} {E : Value → Shared → Prop} {h₀ : Heap} {env : Env} {m : Str → Option Value} {cells l : Led} {x : Str} {v : Value} {pos : Pos} {s : Shared} {Q : Value → Shared → Prop}
    (H : Hp h₀ s.heap l) (hc : ∀ p ∈ cells, p ∈ l) (hk : env.scope.kind = .function) (hn : s.heap.Ns env.locals m) (hv : HasV env m cells x v) (hd : (x == ("__debug__" : Str)) = false) (h : Q v s) :
    wpAny M A (eval (.Name x pos) env) Q E s := by
  refine wpAny_Name ?_ hd
  rcases hv with ⟨h1, h2⟩ | ⟨h1, k, o, h2, h3, h4⟩
  · exact wpAny_loadName_local hk h1 hn h2 h
  · have hcell : s.heap.IsCell k (some v) := ⟨o, H.get _ (hc _ h3), h4⟩
    rcases h1 with h1 | ⟨h1, h5⟩
    · exact wpAny_loadName_cell hk h1 h2 hcell h
    · exact wpAny_loadName_free hk h1 h2 hcell h h5

theorem St.ns {c : Cx} {sl tl op : Led} {oD : Obj} {m : Str → Option Value} {h : Heap} (H : Hp c.h₀ h (sl ++ (c.hid ++ (op ++ ((c.env.locals, oD) :: tl))))) (hm : NsObj oD m) : h.Ns c.env.locals m :=
  hm.ns (H.get (c.env.locals, oD) (by simp))

theorem EV.name {x : Str} {pos : Pos} {a : AV} (K : CxOk c n) (hx : σ.ev x = some (.val a)) (h : Φ a σ) (hd : (x == ("__debug__" : Str)) = false := by decide) : EV c (.Name x pos) σ Φ := by
  refine .ret h fun sl s S Q hQ => ?_
  obtain ⟨tl, oD, op, m, H, _, h2, h3⟩ := S
  obtain ⟨v, hv, r⟩ := h3.vals x a hx
  exact HasV.load H (fun p hp => by
    rcases List.mem_append.mp hp with hp | hp <;> simp [hp]) K.kind (St.ns H h2) hv hd (hQ v s.toks r)

/-- an open list, read whole: from here on it stays -/
theorem EV.nameO {x : Str} {pos : Pos} {l : List AV} (K : CxOk c n) (hx : σ.ev x = some (.opn l)) (h : Φ (.lst l) (σ.set x (.val (.lst l)))) (hd : (x == ("__debug__" : Str)) = false := by decide) : EV c (.Name x pos) σ Φ := by
  intro sl s S Q hQ
  obtain ⟨tl, oD, op, m, H, h1, h2, h3⟩ := S
  obtain ⟨D, ws, oo, q1, q2, q3, q4, r⟩ := h3.opens x l hx
  refine wpAny_Name (wpAny_loadName_local K.kind q1 (St.ns H h2) q2 ?_) hd
  obtain ⟨o1, o2, rfl⟩ := List.append_of_mem q3
  have hp : (sl ++ (c.hid ++ ((o1 ++ (D, oo) :: o2) ++ ((c.env.locals, oD) :: tl)))).Perm ((D, oo) :: sl ++ (c.hid ++ ((o1 ++ o2) ++ ((c.env.locals, oD) :: tl)))) := by
    have := (List.perm_middle (a := (D, oo)) (l₁ := sl ++ (c.hid ++ o1)) (l₂ := o2 ++ ((c.env.locals, oD) :: tl)))
    simpa [List.append_assoc] using this
  have hsub : ∀ p ∈ sl, p ∈ (D, oo) :: sl := fun p hp => List.mem_cons_of_mem _ hp
  have Hn := H
  refine hQ (.ref D) (.lst l) (σ.set x (.val (.lst l))) ((D, oo) :: sl) s.heap s.toks hsub ⟨tl, oD, o1 ++ o2, m, H.perm hp, h1, h2, ?_⟩ (.lst (.inl List.mem_cons_self) q4.type q4.seq.choose_spec (r.mono hsub)) h
  have inop : ∀ p : Addr × Obj, p ∈ o1 ++ (D, oo) :: o2 → p ≠ (D, oo) → p ∈ o1 ++ o2 := fun p hp hne => by
    rcases List.mem_append.mp hp with hp | hp
    · exact List.mem_append_left _ hp
    · rcases List.mem_cons.mp hp with hp | hp
      · exact absurd hp hne
      · exact List.mem_append_right _ hp
  refine ⟨fun y a e => ?_, fun y l' e => ?_, fun y D' e => ?_, fun y z l1 l2 e1 e2 => ?_, fun ho y kk e1 e2 => ?_⟩
  · by_cases hy : y = x
    · subst hy
      simp only [Sg.set, if_true, Option.some.injEq, Slot.val.injEq] at e
      subst e
      exact ⟨.ref D, .inl ⟨q1, q2⟩, .lst (.inl List.mem_cons_self) q4.type q4.seq.choose_spec (r.mono hsub)⟩
    · simp only [Sg.set, if_neg hy] at e
      obtain ⟨v, hv, rv⟩ := h3.vals y a e
      refine ⟨v, ?_, rv.mono hsub⟩
      rcases hv with hv | ⟨g1, kk, o, g2, g3, g4⟩
      · exact .inl hv
      · refine .inr ⟨g1, kk, o, g2, ?_, g4⟩
        rcases List.mem_append.mp g3 with g3 | g3
        · refine List.mem_append_left _ (inop _ g3 fun q => ?_)
          cases q; obtain ⟨kk', hk'⟩ := q4.seq; rw [hk'] at g4; cases g4
        · exact List.mem_append_right _ g3
  · have hy : y ≠ x := by
      rintro rfl
      simp [Sg.set] at e
    simp only [Sg.set, if_neg hy] at e
    obtain ⟨D', ws', k', g1, g2, g3, g5, g4⟩ := h3.opens y l' e
    refine ⟨D', ws', k', g1, g2, inop _ g3 fun q => ?_, g5, g4.mono hsub⟩
    cases q
    exact hy (h3.inj y x _ _ e hx (g2.trans q2.symm))
  · have hy : y ≠ x := by
      rintro rfl
      simp [Sg.set] at e
    simp only [Sg.set, if_neg hy] at e
    exact h3.pins y D' e
  · have hy : y ≠ x := by
      rintro rfl
      simp [Sg.set] at e1
    have hz : z ≠ x := by
      rintro rfl
      simp [Sg.set] at e2
    simp only [Sg.set, if_neg hy] at e1
    simp only [Sg.set, if_neg hz] at e2
    exact h3.inj y z l1 l2 e1 e2
  · obtain ⟨o, v0, g1, g2⟩ := h3.cells ho y kk e1 e2
    exact ⟨o, v0, inop _ g1 (fun q => by cases q; obtain ⟨kk', hk'⟩ := q4.seq; rw [hk'] at g2; cases g2), g2⟩

/-- a name of the text's top -/
theorem EV.glob {x : Str} {pos : Pos} {v : Value} {a : AV} (K : CxOk c n) (e : nsIn (hd.heap_39 c.w.params) mainGlobals x = some (some v)) (hk : c.env.kindOf x = some .globalImplicit)
    (r : ∀ sl, Rep c.h₀ c.T sl v a) (h : Φ a σ) (hd : (x == ("__debug__" : Str)) = false := by decide) : EV c (.Name x pos) σ Φ := by
  refine .ret h fun sl s S Q hQ => ?_
  obtain ⟨l, H⟩ := S.hp
  obtain ⟨mg, hg⟩ := K.bs.g
  exact Name_function_global K.kind hk (loadGlobal_global (by rw [K.glob]; exact hg.keeps H.keep) (mg_of K.bs.K hg e) (hQ v s.toks (r sl))) hd
end

/-- a callee's name -/
theorem fname {c : Cx} {n : Nat} {σ : Sg} {sl : Led} {s : Shared} {x : Str} {pos : Pos} {v : Value} {Q : Value → Shared → Prop} (K : CxOk c n) (S : St c σ sl s.heap) (e : nsIn (hd.heap_39 c.w.params) mainGlobals x = some (some v)) (hk : c.env.kindOf x = some .globalImplicit)
    (h : Q v s) (hd : (x == ("__debug__" : Str)) = false := by decide) : wpAny (model c.prog c.w) c.A (eval (.Name x pos) c.env) Q (fun _ _ => False) s := by
  obtain ⟨l, H⟩ := S.hp
  obtain ⟨mg, hg⟩ := K.bs.g
  exact Name_function_global K.kind hk (loadGlobal_global (by rw [K.glob]; exact hg.keeps H.keep) (mg_of K.bs.K hg e) h) hd
theorem bname {c : Cx} {n : Nat} {σ : Sg} {sl : Led} {s : Shared} {x : Str} {pos : Pos} {v : Value} {Q : Value → Shared → Prop} (K : CxOk c n) (S : St c σ sl s.heap) (e : nsIn (hd.heap_39 c.w.params) mainGlobals x = some none) (hv : bootBuiltins x = some v) (hk : c.env.kindOf x = some .globalImplicit)
    (h : Q v s) (hn : x ≠ "__name__" := by decide) (hd : (x == ("__debug__" : Str)) = false := by decide) : wpAny (model c.prog c.w) c.A (eval (.Name x pos) c.env) Q (fun _ _ => False) s := by
  obtain ⟨l, H⟩ := S.hp
  obtain ⟨mg, hg⟩ := K.bs.g
  obtain ⟨mb, hb, hbb⟩ := K.bs.b
  exact Name_function_global K.kind hk (loadGlobal_builtin (by rw [K.glob]; exact hg.keeps H.keep) (mg_none_of K.bs.K hg e) (by rw [K.blt]; exact hb.keeps H.keep) ((hbb x hn).trans hv) h) hd

theorem gf : ∀ P : Params, nsIn (hd.heap_39 P) mainGlobals "line_at" = some (some (.ref 107)) := by intro P; rfl
theorem gl : ∀ P : Params, nsIn (hd.heap_39 P) mainGlobals "len" = some none := by intro P; rfl
theorem gw : ∀ P : Params, nsIn (hd.heap_39 P) mainGlobals "WHITE" = some (some (.ref 67)) := by intro P; rfl
theorem gwt : ∀ P : Params, (hd.heap_39 P).lookup 67 = some (tupOf [.int 32 264, .int 9 265].toArray 0) := by intro P; rfl
theorem bl : bootBuiltins "len" = some (.builtin "len") := by boot_by_name
end Mine
namespace Mine
open PySem PySem.W PySem.Calls PyProof.Rows PyProof.Rows.LCg PySem.SeqAt
/-- the room that a step asks -/
theorem Room.line {A : Around} {n : Nat} (r : Room A n) : A.units + 200 < cLine := by have := r.hu; omega

mutual
/-- data alone: no object of a class, no tape -/
noncomputable def AV.data : AV → Bool
  | .fld .. => false
  | .rng _ => false
  | .tape => false
  | .new _ => false
  | .obj _ => false
  | .tup l => dataAll l
  | .lst l => dataAll l
  | _ => true
noncomputable def dataAll : List AV → Bool
  | [] => true
  | a :: l => a.data && dataAll l
/-- how deep it is -/
noncomputable def AV.deep : AV → Nat
  | .tup l => deepAll l + 1
  | .lst l => deepAll l + 1
  | _ => 0
noncomputable def deepAll : List AV → Nat
  | [] => 0
  | a :: l => max a.deep (deepAll l)
end
theorem dataAll_iff : ∀ {l : List AV}, dataAll l = true ↔ ∀ a ∈ l, a.data = true
  | [] => by simp [dataAll]
  | a :: l => by simp [dataAll, dataAll_iff (l := l)]
theorem deepAll_le : ∀ {l : List AV} {n : Nat}, (∀ a ∈ l, a.deep ≤ n) → deepAll l ≤ n
  | [], _, _ => Nat.zero_le _
  | a :: l, n, h => Nat.max_le.mpr ⟨h a (.head _), deepAll_le fun b hb => h b (.tail _ hb)⟩

theorem InL.list {h₀ h : Heap} {l sl : Led} {a : Addr} {o : Obj} {vs : List Value} {n : Nat} (H : Hp h₀ h l) (hs : ∀ p ∈ sl, p ∈ l) (i : InL h₀ sl a o) (hc : o.cls = .type "list") (hd : o.data = .seq vs.toArray n) : h.IsList a vs.toArray := ⟨o, i.get H hs, hc, n, hd⟩
theorem InL.tuple {h₀ h : Heap} {l sl : Led} {a : Addr} {vs : List Value} {n : Nat} (H : Hp h₀ h l) (hs : ∀ p ∈ sl, p ∈ l) (i : InL h₀ sl a (tupOf vs.toArray n)) : h.IsTuple a vs.toArray := ⟨_, i.get H hs, rfl, n, rfl⟩

theorem eqBool_bytes (A : Around) (s : Shared) (b : Array UInt8) (t u : Tok) : EqAt A s (.bytes b t) (.bytes b u) true := fun prog w E Q h => by
  unfold eqBool
  refine wpAny_holding ?_
  refine wpAny_ite_split (fun hab => wpAny_bind (wpAny_rule (wpAny_pure h))) (fun _ => ?_)
  have g : wpAny (model prog w) A (compareOp .Eq (.bytes b t) (.bytes b u)) (fun v s' => wpAny (model prog w) A (truthOfDropped v) Q E s') E s := eq_bytes (by
    rw [beq_self_eq_true]; exact wpAny_truthy_bool h)
  exact wpAny_bind g
theorem allT (n : Nat) : ((List.range n).all fun _ => true) = true := List.all_eq_true.mpr fun _ _ => rfl

noncomputable def RepEq (h₀ : Heap) (T : Addr) (sl : Led) (s : Shared) (v : Value) (d : AV) : Prop := ∀ (u : Value) (A : Around), Rep h₀ T sl u d → d.data = true → A.units + 2 * d.deep + 2 < cLine → EqAt A s v u true
noncomputable def RepAllEq (h₀ : Heap) (T : Addr) (sl : Led) (s : Shared) (vs : List Value) (ds : List AV) : Prop := ∀ (us : List Value) (A : Around), RepAll h₀ T sl us ds → dataAll ds = true → A.units + 2 * deepAll ds + 2 < cLine → ∀ k (h1 : k < vs.length) (h2 : k < us.length), EqAt A s vs[k] us[k] true
section
variable {h₀ : Heap} {T : Addr} {sl l : Led} {s : Shared}
theorem RepEq.tup (H : Hp h₀ s.heap l) (hs : ∀ p ∈ sl, p ∈ l) {a : Addr} {vs : List Value} {n : Nat} {ds : List AV} (i : InL h₀ sl a (tupOf vs.toArray n)) (r : RepAll h₀ T sl vs ds) (ih : RepAllEq h₀ T sl s vs ds) : RepEq h₀ T sl s (.ref a) (.tup ds) := fun u A q hd hu => by
  obtain ⟨b, us, m, e, j, q⟩ := q.inv
  rw [e]
  by_cases hab : a = b
  · rw [hab]; exact EqAt.same _
  · refine EqAt.of_refs hab ?_
    have hl := r.length; have hl2 := q.length
    simp only [AV.deep] at hu
    have := RcAt.tuples (A := A) (e := fun _ => true) (i.tuple H hs) (j.tuple H hs) (by omega) fun k h1 h2 => by
      simp only [List.getElem_toArray]
      exact ih us A.in1 q hd (by simp only [Around.in1_units]; omega) k (by simpa using h1) (by simpa using h2)
    simpa [hl, hl2, allT] using this
theorem RepEq.lst (H : Hp h₀ s.heap l) (hs : ∀ p ∈ sl, p ∈ l) {a : Addr} {o : Obj} {vs : List Value} {n : Nat} {ds : List AV} (i : InL h₀ sl a o) (c1 : o.cls = .type "list") (d1 : o.data = .seq vs.toArray n) (r : RepAll h₀ T sl vs ds) (ih : RepAllEq h₀ T sl s vs ds) : RepEq h₀ T sl s (.ref a) (.lst ds) := fun u A q hd hu => by
  obtain ⟨b, o2, us, m, e, j, c2, d2, q⟩ := q.inv
  rw [e]
  by_cases hab : a = b
  · rw [hab]; exact EqAt.same _
  · refine EqAt.of_refs hab ?_
    have hl := r.length; have hl2 := q.length
    simp only [AV.deep] at hu
    have := RcAt.lists (A := A) (e := fun _ => true) (i.list H hs c1 d1) (j.list H hs c2 d2) (by simp [hl, hl2]) (by omega) fun k h1 h2 => by
      simp only [List.getElem_toArray]
      exact ih us A.in1 q hd (by simp only [Around.in1_units]; omega) k (by simpa using h1) (by simpa using h2)
    simpa [hl, hl2, allT] using this
theorem RepAllEq.cons {v : Value} {vs : List Value} {d : AV} {ds : List AV} (a : RepEq h₀ T sl s v d) (r : RepAllEq h₀ T sl s vs ds) : RepAllEq h₀ T sl s (v :: vs) (d :: ds) := fun us A q hd hu k h1 h2 => by
  obtain ⟨u, us', e, q1, q2⟩ := q.inv
  subst e
  simp only [dataAll, Bool.and_eq_true] at hd
  simp only [deepAll] at hu
  cases k with
  | zero => exact a _ A q1 hd.1 (by omega)
  | succ k => exact r _ A q2 hd.2 (by omega) k (Nat.lt_of_succ_lt_succ h1) (Nat.lt_of_succ_lt_succ h2)
theorem RepEq.int (i : Int) (t : Tok) : RepEq h₀ T sl s (.int i t) (.int i) := fun u A q _ _ => by
  obtain ⟨t', e⟩ := q.inv; rw [e]; have := EqAt.int_int (A := A) (s := s) i t i t'; rwa [beq_self_eq_true] at this
theorem RepEq.str (x : List Nat) (t : Tok) : RepEq h₀ T sl s (.str ⟨x.toArray⟩ t) (.str x) := fun u A q _ _ => by
  obtain ⟨t', e⟩ := q.inv; rw [e]; have := (PyProof.Rows.eqGives_str ⟨x.toArray⟩ ⟨x.toArray⟩ t t').at A s; rwa [beq_self_eq_true] at this
theorem RepEq.bytes (b : List UInt8) (t : Tok) : RepEq h₀ T sl s (.bytes b.toArray t) (.bytes b) := fun u A q _ _ => by
  obtain ⟨t', e⟩ := q.inv; rw [e]; exact eqBool_bytes A s _ t t'
theorem Rep.eq (H : Hp h₀ s.heap l) (hs : ∀ p ∈ sl, p ∈ l) {v u : Value} {d : AV} (A : Around) (r : Rep h₀ T sl v d) (q : Rep h₀ T sl u d) (hd : d.data = true) (hu : A.units + 2 * d.deep + 2 < cLine) : EqAt A s v u true :=
  Rep.rec (motive_1 := fun v d _ => RepEq h₀ T sl s v d) (motive_2 := fun vs ds _ => RepAllEq h₀ T sl s vs ds)
    (fun _ _ q _ _ => q.inv ▸ EqAt.same _) (fun _ _ _ q _ _ => q.inv ▸ EqAt.same _) RepEq.int RepEq.str RepEq.bytes (fun i r ih => RepEq.tup H hs i r ih) (fun i c1 d1 r ih => RepEq.lst H hs i c1 d1 r ih)
    (fun _ _ _ _ _ _ hd => Bool.noConfusion hd) (fun _ _ _ _ hd => Bool.noConfusion hd) (fun _ _ _ hd => Bool.noConfusion hd) (fun _ _ _ _ _ _ _ hd => Bool.noConfusion hd) (fun _ _ _ _ hd => Bool.noConfusion hd)
    (fun _ _ _ _ _ _ h1 => absurd h1 (Nat.not_lt_zero _)) (fun _ _ a r => RepAllEq.cons a r) r u A q hd hu
theorem RepAll.eq (H : Hp h₀ s.heap l) (hs : ∀ p ∈ sl, p ∈ l) {vs us : List Value} {ds : List AV} (A : Around) (r : RepAll h₀ T sl vs ds) (q : RepAll h₀ T sl us ds) (hd : dataAll ds = true) (hu : A.units + 2 * deepAll ds + 2 < cLine) (k : Nat) (h1 : k < vs.length) (h2 : k < us.length) : EqAt A s vs[k] us[k] true :=
  r.ind (P := RepAllEq h₀ T sl s) (fun _ _ _ _ _ _ h1 => absurd h1 (Nat.not_lt_zero _)) (fun _ _ a _ _ _ ih => RepAllEq.cons (fun _ A q hd hu => Rep.eq H hs A a q hd hu) ih) us A q hd hu k h1 h2
end

/-- sums and the like: what they are, and what they ask -/
inductive BinR : Operator → AV → AV → AV → Prop
  | addI (i j : Int) : BinR .Add (.int i) (.int j) (.int (i + j))
  | subI (i j : Int) : BinR .Sub (.int i) (.int j) (.int (i - j))
  | mulI (i j : Int) (h : IntMulOk i j) : BinR .Mult (.int i) (.int j) (.int (i * j))
  | divI (i j : Int) (h0 : j ≠ 0) (h : j.natAbs < 1073741824) : BinR .FloorDiv (.int i) (.int j) (.int (i.fdiv j))
  | modI (i j : Int) (h0 : j ≠ 0) : BinR .Mod (.int i) (.int j) (.int (i.fmod j))
  | powI (i j : Int) (h0 : 0 ≤ j) (h : (Builtin.Int.intBits i : Int) * j ≤ 2 ^ 27) : BinR .Pow (.int i) (.int j) (.int (i ^ j.toNat))
  | addB (x y : List UInt8) (h : x.length + y.length ≤ 16777216) : BinR .Add (.bytes x) (.bytes y) (.bytes (x ++ y))
  | addL (x y : List AV) (h : x.length + y.length ≤ 16777216) : BinR .Add (.lst x) (.lst y) (.lst (x ++ y))
  | addT (x y : List AV) (hx : x ≠ []) (hy : y ≠ []) (h : x.length + y.length ≤ 16777216) : BinR .Add (.tup x) (.tup y) (.tup (x ++ y))

section
variable {c : Cx} {σ : Sg} {Φ : AV → Sg → Prop} {n : Nat} {sl : Led} {s : Shared} {Q : Value → Shared → Prop} {op : Operator} {va vb : Value} {a b d : AV} {E : Value → Shared → Prop}
theorem BinR.ok (B : BinR op a b d) (S : St c σ sl s.heap) (ra : Rep c.h₀ c.T sl va a) (rb : Rep c.h₀ c.T sl vb b)
    (hQ : ∀ v sl' h' tk', (∀ p ∈ sl, p ∈ sl') → St c σ sl' h' → Rep c.h₀ c.T sl' v d → Q v { s with heap := h', toks := tk' }) : wpAny (model c.prog c.w) c.A (binaryOp op va vb) Q E s := by
  have hv : ∀ v tk, Rep c.h₀ c.T sl v d → Q v { s with toks := tk } := fun v tk r => hQ v sl s.heap tk (fun _ h => h) S r
  cases B with
  | addI i j => obtain ⟨_, rfl⟩ := ra.inv; obtain ⟨_, rfl⟩ := rb.inv; exact wpAny_add_int (hv _ _ (.int _ _))
  | subI i j => obtain ⟨_, rfl⟩ := ra.inv; obtain ⟨_, rfl⟩ := rb.inv; exact sub_int' (hv _ _ (.int _ _))
  | mulI i j h => obtain ⟨_, rfl⟩ := ra.inv; obtain ⟨_, rfl⟩ := rb.inv; exact PyProof.Rows.mul_int (hv _ _ (.int _ _)) h
  | divI i j h0 h => obtain ⟨_, rfl⟩ := ra.inv; obtain ⟨_, rfl⟩ := rb.inv; exact floordiv_int h0 (hv _ _ (.int _ _)) (.inl (PyProof.noPylong_small h))
  | modI i j h0 => obtain ⟨_, rfl⟩ := ra.inv; obtain ⟨_, rfl⟩ := rb.inv; exact mod_int' h0 (hv _ _ (.int _ _))
  | powI i j h0 h => obtain ⟨_, rfl⟩ := ra.inv; obtain ⟨_, rfl⟩ := rb.inv; exact pow_int h0 h (hv _ _ (.int _ _))
  | addB x y h =>
    obtain ⟨_, rfl⟩ := ra.inv
    obtain ⟨_, rfl⟩ := rb.inv
    refine KBy.add_bytes (by simpa using h) fun t' k => hv _ _ ?_
    rw [List.append_toArray]
    exact .bytes _ _
  | addL x y h =>
    obtain ⟨l1, o1, vs1, n1, rfl, i1, c1, d1, r1⟩ := ra.inv
    · obtain ⟨l2, o2, vs2, n2, rfl, i2, c2, d2, r2⟩ := rb.inv
      · obtain ⟨l, H⟩ := S.hp
        have hs : ∀ p ∈ sl, p ∈ sl ++ l := fun p hp => List.mem_append_left _ hp
        have hl := i1.list H hs c1 d1
        have hb := i2.list H hs c2 d2
        obtain ⟨⟨cls, dd, data, sl'⟩, ho, hc, k, hd⟩ := id hl
        obtain ⟨⟨cls2, dd2, data2, sl2⟩, ho2, hc2, k2, hd2⟩ := id hb
        simp only at hc hd hc2 hd2
        subst hc hd hc2 hd2
        have e : vs1.toArray ++ vs2.toArray = (vs1 ++ vs2).toArray := by simp
        refine concat_meets ⟨_, ho, rfl⟩ ⟨_, ho2, rfl⟩ noFill_list_add seq_list_add PySem.F.slot_list_add PySem.F.entry_list_add (PySem.F.args_list_add_2 _ _) (list_addW l1 l2 vs1.toArray vs2.toArray k k2 dd dd2 _ _ (by
          have := r1.length; have := r2.length; simp only [List.size_toArray, sizeLine_eq]; omega)) ⟨ho, ho2, ?_⟩
        rw [e]
        have hsub : ∀ p ∈ sl, p ∈ (s.heap.objs.size, ({ cls := .type "list", data := .seq (vs1 ++ vs2).toArray } : Obj)) :: sl := fun p hp => List.mem_cons_of_mem _ hp
        exact hQ (.ref s.heap.objs.size) _ _ s.toks hsub (S.push _) (.lst (.inl List.mem_cons_self) rfl rfl ((r1.append r2).mono hsub))
  | addT x y hx hy h =>
    cases ra with
    | tup i1 r1 =>
      cases rb with
      | tup i2 r2 =>
        rename_i l1 vs1 n1 l2 vs2 n2
        obtain ⟨l, H⟩ := S.hp
        have hs : ∀ p ∈ sl, p ∈ sl ++ l := fun p hp => List.mem_append_left _ hp
        have q1 := r1.length; have q2 := r2.length
        have e : vs1.toArray ++ vs2.toArray = (vs1 ++ vs2).toArray := by simp
        have hsub : ∀ p ∈ sl, p ∈ (s.heap.objs.size, tupOf (vs1 ++ vs2).toArray 0) :: sl := fun p hp => List.mem_cons_of_mem _ hp
        have nn : ∀ (vs : List Value) (ds : List AV), vs.length = ds.length → ds ≠ [] → ¬ vs.toArray.isEmpty = true := fun vs ds hl hne he => by
          cases vs with
          | nil => cases ds with
            | nil => exact hne rfl
            | cons _ _ => cases hl
          | cons _ _ => simp at he
        refine PySem.P.add_tuple (s := s) (n := n1) (n2 := n2) (i1.get H hs) (i2.get H hs) (nn _ _ q1 hx) (nn _ _ q2 hy) ?_ (by simp only [List.size_toArray, sizeLine_eq]; omega)
        rw [e]
        exact hQ (.ref s.heap.objs.size) _ _ s.toks hsub (S.push (tupOf (vs1 ++ vs2).toArray 0)) (.tup (.inl List.mem_cons_self) ((r1.append r2).mono hsub))
theorem BinR.dummy : True := trivial
@[reducible] noncomputable def binK2 (op : Operator) (a : AV) (Φ : AV → Sg → Prop) : AV → Sg → Prop := fun b σ2 => ExR (BinR op a b) Φ σ2
@[reducible] noncomputable def binK (c : Cx) (op : Operator) (r : Expr) (Φ : AV → Sg → Prop) : AV → Sg → Prop := fun a σ1 => EV c r σ1 (binK2 op a Φ)
theorem EV.bin {l r : Expr} {pos : Pos} (h : EV c l σ (binK c op r Φ)) : EV c (.BinOp l op r pos) σ Φ := by
  intro sl s S Q hQ
  refine wpAny_BinOp (h sl s S _ fun va a σ1 sl1 h1 tk1 s1 S1 ra k => ?_)
  refine k sl1 { s with heap := h1, toks := tk1 } S1 _ fun vb b σ2 sl2 h2 tk2 s2 S2 rb hk => ?_
  obtain ⟨d, B, hd⟩ := hk
  exact B.ok (s := { s with heap := h2, toks := tk2 }) S2 (ra.mono s2) rb fun v sl' h' tk' s' S' rv => hQ v d σ2 sl' h' tk' (fun p hp => s' p (s2 p (s1 p hp))) S' rv hd
end
end Mine
namespace Mine
open PySem PySem.W PySem.Calls PyProof.Rows PyProof.Rows.LCg PySem.SeqAt
/-- comparisons: what they are -/
inductive CmpR : CmpOp → AV → AV → Bool → Prop
  | eqI (i j : Int) : CmpR .Eq (.int i) (.int j) (i == j)
  | neI (i j : Int) : CmpR .NotEq (.int i) (.int j) (i != j)
  | ltI (i j : Int) : CmpR .Lt (.int i) (.int j) (decide (i < j))
  | leI (i j : Int) : CmpR .LtE (.int i) (.int j) (decide (i ≤ j))
  | gtI (i j : Int) : CmpR .Gt (.int i) (.int j) (decide (j < i))
  | geI (i j : Int) : CmpR .GtE (.int i) (.int j) (decide (j ≤ i))
  | eqT (p q : Bool) : CmpR .Eq (.bool p) (.bool q) (p == q)
  | eqS (x y : List Nat) : CmpR .Eq (.str x) (.str y) (x == y)
  | neS (x y : List Nat) : CmpR .NotEq (.str x) (.str y) (x != y)
  | eqB (x y : List UInt8) : CmpR .Eq (.bytes x) (.bytes y) (x == y)
  | neB (x y : List UInt8) : CmpR .NotEq (.bytes x) (.bytes y) (x != y)
  | eqL (l : List AV) (hd : dataAll l = true) (hz : deepAll l ≤ 50) : CmpR .Eq (.lst l) (.lst l) true
  | neL (l : List AV) (hd : dataAll l = true) (hz : deepAll l ≤ 50) : CmpR .NotEq (.lst l) (.lst l) false
  | neP (l : List AV) (hd : dataAll l = true) (hz : deepAll l ≤ 50) : CmpR .NotEq (.tup l) (.tup l) false
  | eqN (l : List AV) : CmpR .Eq (.lst l) (.lst []) l.isEmpty
  | inI (i : Int) (ns : List Int) : CmpR .In (.int i) (.lst (ns.map .int)) (ns.contains i)
  | ninI (i : Int) (ns : List Int) : CmpR .NotIn (.int i) (.lst (ns.map .int)) (!ns.contains i)
  | inP (i : Int) (ns : List Int) : CmpR .In (.int i) (.tup (ns.map .int)) (ns.contains i)
  | ninP (i : Int) (ns : List Int) : CmpR .NotIn (.int i) (.tup (ns.map .int)) (!ns.contains i)
  | inS (x : List Nat) (ys : List (List Nat)) : CmpR .In (.str x) (.lst (ys.map .str)) (ys.contains x)
  | ninS (x : List Nat) (ys : List (List Nat)) : CmpR .NotIn (.str x) (.lst (ys.map .str)) (!ys.contains x)
  | inB (i : Int) (b : List UInt8) (h0 : 0 ≤ i) (h1 : i < 256) : CmpR .In (.int i) (.bytes b) (b.contains i.toNat.toUInt8)
  | isN (l : List AV) : CmpR .Is (.tup l) .none false
  | isN2 : CmpR .Is .none .none true

noncomputable def isI (k : Int) : Value → Bool
  | .int n _ => n == k
  | _ => false
noncomputable def isS (x : List Nat) : Value → Bool
  | .str y _ => y.cps.toList == x
  | _ => false
section
variable {h₀ : Heap} {T : Addr} {sl : Led} {A : Around} {s : Shared}
theorem repI_any {k : Int} : ∀ {ns : List Int} {vs : List Value}, RepAll h₀ T sl vs (ns.map .int) → vs.any (isI k) = ns.contains k
  | [], vs, h => by cases h; rfl
  | n :: ns, vs, h => by
    cases h with
    | cons a r =>
      cases a
      simp only [List.any_cons, repI_any r, isI, List.contains_cons]
      congr 1
      exact Bool.eq_iff_iff.mpr (by simp only [beq_iff_eq]; exact eq_comm)
theorem repI_eq {k : Int} {t : Tok} : ∀ {ns : List Int} {vs : List Value}, RepAll h₀ T sl vs (ns.map .int) → ∀ y ∈ vs, EqAt A s y (.int k t) (isI k y)
  | [], vs, h => by cases h; exact fun _ h => (nomatch h)
  | n :: ns, vs, h => by
    cases h with
    | cons a r =>
      cases a
      intro y hy
      rcases List.mem_cons.mp hy with rfl | hy
      · exact EqAt.int_int _ _ _ _
      · exact repI_eq r y hy
theorem repS_any {x : List Nat} : ∀ {ns : List (List Nat)} {vs : List Value}, RepAll h₀ T sl vs (ns.map .str) → vs.any (isS x) = ns.contains x
  | [], vs, h => by cases h; rfl
  | n :: ns, vs, h => by
    cases h with
    | cons a r =>
      cases a
      simp only [List.any_cons, repS_any r, isS, List.contains_cons, List.toList_toArray]
      congr 1
      exact Bool.eq_iff_iff.mpr (by simp only [beq_iff_eq]; exact eq_comm)
theorem repS_eq {x : List Nat} {t : Tok} : ∀ {ns : List (List Nat)} {vs : List Value}, RepAll h₀ T sl vs (ns.map .str) → ∀ y ∈ vs, EqAt A s y (.str ⟨x.toArray⟩ t) (isS x y)
  | [], vs, h => by cases h; exact fun _ h => (nomatch h)
  | n :: ns, vs, h => by
    cases h with
    | cons a r =>
      cases a
      rename_i u
      intro y hy
      rcases List.mem_cons.mp hy with rfl | hy
      · have := (PyProof.Rows.eqGives_str ⟨n.toArray⟩ ⟨x.toArray⟩ u t).at A s
        have e : (PySem.Str.mk n.toArray == PySem.Str.mk x.toArray) = isS x (.str ⟨n.toArray⟩ u) := by
          rw [Bool.eq_iff_iff]; simp [isS]
        rwa [e] at this
      · exact repS_eq r y hy
end

theorem gives_bytes_contains (b : Array UInt8) (i : Int) (t u : Tok) (h0 : 0 ≤ i) (h1 : i < 256) : Gives (Builtin.«bytes.__contains__» ⟨[.bytes b t, .int i u], []⟩) (.val (.bool (b.contains i.toNat.toUInt8))) := by
  refine .of_wp fun M A E s Q hq => ?_
  show wpAny M A (Builtin.Bytes.containsIn "bytes.__contains__" (.bytes b t) (.int i u) >>= fun r => _) _ E s
  refine wpAny_bind ?_
  unfold Builtin.Bytes.containsIn
  refine wpAny_bind (wpAny_attempt (wpAny_of_eq (rfl : asIndex (.int i u) = pure i) ?_))
  refine wpAny_bind (wpAny_of_eq KBy.buffer_eq ?_)
  show wpAny M A (if (decide (i < 0) || decide (i ≥ 256)) = true then _ else _) _ E s
  rw [if_neg (by simp; omega)]
  exact wpAny_pure (wpAny_pure ⟨_, rfl, hq⟩)

theorem str_beq (x y : List Nat) : (PySem.Str.mk x.toArray == PySem.Str.mk y.toArray) = (x == y) := by rw [Bool.eq_iff_iff]; simp
section
variable {c : Cx} {σ : Sg} {n : Nat} {sl : Led} {s : Shared} {Q : Value → Shared → Prop} {op : CmpOp} {va vb : Value} {a b : AV} {t : Bool} {E : Value → Shared → Prop}
theorem CmpR.ok (B : CmpR op a b t) (R : Room c.A n) (S : St c σ sl s.heap) (ra : Rep c.h₀ c.T sl va a) (rb : Rep c.h₀ c.T sl vb b) (hQ : ∀ tk, Q (.bool t) { s with toks := tk }) : wpAny (model c.prog c.w) c.A (compareOp op va vb) Q E s := by
  obtain ⟨l, H⟩ := S.hp
  have hs : ∀ p ∈ sl, p ∈ sl ++ l := fun p hp => List.mem_append_left _ hp
  have hq := hQ s.toks
  have hu := R.line
  cases B with
  | eqI i j => obtain ⟨_, rfl⟩ := ra.inv; obtain ⟨_, rfl⟩ := rb.inv; exact eq_int hq
  | neI i j => obtain ⟨_, rfl⟩ := ra.inv; obtain ⟨_, rfl⟩ := rb.inv; exact ne_int hq
  | ltI i j => obtain ⟨_, rfl⟩ := ra.inv; obtain ⟨_, rfl⟩ := rb.inv; exact lt_int hq
  | leI i j => obtain ⟨_, rfl⟩ := ra.inv; obtain ⟨_, rfl⟩ := rb.inv; exact le_int hq
  | gtI i j => obtain ⟨_, rfl⟩ := ra.inv; obtain ⟨_, rfl⟩ := rb.inv; exact gt_int hq
  | geI i j => obtain ⟨_, rfl⟩ := ra.inv; obtain ⟨_, rfl⟩ := rb.inv; exact ge_int hq
  | eqT p q => obtain rfl := ra.inv; obtain rfl := rb.inv; exact eq_bool hq
  | eqS x y => obtain ⟨_, rfl⟩ := ra.inv; obtain ⟨_, rfl⟩ := rb.inv; exact PyProof.Rows.eq_str (by rw [str_beq]; exact hq)
  | neS x y => obtain ⟨_, rfl⟩ := ra.inv; obtain ⟨_, rfl⟩ := rb.inv; exact PyProof.Rows.ne_str (by rw [bne, str_beq]; exact hq)
  | eqB x y => obtain ⟨_, rfl⟩ := ra.inv; obtain ⟨_, rfl⟩ := rb.inv; exact eq_bytes (by simpa using hq)
  | neB x y => obtain ⟨_, rfl⟩ := ra.inv; obtain ⟨_, rfl⟩ := rb.inv; exact ne_bytes (by simpa using hq)
  | eqL ds hd hz =>
    obtain ⟨_, _, _, _, rfl, i, c1, d1, r⟩ := ra.inv
    · obtain ⟨_, _, _, _, rfl, j, c2, d2, q⟩ := rb.inv
      · have hl := r.length; have hl2 := q.length
        refine RcAt.lists (A := c.A) (e := fun _ => true) (i.list H hs c1 d1) (j.list H hs c2 d2) (by simp [hl, hl2]) (by omega) (fun k h1 h2 => ?_) c.prog c.w E Q ?_
        · simp only [List.getElem_toArray]
          exact RepAll.eq H hs c.A.in1 r q hd (by have := c.A.in1_units; omega) k (by simpa using h1) (by simpa using h2)
        · rw [allT]; exact hq
  | neL ds hd hz =>
    obtain ⟨_, _, _, _, rfl, i, c1, d1, r⟩ := ra.inv
    · obtain ⟨_, _, _, _, rfl, j, c2, d2, q⟩ := rb.inv
      · have hl := r.length; have hl2 := q.length
        refine RcNeAt.lists (A := c.A) (e := fun _ => true) (i.list H hs c1 d1) (j.list H hs c2 d2) (by simp [hl, hl2]) (by omega) (fun k h1 h2 => ?_) c.prog c.w E Q ?_
        · simp only [List.getElem_toArray]
          exact RepAll.eq H hs c.A.in1 r q hd (by have := c.A.in1_units; omega) k (by simpa using h1) (by simpa using h2)
        · rw [allT]; exact hq
  | neP ds hd hz =>
    obtain ⟨_, _, _, rfl, i, r⟩ := ra.inv
    · obtain ⟨_, _, _, rfl, j, q⟩ := rb.inv
      · have hl := r.length; have hl2 := q.length
        refine RcNeAt.tuples (A := c.A) (e := fun _ => true) (i.tuple H hs) (j.tuple H hs) (by omega) (fun k h1 h2 => ?_) c.prog c.w E Q ?_
        · simp only [List.getElem_toArray]
          exact RepAll.eq H hs c.A.in1 r q hd (by have := c.A.in1_units; omega) k (by simpa using h1) (by simpa using h2)
        · rw [allT]; simpa [hl, hl2] using hq
  | eqN ds =>
    obtain ⟨_, _, _, _, rfl, i, c1, d1, r⟩ := ra.inv
    · obtain ⟨_, _, _, _, rfl, j, c2, d2, q⟩ := rb.inv
      · cases q
        cases ds with
        | nil =>
          cases r
          refine RcAt.lists (A := c.A) (e := fun _ => true) (i.list H hs c1 d1) (j.list H hs c2 d2) rfl (by omega) (fun k h1 _ => absurd h1 (by simp)) c.prog c.w E Q ?_
          rw [allT]; exact hq
        | cons d ds =>
          have hl := r.length
          exact RcAt.lists_lengths (A := c.A) (i.list H hs c1 d1) (j.list H hs c2 d2) (by simp [hl]) (by omega) c.prog c.w E Q hq
  | inI k ns =>
    obtain ⟨_, rfl⟩ := ra.inv
    obtain ⟨_, _, _, _, rfl, i, c1, d1, r⟩ := rb.inv
    exact in_listAt (isI k) (i.list H hs c1 d1) (fun y hy => repI_eq r y (by simpa using hy)) (by simpa [repI_any r] using hq)
  | ninI k ns =>
    obtain ⟨_, rfl⟩ := ra.inv
    obtain ⟨_, _, _, _, rfl, i, c1, d1, r⟩ := rb.inv
    exact notIn_listAt (isI k) (i.list H hs c1 d1) (fun y hy => repI_eq r y (by simpa using hy)) (by simpa [repI_any r] using hq)
  | inP k ns =>
    obtain ⟨_, rfl⟩ := ra.inv
    obtain ⟨_, _, _, rfl, i, r⟩ := rb.inv
    exact in_tupleAt (isI k) (i.tuple H hs) (fun y hy => repI_eq r y (by simpa using hy)) (by simpa [repI_any r] using hq)
  | ninP k ns =>
    obtain ⟨_, rfl⟩ := ra.inv
    obtain ⟨_, _, _, rfl, i, r⟩ := rb.inv
    exact notIn_tupleAt (isI k) (i.tuple H hs) (fun y hy => repI_eq r y (by simpa using hy)) (by simpa [repI_any r] using hq)
  | inS k ns =>
    obtain ⟨_, rfl⟩ := ra.inv
    obtain ⟨_, _, _, _, rfl, i, c1, d1, r⟩ := rb.inv
    exact in_listAt (isS k) (i.list H hs c1 d1) (fun y hy => repS_eq r y (by simpa using hy)) (by simpa [repS_any r] using hq)
  | ninS k ns =>
    obtain ⟨_, rfl⟩ := ra.inv
    obtain ⟨_, _, _, _, rfl, i, c1, d1, r⟩ := rb.inv
    exact notIn_listAt (isS k) (i.list H hs c1 d1) (fun y hy => repS_eq r y (by simpa using hy)) (by simpa [repS_any r] using hq)
  | inB i b h0 h1 =>
    obtain ⟨t, rfl⟩ := ra.inv
    obtain ⟨u, rfl⟩ := rb.inv
    have g := gives_bytes_contains b.toArray i u t h0 h1
    have e : b.toArray.contains i.toNat.toUInt8 = b.contains i.toNat.toUInt8 := by simp
    rw [e] at g
    exact SeqRoads2.in_meets (S := Made.spec (.val (.bool (b.contains i.toNat.toUInt8)))) (typeIs_bytes s _ _) FB.slot_bytes_contains FB.entry_bytes_contains (FB.args_bytes_contains_2 _ _) g ⟨_, rfl, hq⟩
  | isN ds =>
    obtain ⟨_, _, _, rfl, _⟩ := ra.inv
    obtain rfl := rb.inv
    exact wpAny_is_other rfl (fun e => nomatch e) hq
  | isN2 =>
    obtain rfl := ra.inv
    obtain rfl := rb.inv
    exact wpAny_is_self rfl hq

variable {Φ : AV → Sg → Prop} {Ψ : Bool → Sg → Prop}
@[reducible] noncomputable def boolK (Φ : AV → Sg → Prop) : Bool → Sg → Prop := fun t σ => Φ (.bool t) σ
@[reducible] noncomputable def cmpK2 (op : CmpOp) (a : AV) (Ψ : Bool → Sg → Prop) : AV → Sg → Prop := fun b σ2 => ExR (CmpR op a b) Ψ σ2
@[reducible] noncomputable def cmpK (c : Cx) (op : CmpOp) (r : Expr) (Ψ : Bool → Sg → Prop) : AV → Sg → Prop := fun a σ1 => EV c r σ1 (cmpK2 op a Ψ)
theorem EV.cmp {l r : Expr} {pos : Pos} (R : CxOk c n) (h : EV c l σ (cmpK c op r (boolK Φ))) (hm : behindInMarks op r = false := by with_unfolding_all rfl) : EV c (.Compare l [op] [r] pos) σ Φ := by
  intro sl s S Q hQ
  refine wpAny_Compare1 (h sl s S _ fun va a σ1 sl1 h1 tk1 s1 S1 ra k => ?_) hm
  refine k sl1 { s with heap := h1, toks := tk1 } S1 _ fun vb b σ2 sl2 h2 tk2 s2 S2 rb hk => ?_
  obtain ⟨d, B, hd⟩ := hk
  exact B.ok (s := { s with heap := h2, toks := tk2 }) R.room S2 (ra.mono s2) rb fun tk => hQ _ _ σ2 sl2 h2 tk (fun p hp => s2 p (s1 p hp)) S2 (.bool d) hd

/-- a test -/
noncomputable def IT (c : Cx) (e : Expr) (σ : Sg) (Ψ : Bool → Sg → Prop) : Prop :=
  ∀ (sl : Led) (s : Shared), St c σ sl s.heap → ∀ Q : Bool → Shared → Prop,
    (∀ b σ' sl' h' tk', (∀ p ∈ sl, p ∈ sl') → St c σ' sl' h' → Ψ b σ' → Q b { s with heap := h', toks := tk' }) →
    wpAny (model c.prog c.w) c.A (isTrue e c.env (eval e c.env)) Q (fun _ _ => False) s

@[reducible] noncomputable def chF (c : Cx) (r2 : Expr) (op2 : CmpOp) (b : AV) (Ψ : Bool → Sg → Prop) : Bool → Sg → Prop := fun t σ2 => if t then EV c r2 σ2 (cmpK2 op2 b Ψ) else Ψ false σ2
@[reducible] noncomputable def chK2 (c : Cx) (op : CmpOp) (r2 : Expr) (op2 : CmpOp) (a : AV) (Ψ : Bool → Sg → Prop) : AV → Sg → Prop := fun b σ2 => ExR (CmpR op a b) (chF c r2 op2 b Ψ) σ2
@[reducible] noncomputable def chK (c : Cx) (op : CmpOp) (r1 r2 : Expr) (op2 : CmpOp) (Ψ : Bool → Sg → Prop) : AV → Sg → Prop := fun a σ1 => EV c r1 σ1 (chK2 c op r2 op2 a Ψ)
@[reducible] noncomputable def notK (Ψ : Bool → Sg → Prop) : Bool → Sg → Prop := fun b σ' => Ψ (!b) σ'
@[reducible] noncomputable def andK (c : Cx) (y : Expr) (Ψ : Bool → Sg → Prop) : Bool → Sg → Prop := fun b σ' => if b then IT c y σ' Ψ else Ψ false σ'
@[reducible] noncomputable def orK (c : Cx) (y : Expr) (Ψ : Bool → Sg → Prop) : Bool → Sg → Prop := fun b σ' => if b then Ψ true σ' else IT c y σ' Ψ
@[reducible] noncomputable def or3K (c : Cx) (y z : Expr) (Ψ : Bool → Sg → Prop) : Bool → Sg → Prop := fun b σ' => if b then Ψ true σ' else IT c y σ' (orK c z Ψ)
@[reducible] noncomputable def valK (Ψ : Bool → Sg → Prop) : AV → Sg → Prop := fun a σ' => ExR (aBool a) Ψ σ'
@[reducible] noncomputable def ifxK (c : Cx) (x y : Expr) (Φ : AV → Sg → Prop) : Bool → Sg → Prop := fun b σ' => if b then EV c x σ' Φ else EV c y σ' Φ
@[reducible] noncomputable def and2F (c : Cx) (y : Expr) (Φ : AV → Sg → Prop) : Bool → Sg → Prop := fun b σ' => if b then EV c y σ' Φ else Φ (.bool false) σ'
@[reducible] noncomputable def and2K (c : Cx) (y : Expr) (Φ : AV → Sg → Prop) : AV → Sg → Prop := fun a σ' => ExR (aBool a) (and2F c y Φ) σ'
@[reducible] noncomputable def negF (Φ : AV → Sg → Prop) : Int → Sg → Prop := fun i σ => Φ (.int (-i)) σ
@[reducible] noncomputable def negK (Φ : AV → Sg → Prop) : AV → Sg → Prop := fun a σ => ExR (aInt a) (negF Φ) σ
theorem IT.cmp {l r : Expr} {pos : Pos} (R : CxOk c n) (h : EV c l σ (cmpK c op r Ψ)) (hm : behindInMarks op r = false := by with_unfolding_all rfl) : IT c (.Compare l [op] [r] pos) σ Ψ := by
  intro sl s S Q hQ
  refine wpAny_isTrue_Compare1 (h sl s S _ fun va a σ1 sl1 h1 tk1 s1 S1 ra k => ?_) hm
  refine k sl1 { s with heap := h1, toks := tk1 } S1 _ fun vb b σ2 sl2 h2 tk2 s2 S2 rb hk => ?_
  obtain ⟨d, B, hd⟩ := hk
  exact B.ok (s := { s with heap := h2, toks := tk2 }) R.room S2 (ra.mono s2) rb fun tk => wpAny_truthy_bool (hQ _ σ2 sl2 h2 tk (fun p hp => s2 p (s1 p hp)) S2 hd)

theorem IT.chain {l r1 r2 : Expr} {op2 : CmpOp} {pos : Pos} (R : CxOk c n) (h : EV c l σ (chK c op r1 r2 op2 Ψ))
    (hm : lastMarks [op, op2] [r1, r2] = false := by with_unfolding_all rfl) : IT c (.Compare l [op, op2] [r1, r2] pos) σ Ψ := by
  intro sl s S Q hQ
  refine isTrue_chain (h sl s S _ fun va a σ1 sl1 h1 tk1 s1 S1 ra k => ?_) hm
  show wpAny _ _ (do
    let rv ← holding [va] (eval r1 c.env)
    standAt pos
    let x ← holding [va, rv] (compareOp op va rv)
    release [va, rv] [x]
    if ← holding [x, rv] (truthy x) then testChain pos rv [op2] [eval r2 c.env] else pure false) _ _ _
  refine wpAny_bind (wpAny_holding (k sl1 { s with heap := h1, toks := tk1 } S1 _ fun vb b σ2 sl2 h2 tk2 s2 S2 rb hk => wpAny_bind (wpAny_standAt (wpAny_bind (wpAny_holding ?_)))))
  obtain ⟨d, B, hd⟩ := hk
  refine B.ok (s := { s with heap := h2, toks := tk2 }) R.room S2 (ra.mono s2) rb fun tk => wpAny_bind (wpAny_release' (wpAny_bind (wpAny_holding (wpAny_truthy_bool ?_))))
  cases d with
  | false => exact wpAny_pure (hQ false σ2 sl2 h2 tk (fun p hp => s2 p (s1 p hp)) S2 hd)
  | true =>
    show wpAny _ _ (do
      let rv ← holding [vb] (eval r2 c.env)
      standAt pos
      let x ← operate [vb, rv] (compareOp op2 vb rv)
      holding [x] (truthy x)) _ _ _
    have hd' : EV c r2 σ2 (cmpK2 op2 b Ψ) := hd
    refine wpAny_bind (wpAny_holding (hd' sl2 { s with heap := h2, toks := tk } S2 _ fun vd d σ3 sl3 h3 tk3 s3 S3 rd hk => wpAny_bind (wpAny_standAt (wpAny_bind (wpAny_operate' ?_)))))
    obtain ⟨u, B, hd⟩ := hk
    exact B.ok (s := { s with heap := h3, toks := tk3 }) R.room S3 (rb.mono s3) rd fun tk => wpAny_holding (wpAny_truthy_bool (hQ _ σ3 sl3 h3 tk (fun p hp => s3 p (s2 p (s1 p hp))) S3 hd))

theorem IT.not {x : Expr} {pos : Pos} (h : IT c x σ (notK Ψ)) : IT c (.UnaryOp .Not x pos) σ Ψ :=
  fun sl s S Q hQ => isTrue_not (h sl s S _ fun b σ' sl' h' tk' s' S' k => hQ _ σ' sl' h' tk' s' S' k)
theorem IT.and2 {x y : Expr} {pos : Pos} (h : IT c x σ (andK c y Ψ)) : IT c (.BoolOp .And [x, y] pos) σ Ψ := by
  intro sl s S Q hQ
  refine isTrue_and (h sl s S _ fun b σ' sl' h' tk' s' S' k => ?_)
  cases b with
  | false => exact hQ _ σ' sl' h' tk' s' S' k
  | true =>
    have k' : IT c y σ' Ψ := k
    refine isTrue_and (k' sl' { s with heap := h', toks := tk' } S' _ fun b2 σ2 sl2 h2 tk2 s2 S2 k2 => ?_)
    have q := hQ b2 σ2 sl2 h2 tk2 (fun p hp => s2 p (s' p hp)) S2 k2
    cases b2 with
    | false => exact q
    | true => exact isTrue_and_nil q
theorem IT.or2 {x y : Expr} {pos : Pos} (h : IT c x σ (orK c y Ψ)) : IT c (.BoolOp .Or [x, y] pos) σ Ψ := by
  intro sl s S Q hQ
  refine isTrue_or (h sl s S _ fun b σ' sl' h' tk' s' S' k => ?_)
  cases b with
  | true => exact hQ _ σ' sl' h' tk' s' S' k
  | false =>
    have k' : IT c y σ' Ψ := k
    refine isTrue_or (k' sl' { s with heap := h', toks := tk' } S' _ fun b2 σ2 sl2 h2 tk2 s2 S2 k2 => ?_)
    have q := hQ b2 σ2 sl2 h2 tk2 (fun p hp => s2 p (s' p hp)) S2 k2
    cases b2 with
    | true => exact q
    | false => exact isTrue_or_nil q
theorem IT.or3 {x y z : Expr} {pos : Pos} (h : IT c x σ (or3K c y z Ψ)) : IT c (.BoolOp .Or [x, y, z] pos) σ Ψ := by
  intro sl s S Q hQ
  refine isTrue_or (h sl s S _ fun b σ' sl' h' tk' s' S' k => ?_)
  cases b with
  | true => exact hQ _ σ' sl' h' tk' s' S' k
  | false =>
    have k' : IT c y σ' (orK c z Ψ) := k
    exact (IT.or2 (pos := pos) k') sl' { s with heap := h', toks := tk' } S' Q fun b σ2 sl2 h2 tk2 s2 S2 k2 => hQ b σ2 sl2 h2 tk2 (fun p hp => s2 p (s' p hp)) S2 k2
/-- a test that is a truth already -/
theorem IT.val {e : Expr} (h : EV c e σ (valK Ψ)) (he : isTrue e c.env (eval e c.env) = (do let v ← eval e c.env; standAt e.pos; holding [v] (truthy v)) := by rfl) : IT c e σ Ψ := by
  intro sl s S Q hQ
  refine isTrue_plain (h sl s S _ fun v a σ' sl' h' tk' s' S' r k => ?_) he
  obtain ⟨b, rfl, k⟩ := k
  cases r
  exact wpAny_truthy_bool (hQ b σ' sl' h' tk' s' S' k)

theorem EV.ifx {t x y : Expr} {pos : Pos} (h : IT c t σ (ifxK c x y Φ)) : EV c (.IfExp t x y pos) σ Φ := by
  intro sl s S Q hQ
  refine IfExp_ (h sl s S _ fun b σ' sl' h' tk' s' S' k => ?_)
  have go : ∀ e, EV c e σ' Φ → wpAny (model c.prog c.w) c.A (eval e c.env) Q (fun _ _ => False) { s with heap := h', toks := tk' } := fun e k =>
    k sl' { s with heap := h', toks := tk' } S' Q fun v a σ2 sl2 h2 tk2 s2 S2 r k2 => hQ v a σ2 sl2 h2 tk2 (fun p hp => s2 p (s' p hp)) S2 r k2
  cases b with
  | true => exact go x k
  | false => exact go y k
/-- «x and y» as a value, x a truth -/
theorem EV.and2 {x y : Expr} {pos : Pos} (h : EV c x σ (and2K c y Φ)) : EV c (.BoolOp .And [x, y] pos) σ Φ := by
  intro sl s S Q hQ
  refine BoolOp_and (h sl s S _ fun v a σ' sl' h' tk' s' S' r k => ?_)
  obtain ⟨b, rfl, k⟩ := k
  cases r
  refine wpAny_truthy_bool ?_
  cases b with
  | false => exact hQ _ _ σ' sl' h' tk' s' S' (.bool false) k
  | true =>
    have k' : EV c y σ' Φ := k
    exact BoolOp_one (k' sl' { s with heap := h', toks := tk' } S' Q fun v a σ2 sl2 h2 tk2 s2 S2 r k2 => hQ v a σ2 sl2 h2 tk2 (fun p hp => s2 p (s' p hp)) S2 r k2)
theorem EV.neg {x : Expr} {pos : Pos} (h : EV c x σ (negK Φ)) : EV c (.UnaryOp .USub x pos) σ Φ := by
  intro sl s S Q hQ
  refine UnaryOp_ (h sl s S _ fun v a σ' sl' h' tk' s' S' r k => ?_)
  obtain ⟨i, rfl, k⟩ := k
  cases r
  exact PyProof.Rows.neg_int (hQ _ _ σ' sl' h' _ s' S' (.int _ _) k)
end
end Mine
namespace Mine
open PySem PySem.W PySem.Calls PyProof.Rows PyProof.Rows.LCg PySem.SeqAt
theorem Cx.hide_env (c : Cx) (l : Led) : ({ c with hid := l } : Cx).env = c.env := rfl
/-- a name that the frame itself holds, or a cell of its own -/
noncomputable def Own (c : Cx) (x : Str) : Prop := c.env.kindOf x = some .local ∨ (c.env.kindOf x = some .cell ∧ c.own = true ∧ (c.env.cells.lookup x).isSome = true)

theorem lookup_apart {cs : List (Str × Addr)} (hp : cs.Pairwise fun x y => x.2 ≠ y.2) {x y : Str} {k : Addr} (hx : cs.lookup x = some k) (hy : cs.lookup y = some k) : x = y := name_of_addr hp (mem_of_lookup hx) (mem_of_lookup hy)

theorem nsObj_set {h' : Heap} {L : Addr} {m : Str → Option Value} (hn : h'.Ns L m) : ∃ o, h'.get? L = some o ∧ NsObj o m := ns_obj hn

/-- a value is stored under a name -/
theorem store_val {c : Cx} {n : Nat} {σ : Sg} {sl : Led} {s : Shared} {x : Str} {v : Value} {a : AV} {E : Value → Shared → Prop} (K : CxOk c n) (S : St c σ sl s.heap) (hx : Own c x) (r : Rep c.h₀ c.T sl v a) {Q : Unit → Shared → Prop}
    (hQ : ∀ h' tk', St c (σ.set x (.val a)) sl h' → Q () { s with heap := h', toks := tk' }) : wpAny (model c.prog c.w) c.A (storeName c.env x v) Q E s := by
  obtain ⟨tl, oD, op, m, H, h1, h2, h3⟩ := S
  rcases hx with hx | ⟨hx, ho, hl⟩
  · refine wpAny_storeName_local hx (St.ns H h2) (fun h' hn' hs' => ?_) (by rw [K.kind]; rfl)
    obtain ⟨o', ho', hm'⟩ := ns_obj hn'
    have H' := (show Hp c.h₀ s.heap ((sl ++ (c.hid ++ op)) ++ ((c.env.locals, oD) :: tl)) by simpa [List.append_assoc] using H).setAt hs' ho'
    refine hQ h' _ ⟨tl, o', op, _, by simpa [List.append_assoc] using H', h1, hm', ⟨fun y b e => ?_, fun y l e => ?_, fun y D' e => ?_, fun y z l l' e1 e2 e3 => ?_, h3.cells⟩⟩
    · by_cases hy : y = x
      · subst hy
        simp only [Sg.set, if_true, Option.some.injEq, Slot.val.injEq] at e
        subst e
        exact ⟨v, .inl ⟨hx, by simp⟩, r⟩
      · simp only [Sg.set, if_neg hy] at e
        obtain ⟨u, hu, ru⟩ := h3.vals y b e
        refine ⟨u, ?_, ru⟩
        rcases hu with ⟨g1, g2⟩ | g
        · exact .inl ⟨g1, by simp [hy, g2]⟩
        · exact .inr g
    · have hy : y ≠ x := by rintro rfl; simp [Sg.set] at e
      simp only [Sg.set, if_neg hy] at e
      obtain ⟨D, ws, k, g1, g2, g3, g4, g⟩ := h3.opens y l e
      exact ⟨D, ws, k, g1, by simp [hy, g2], g3, g4, g⟩
    · have hy : y ≠ x := by rintro rfl; simp [Sg.set] at e
      simp only [Sg.set, if_neg hy] at e
      obtain ⟨g1, g2⟩ := h3.pins y D' e
      exact ⟨g1, by simp [hy, g2]⟩
    · have hy : y ≠ x := by rintro rfl; simp [Sg.set] at e1
      have hz : z ≠ x := by rintro rfl; simp [Sg.set] at e2
      simp only [Sg.set, if_neg hy] at e1
      simp only [Sg.set, if_neg hz] at e2
      simp only [if_neg hy, if_neg hz] at e3
      exact h3.inj y z l l' e1 e2 e3
  · obtain ⟨k, hk⟩ := Option.isSome_iff_exists.mp hl
    obtain ⟨o, v0, q1, q2⟩ := h3.cells ho x k hx hk
    obtain ⟨o1, o2, rfl⟩ := List.append_of_mem q1
    have hc : s.heap.IsCell k v0 := ⟨o, H.get (k, o) (by simp), q2⟩
    refine wpAny_storeName_cell K.kind hx hk hc fun h' hc' hs' => ?_
    obtain ⟨o', ho', hd'⟩ := hc'
    have H' := (show Hp c.h₀ s.heap ((sl ++ (c.hid ++ o1)) ++ ((k, o) :: (o2 ++ ((c.env.locals, oD) :: tl)))) by simpa [List.append_assoc] using H).setAt hs' ho'
    have sw : ∀ p : Addr × Obj, p ∈ o1 ++ (k, o) :: o2 → p.1 ≠ k → p ∈ o1 ++ (k, o') :: o2 := fun p hp hne => by
      rcases List.mem_append.mp hp with hp | hp
      · exact List.mem_append_left _ hp
      · rcases List.mem_cons.mp hp with rfl | hp
        · exact absurd rfl hne
        · exact List.mem_append_right _ (List.mem_cons_of_mem _ hp)
    refine hQ h' s.toks ⟨tl, oD, o1 ++ (k, o') :: o2, m, by simpa [List.append_assoc] using H', h1, h2, ⟨fun y b e => ?_, fun y l e => ?_, fun y D' e => ?_, fun y z l l' e1 e2 e3 => ?_, fun ho y kk e1 e2 => ?_⟩⟩
    · by_cases hy : y = x
      · subst hy
        simp only [Sg.set, if_true, Option.some.injEq, Slot.val.injEq] at e
        subst e
        exact ⟨v, .inr ⟨.inl hx, k, o', hk, by simp, hd'⟩, r⟩
      · simp only [Sg.set, if_neg hy] at e
        obtain ⟨u, hu, ru⟩ := h3.vals y b e
        refine ⟨u, ?_, ru⟩
        rcases hu with g | ⟨g1, kk, oo, g2, g3, g4⟩
        · exact .inl g
        · refine .inr ⟨g1, kk, oo, g2, ?_, g4⟩
          rcases List.mem_append.mp g3 with g3 | g3
          · exact List.mem_append_left _ (sw _ g3 fun q => hy (lookup_apart K.apart (q ▸ g2) hk))
          · exact List.mem_append_right _ g3
    · have hy : y ≠ x := by rintro rfl; simp [Sg.set] at e
      simp only [Sg.set, if_neg hy] at e
      obtain ⟨D, ws, kk, g1, g2, g3, g, gr⟩ := h3.opens y l e
      refine ⟨D, ws, kk, g1, g2, sw _ g3 fun q => ?_, g, gr⟩
      have := H.one (p := (D, kk)) (q := (k, o)) (by
        have : ∀ p ∈ o1 ++ (k, o) :: o2, p ∈ sl ++ (c.hid ++ ((o1 ++ (k, o) :: o2) ++ ((c.env.locals, oD) :: tl))) := fun p hp => by simp only [List.mem_append] at hp ⊢; exact .inr (.inr (.inl hp))
        exact this _ g3) (by simp) q
      cases this
      obtain ⟨kk', hk'⟩ := g.seq
      rw [hk'] at q2; cases q2
    · have hy : y ≠ x := by rintro rfl; simp [Sg.set] at e
      simp only [Sg.set, if_neg hy] at e
      exact h3.pins y D' e
    · have hy : y ≠ x := by rintro rfl; simp [Sg.set] at e1
      have hz : z ≠ x := by rintro rfl; simp [Sg.set] at e2
      simp only [Sg.set, if_neg hy] at e1
      simp only [Sg.set, if_neg hz] at e2
      exact h3.inj y z l l' e1 e2 e3
    · by_cases hy : y = x
      · subst hy
        rw [hk] at e2; cases e2
        exact ⟨o', _, by simp, hd'⟩
      · obtain ⟨oo, v1, g1, g2⟩ := h3.cells ho y kk e1 e2
        exact ⟨oo, v1, sw _ g1 (fun q => hy (lookup_apart K.apart (q ▸ e2) hk)), g2⟩

/-- a list that nobody knows of yet is stored under a name of the frame -/
theorem store_opn {c : Cx} {n : Nat} {σ : Sg} {sl : Led} {s : Shared} {x : Str} {D : Addr} {od : Obj} {ws : List Value} {l : List AV} {E : Value → Shared → Prop} (K : CxOk c n) (hod : IsLst od ws) (S : St { c with hid := (D, od) :: c.hid } σ sl s.heap) (hx : c.env.kindOf x = some .local) (r : RepAll c.h₀ c.T sl ws l) {Q : Unit → Shared → Prop}
    (hQ : ∀ h' tk', St c (σ.set x (.opn l)) sl h' → Q () { s with heap := h', toks := tk' }) : wpAny (model c.prog c.w) c.A (storeName c.env x (.ref D)) Q E s := by
  obtain ⟨tl, oD, op, m, H, h1, h2, h3⟩ := S
  have hns : s.heap.Ns c.env.locals m := St.ns (c := { c with hid := (D, od) :: c.hid }) H h2
  refine wpAny_storeName_local hx hns (fun h' hn' hs' => ?_) (by rw [K.kind]; rfl)
  obtain ⟨o', ho', hm'⟩ := ns_obj hn'
  have H' := (show Hp c.h₀ s.heap ((sl ++ (((D, od) :: c.hid) ++ op)) ++ ((c.env.locals, oD) :: tl)) by simpa [List.append_assoc] using H).setAt hs' ho'
  have hp : ((sl ++ (((D, od) :: c.hid) ++ op)) ++ ((c.env.locals, o') :: tl)).Perm (sl ++ (c.hid ++ (((D, od) :: op) ++ ((c.env.locals, o') :: tl)))) := by
    have p1 := (List.perm_middle (a := (D, od)) (l₁ := c.hid) (l₂ := op ++ ((c.env.locals, o') :: tl))).symm
    have p2 := List.Perm.append_left sl p1
    simpa [List.append_assoc] using p2
  have inop : ∀ y l', σ.ev y = some (.opn l') → m y ≠ some (.ref D) := fun y l' e q => by
    obtain ⟨D', ws', k', g1, g2, g3, g⟩ := h3.opens y l' e
    rw [q] at g2; cases g2
    have g3' : (D, k') ∈ op := g3
    exact (show Hp c.h₀ s.heap ((sl ++ ((D, od) :: c.hid)) ++ (op ++ ((c.env.locals, oD) :: tl))) by simpa [List.append_assoc] using H).apart (p := (D, od)) (q := (D, k')) (by simp) (List.mem_append_left _ g3') rfl
  refine hQ h' _ ⟨tl, o', (D, od) :: op, _, H'.perm hp, h1, hm', ⟨fun y b e => ?_, fun y l e => ?_, fun y D' e => ?_, fun y z l l' e1 e2 e3 => ?_, fun ho y kk e1 e2 => ?_⟩⟩
  · have hy : y ≠ x := by rintro rfl; simp [Sg.set] at e
    simp only [Sg.set, if_neg hy] at e
    obtain ⟨u, hu, ru⟩ := h3.vals y b e
    refine ⟨u, ?_, ru⟩
    rcases hu with ⟨g1, g2⟩ | ⟨g1, kk, oo, g2, g3, g4⟩
    · exact .inl ⟨g1, by simp [hy, g2]⟩
    · refine .inr ⟨g1, kk, oo, g2, ?_, g4⟩
      rcases List.mem_append.mp g3 with g3 | g3
      · exact List.mem_append_left _ (List.mem_cons_of_mem _ g3)
      · rcases List.mem_cons.mp g3 with g3 | g3
        · cases g3; obtain ⟨kk', hk'⟩ := hod.seq; rw [hk'] at g4; cases g4
        · exact List.mem_append_right _ g3
  · by_cases hy : y = x
    · subst hy
      simp only [Sg.set, if_true, Option.some.injEq, Slot.opn.injEq] at e
      subst e
      exact ⟨D, ws, od, hx, by simp, by simp, hod, r⟩
    · simp only [Sg.set, if_neg hy] at e
      obtain ⟨D', ws', k', g1, g2, g3, g, gr⟩ := h3.opens y l e
      exact ⟨D', ws', k', g1, by simp [hy, g2], List.mem_cons_of_mem _ g3, g, gr⟩
  · have hy : y ≠ x := by rintro rfl; simp [Sg.set] at e
    simp only [Sg.set, if_neg hy] at e
    obtain ⟨g1, g2⟩ := h3.pins y D' e
    exact ⟨g1, by simp [hy, g2]⟩
  · by_cases hy : y = x <;> by_cases hz : z = x
    · rw [hy, hz]
    · subst hy
      simp only [Sg.set, if_neg hz] at e2
      simp only [if_true, if_neg hz] at e3
      exact absurd e3.symm (inop z l' e2)
    · subst hz
      simp only [Sg.set, if_neg hy] at e1
      simp only [if_true, if_neg hy] at e3
      exact absurd e3 (inop y l e1)
    · simp only [Sg.set, if_neg hy] at e1
      simp only [Sg.set, if_neg hz] at e2
      simp only [if_neg hy, if_neg hz] at e3
      exact h3.inj y z l l' e1 e2 e3
  · obtain ⟨oo, v0, g1, g2⟩ := h3.cells ho y kk e1 e2
    exact ⟨oo, v0, List.mem_cons_of_mem _ g1, g2⟩
end Mine
namespace Mine
open PySem PySem.W PySem.Calls PyProof.Rows PyProof.Rows.LCg PySem.SeqAt
/-- expressions one behind the other -/
noncomputable def EVS (c : Cx) (pos : Pos) (es : List Expr) (σ : Sg) (Φ : List AV → Sg → Prop) : Prop :=
  ∀ (sl : Led) (s : Shared), St c σ sl s.heap → ∀ Q : List Value → Shared → Prop,
    (∀ vs as σ' sl' h' tk', (∀ p ∈ sl, p ∈ sl') → St c σ' sl' h' → RepAll c.h₀ c.T sl' vs as → Φ as σ' → Q vs { s with heap := h', toks := tk' }) →
    wpAny (model c.prog c.w) c.A (spliced (backTo pos (starEach es c.env))) Q (fun _ _ => False) s
@[reducible] noncomputable def consK2 (a : AV) (Φs : List AV → Sg → Prop) : List AV → Sg → Prop := fun as σ2 => Φs (a :: as) σ2
@[reducible] noncomputable def consK (c : Cx) (pos : Pos) (es : List Expr) (Φs : List AV → Sg → Prop) : AV → Sg → Prop := fun a σ1 => EVS c pos es σ1 (consK2 a Φs)
@[reducible] noncomputable def tupK (Φ : AV → Sg → Prop) : List AV → Sg → Prop := fun as σ' => as.length ≤ 1000 ∧ Φ (.tup as) σ'
@[reducible] noncomputable def lstK (Φ : AV → Sg → Prop) : List AV → Sg → Prop := fun as σ' => as.length ≤ 1000 ∧ Φ (.lst as) σ'
@[reducible] noncomputable def tpK (Φ : AV → Sg → Prop) (ev : Str → Option Slot) : AV → Option (Int × Int × Int) → Prop := fun a tp' => Φ a ⟨tp', ev⟩
section
variable {c : Cx} {σ : Sg} {n : Nat} {Φ : AV → Sg → Prop} {Φs : List AV → Sg → Prop} {pos : Pos}
theorem EVS.nil (h : Φs [] σ) : EVS c pos [] σ Φs := fun sl s S Q hQ => spliced_nil (hQ [] [] σ sl s.heap s.toks (fun _ h => h) S .nil h)
theorem EVS.cons {e : Expr} {es : List Expr} (h : EV c e σ (consK c pos es Φs)) (he : starEach (e :: es) c.env = (false, eval e c.env) :: starEach es c.env := by rfl) : EVS c pos (e :: es) σ Φs := by
  intro sl s S Q hQ
  rw [he]
  refine spliced_cons (h sl s S _ fun v a σ1 sl1 h1 tk1 s1 S1 r k => ?_)
  exact k sl1 { s with heap := h1, toks := tk1 } S1 _ fun vs as σ2 sl2 h2 tk2 s2 S2 rs k2 => hQ (v :: vs) (a :: as) σ2 sl2 h2 tk2 (fun p hp => s2 p (s1 p hp)) S2 (.cons (r.mono s2) rs) k2

theorem EV.tup {es : List Expr} {k : Nat} (h : EVS c pos es σ (tupK Φ)) : EV c (.Tuple es k pos) σ Φ := by
  intro sl s S Q hQ
  refine wpAny_Tuple_spliced (h sl s S _ fun vs as σ' sl' h' tk' s' S' rs k => ⟨?_, ?_⟩)
  · have := rs.length; have := k.1; rw [sizeLine_eq]; omega
  · have hsub : ∀ p ∈ sl', p ∈ (h'.objs.size, tupOf vs.toArray 0) :: sl' := fun p hp => List.mem_cons_of_mem _ hp
    exact hQ _ (.tup as) σ' ((h'.objs.size, tupOf vs.toArray 0) :: sl') _ tk' (fun p hp => hsub p (s' p hp)) (S'.push _) (.tup (.inl List.mem_cons_self) (rs.mono hsub)) k.2
theorem EV.lst {es : List Expr} (h : EVS c pos es σ (lstK Φ)) : EV c (.List es pos) σ Φ := by
  intro sl s S Q hQ
  refine wpAny_List_spliced (h sl s S _ fun vs as σ' sl' h' tk' s' S' rs k => ⟨?_, ?_⟩)
  · have := rs.length; have := k.1; rw [sizeLine_eq]; omega
  · have hsub : ∀ p ∈ sl', p ∈ (h'.objs.size, listOf vs.toArray 0) :: sl' := fun p hp => List.mem_cons_of_mem _ hp
    exact hQ _ (.lst as) σ' ((h'.objs.size, listOf vs.toArray 0) :: sl') _ tk' (fun p hp => hsub p (s' p hp)) (S'.push _) (.lst (.inl List.mem_cons_self) rfl rfl (rs.mono hsub)) k.2
end

inductive StH (c : Cx) (σ : Sg) (sl : Led) (h : Heap) : Prop
  | mk (tl : Led) (oD : Obj) (op : Led) (m : Str → Option Value) (H : Hp c.h₀ h (sl ++ ((c.hid ++ (op ++ [(c.env.locals, oD)])) ++ tl))) (t : TpAt c.T σ.tp tl) (n : NsObj oD m) (r : EvRep c m op sl σ.ev) : StH c σ sl h
/-- what a call of one of the text's functions gives back, and what it leaves of the tape -/
noncomputable def CALL (prog : Program) (w : World) (h₀ : Heap) (T : Addr) (f : Addr) (n : Nat) (args : List AV) (tp : Option (Int × Int × Int)) (Φ : AV → Option (Int × Int × Int) → Prop) : Prop :=
  ∀ (A : Around) (rest sl tl : Led) (s : Shared) (vs : List Value), Room A n → Bs w h₀ → Hp h₀ s.heap (sl ++ (rest ++ tl)) → TpAt T tp tl → RepAll h₀ T sl vs args →
    ∀ Q : Value → Shared → Prop, (∀ v a tp' tl' sl' h' tk', (∀ p ∈ sl, p ∈ sl') → Hp h₀ h' (sl' ++ (rest ++ tl')) → TpAt T tp' tl' → Rep h₀ T sl' v a → Φ a tp' → Q v { s with heap := h', toks := tk' }) →
    wpAny (model prog w) A (call (.ref f) vs) Q (fun _ _ => False) s
theorem Room.mono {A : Around} {n m : Nat} (r : Room A n) (h : m ≤ n) : Room A m := ⟨r.hh, by have := r.hd; omega, by have := r.hu; omega⟩
section
variable {prog : Program} {w : World} {h₀ : Heap} {T f : Addr} {n m : Nat} {args : List AV} {tp : Option (Int × Int × Int)} {Φ Ψ : AV → Option (Int × Int × Int) → Prop}
theorem CALL.mono (h : CALL prog w h₀ T f n args tp Φ) (hi : ∀ a t, Φ a t → Ψ a t) : CALL prog w h₀ T f n args tp Ψ :=
  fun A rest sl tl s vs R B H ht r Q hQ => h A rest sl tl s vs R B H ht r Q fun v a tp' tl' sl' h' tk' s' H' t' rv k => hQ v a tp' tl' sl' h' tk' s' H' t' rv (hi _ _ k)
end
section
variable {c : Cx} {σ : Sg} {n m : Nat} {Φ : AV → Sg → Prop} {Φs : List AV → Sg → Prop} {pos : Pos}
theorem St.toHp {c : Cx} {σ : Sg} {sl : Led} {h : Heap} (S : St c σ sl h) : StH c σ sl h := by
  obtain ⟨tl, oD, op, m, H, t, n, r⟩ := S
  exact ⟨tl, oD, op, m, by simpa only [List.append_assoc, List.cons_append, List.nil_append] using H, t, n, r⟩
/-- the call, its arguments at hand -/
theorem CALL.use {f : Addr} {args : List AV} {sl : Led} {s : Shared} {vs : List Value} {Q : Value → Shared → Prop} (K : CxOk c m) (hm : n ≤ m) (S : St c σ sl s.heap) (rs : RepAll c.h₀ c.T sl vs args) (h : CALL c.prog c.w c.h₀ c.T f n args σ.tp (tpK Φ σ.ev))
    (hQ : ∀ v a σ' sl' h' tk', (∀ p ∈ sl, p ∈ sl') → St c σ' sl' h' → Rep c.h₀ c.T sl' v a → Φ a σ' → Q v { s with heap := h', toks := tk' }) : wpAny (model c.prog c.w) c.A (call (.ref f) vs) Q (fun _ _ => False) s := by
  obtain ⟨tl, oD, op, mm, H, h1, h2, h3⟩ := S.toHp
  refine h c.A _ sl tl s vs (K.room.mono hm) K.bs H h1 rs Q fun v a tp' tl' sl' h' tk' s' H' t' r k => ?_
  exact hQ v a ⟨tp', σ.ev⟩ sl' h' tk' s' ⟨tl', oD, op, mm, by simpa [List.append_assoc] using H', t', h2, h3.mono s'⟩ r k

inductive CallE (c : Cx) (f : Addr) (m : Nat) (as : List AV) (Φ : AV → Sg → Prop) (σ : Sg) : Prop
  | mk (n : Nat) (h : n ≤ m) (k : CALL c.prog c.w c.h₀ c.T f n as σ.tp (tpK Φ σ.ev)) : CallE c f m as Φ σ
@[reducible] noncomputable def callK (c : Cx) (f : Addr) (m : Nat) (Φ : AV → Sg → Prop) : List AV → Sg → Prop := fun as σ1 => CallE c f m as Φ σ1
theorem EV.call {x : Str} {p : Pos} {e : Expr} {es : List Expr} {f : Addr} {oc : Value} {od : Option Addr} {fd : FuncData} {osl : Array (Option Value)} (K : CxOk c m)
    (g : nsIn (hd.heap_39 c.w.params) mainGlobals x = some (some (.ref f))) (hf : (hd.heap_39 c.w.params).lookup f = some ⟨oc, od, .func fd, osl⟩) (hk : c.env.kindOf x = some .globalImplicit)
    (h : EVS c pos (e :: es) σ (callK c f m Φ))
    (he : starEach (e :: es) c.env = (false, eval e c.env) :: starEach es c.env := by rfl) (hx : (x == ("__debug__" : Str)) = false := by decide) : EV c (.Call (.Name x p) (e :: es) [] pos) σ Φ := by
  intro sl s S Q hQ
  refine wpAny_Call_Name_kw (fname K S g hk ?_ hx)
  show wpAny _ _ (callWith pos (.ref f) [] (backTo pos (starEach (e :: es) c.env)) []) _ _ s
  have h' := h sl s S
  rw [he] at h' ⊢
  refine callWith_function (o := ⟨oc, od, .func fd, osl⟩) (fd := fd) (evalArgs_plain (h' _ fun vs as σ1 sl1 h1 tk1 s1 S1 rs k => ⟨⟨?_, rfl⟩, ?_⟩))
  · obtain ⟨l, H⟩ := S1.hp
    exact H.keep _ _ (K.bs.K _ _ hf)
  · obtain ⟨n, hm, k⟩ := k
    exact k.use (s := { s with heap := h1, toks := tk1 }) K hm S1 rs fun v a σ' sl' h' tk' s' S' r k => hQ v a σ' sl' h' tk' (fun p hp => s' p (s1 p hp)) S' r k
end

/-- how a statement ends -/
inductive Fl where
  | nxt | brk | cnt
  | ret (a : AV)
inductive FlRep (h₀ : Heap) (T : Addr) (sl : Led) : Flow → Fl → Prop
  | nxt : FlRep h₀ T sl .next .nxt
  | brk : FlRep h₀ T sl .brk .brk
  | cnt : FlRep h₀ T sl .cont .cnt
  | ret {v : Value} {a : AV} : Rep h₀ T sl v a → FlRep h₀ T sl (.ret v) (.ret a)
noncomputable def EX (c : Cx) (st : Stmt) (σ : Sg) (Φ : Fl → Sg → Prop) : Prop :=
  ∀ (sl : Led) (s : Shared), St c σ sl s.heap → ∀ Q : Flow → Shared → Prop,
    (∀ f g σ' sl' h' tk', (∀ p ∈ sl, p ∈ sl') → St c σ' sl' h' → FlRep c.h₀ c.T sl' f g → Φ g σ' → Q f { s with heap := h', toks := tk' }) →
    wpAny (model c.prog c.w) c.A (exec st c.env) Q (fun _ _ => False) s
noncomputable def EXS (c : Cx) (sts : List Stmt) (σ : Sg) (Φ : Fl → Sg → Prop) : Prop :=
  ∀ (sl : Led) (s : Shared), St c σ sl s.heap → ∀ Q : Flow → Shared → Prop,
    (∀ f g σ' sl' h' tk', (∀ p ∈ sl, p ∈ sl') → St c σ' sl' h' → FlRep c.h₀ c.T sl' f g → Φ g σ' → Q f { s with heap := h', toks := tk' }) →
    wpAny (model c.prog c.w) c.A (execs sts c.env) Q (fun _ _ => False) s
@[reducible] noncomputable def thenS (c : Cx) (sts : List Stmt) (Φ : Fl → Sg → Prop) : Fl → Sg → Prop := fun f σ1 => match f with | .nxt => EXS c sts σ1 Φ | f => Φ f σ1
@[reducible] noncomputable def retK (Φ : Fl → Sg → Prop) : AV → Sg → Prop := fun a σ' => Φ (.ret a) σ'
@[reducible] noncomputable def iteK (c : Cx) (b e : List Stmt) (Φ : Fl → Sg → Prop) : Bool → Sg → Prop := fun x σ' => if x then EXS c b σ' Φ else EXS c e σ' Φ
@[reducible] noncomputable def asgK (x : Str) (Φ : Fl → Sg → Prop) : AV → Sg → Prop := fun a σ' => Φ .nxt (σ'.set x (.val a))
@[reducible] noncomputable def asgLK (x : Str) (Φ : Fl → Sg → Prop) : List AV → Sg → Prop := fun as σ' => as.length ≤ 1000 ∧ Φ .nxt (σ'.set x (.opn as))
@[reducible] noncomputable def nxtK (Φ : Fl → Sg → Prop) : Sg → Prop := fun σ => Φ .nxt σ
@[reducible] noncomputable def finK (Φ : AV → Option (Int × Int × Int) → Prop) : Fl → Sg → Prop := fun g σ' => match g with | .ret a => Φ a σ'.tp | .nxt => Φ .none σ'.tp | _ => False
section
variable {c : Cx} {σ : Sg} {n m : Nat} {Φ : Fl → Sg → Prop} {pos : Pos}
theorem EXS.mono {sts : List Stmt} {Ψ : Fl → Sg → Prop} (h : EXS c sts σ Φ) (hi : ∀ a σ', Φ a σ' → Ψ a σ') : EXS c sts σ Ψ :=
  fun sl s S Q hQ => h sl s S Q fun f g σ' sl' h' tk' s' S' r k => hQ f g σ' sl' h' tk' s' S' r (hi _ _ k)
theorem EXS.nil (h : Φ .nxt σ) : EXS c [] σ Φ := fun sl s S Q hQ => wpAny_execs_nil (hQ .next .nxt σ sl s.heap s.toks (fun _ h => h) S .nxt h)
theorem EXS.cons {st : Stmt} {sts : List Stmt} (h : EX c st σ (thenS c sts Φ)) : EXS c (st :: sts) σ Φ := by
  intro sl s S Q hQ
  refine wpAny_execs_cons (h sl s S _ fun f g σ1 sl1 h1 tk1 s1 S1 r k => ?_)
  cases r with
  | nxt =>
    have k' : EXS c sts σ1 Φ := k
    exact k' sl1 { s with heap := h1, toks := tk1 } S1 Q fun f g σ' sl' h' tk' s' S' r k => hQ f g σ' sl' h' tk' (fun p hp => s' p (s1 p hp)) S' r k
  | brk => exact hQ _ _ σ1 sl1 h1 tk1 s1 S1 .brk k
  | cnt => exact hQ _ _ σ1 sl1 h1 tk1 s1 S1 .cnt k
  | ret rv => exact hQ _ _ σ1 sl1 h1 tk1 s1 S1 (.ret rv) k
theorem EX.ret {e : Expr} (h : EV c e σ (retK Φ)) : EX c (.Return (some e) pos) σ Φ :=
  fun sl s S Q hQ => wpAny_Return_some (h sl s S _ fun v a σ' sl' h' tk' s' S' r k => hQ _ _ σ' sl' h' tk' s' S' (.ret r) k)
theorem EX.ite {t : Expr} {b e : List Stmt} (h : IT c t σ (iteK c b e Φ)) : EX c (.If t b e pos) σ Φ := by
  intro sl s S Q hQ
  refine wpAny_If (h sl s S _ fun x σ' sl' h' tk' s' S' k => ?_)
  have go : ∀ l, EXS c l σ' Φ → wpAny (model c.prog c.w) c.A (execs l c.env) Q (fun _ _ => False) { s with heap := h', toks := tk' } := fun l k =>
    k sl' { s with heap := h', toks := tk' } S' Q fun f g σ2 sl2 h2 tk2 s2 S2 r k2 => hQ f g σ2 sl2 h2 tk2 (fun p hp => s2 p (s' p hp)) S2 r k2
  cases x with
  | true => exact go b k
  | false => exact go e k
theorem EX.asg {x : Str} {p : Pos} {e : Expr} (K : CxOk c n) (hx : Own c x) (h : EV c e σ (asgK x Φ)) (hs : swapsWith e (some (.Name x p)) pos.line c.env = pure false := by rfl) : EX c (.Assign [.Name x p] e pos) σ Φ :=
  fun sl s S Q hQ => wpAny_Assign_Name (h sl s S _ fun v a σ' sl' h' tk' s' S' r k => store_val (s := { s with heap := h', toks := tk' }) K S' hx r fun h2 tk2 S2 => hQ _ _ (σ'.set x (.val a)) sl' h2 tk2 s' S2 .nxt k) hs
/-- a list display under a name: it stays open -/
theorem EX.asgL {x : Str} {p lp : Pos} {es : List Expr} (K : CxOk c n) (hx : c.env.kindOf x = some .local) (h : EVS c lp es σ (asgLK x Φ)) : EX c (.Assign [.Name x p] (.List es lp) pos) σ Φ := by
  intro sl s S Q hQ
  refine wpAny_Assign_Name (wpAny_List_spliced (h sl s S _ fun vs as σ' sl' h' tk' s' S' rs k => ⟨by have := rs.length; have := k.1; rw [sizeLine_eq]; omega, ?_⟩))
  obtain ⟨tl, oD, op, mm, H, h1, h2, h3⟩ := S'
  have S2 : St { c with hid := (h'.objs.size, listOf vs.toArray 0) :: c.hid } σ' sl' (h'.push (listOf vs.toArray 0)) := by
    refine ⟨tl, oD, op, mm, (H.push (listOf vs.toArray 0)).perm ?_, h1, h2, ⟨fun y b e => ?_, h3.opens, h3.pins, h3.inj, h3.cells⟩⟩
    · have := (List.perm_middle (a := (h'.objs.size, listOf vs.toArray 0)) (l₁ := sl') (l₂ := c.hid ++ (op ++ ((c.env.locals, oD) :: tl)))).symm
      simpa using this
    · obtain ⟨u, hu, ru⟩ := h3.vals y b e
      refine ⟨u, ?_, ru⟩
      rcases hu with g | ⟨g1, kk, oo, g2, g3, g4⟩
      · exact .inl g
      · refine .inr ⟨g1, kk, oo, g2, ?_, g4⟩
        rcases List.mem_append.mp g3 with g3 | g3
        · exact List.mem_append_left _ g3
        · exact List.mem_append_right _ (List.mem_cons_of_mem _ g3)
  exact store_opn (s := { s with heap := h'.push (listOf vs.toArray 0), toks := tk' }) K ⟨rfl, 0, rfl, rfl, rfl⟩ S2 hx rs fun h2 tk2 S3 => hQ _ _ (σ'.set x (.opn as)) sl' h2 tk2 s' S3 .nxt k.2
end


theorem Hp.addAll {h₀ h h' : Heap} {l new : Led} (H : Hp h₀ h l) (hk : ∀ b o, h.get? b = some o → h'.get? b = some o) (hn : ∀ p ∈ new, h'.get? p.1 = some p.2 ∧ h.get? p.1 = none) (hd : (new.map (·.1)).Nodup) : Hp h₀ h' (l ++ new) where
  keep := fun b x e => hk b x (H.keep b x e)
  get := fun p hp => (List.mem_append.mp hp).elim (fun hp => hk _ _ (H.get p hp)) fun hp => (hn p hp).1
  new := fun p hp => (List.mem_append.mp hp).elim (H.new p) fun hp => by
    cases e : h₀.get? p.1 with
    | none => rfl
    | some o => have := H.keep _ _ e; rw [(hn p hp).2] at this; cases this
  nd := by
    rw [List.map_append, List.nodup_append]
    refine ⟨H.nd, hd, fun a ha b hb e => ?_⟩
    subst e
    obtain ⟨p, hp, e1⟩ := List.mem_map.mp ha
    obtain ⟨q, hq, e2⟩ := List.mem_map.mp hb
    have := H.get p hp
    rw [e1, ← e2, (hn q hq).2] at this
    cases this

theorem bindL_eq (k : Str → Option NameKind) : ∀ (bs : List (Str × Value)) (m : Str → Option Value) (x : Str), k x = some .local → bindL k bs m x = (bs.reverse.lookup x).or (m x)
  | [], m, x, _ => by simp [bindL]
  | (y, v) :: r, m, x, h => by
    unfold bindL
    rw [bindL_eq k r _ x h, List.reverse_cons, List.lookup_append, Option.or_assoc]
    congr 1
    by_cases hy : x = y
    · subst hy; simp [h]
    · have hb : (x == y) = false := by simpa using hy
      rw [List.lookup_cons, hb]
      by_cases hk : k y = some .local
      · rw [if_pos hk]; simp [hy]
      · rw [if_neg hk]; simp
theorem bindC_eq (k : Str → Option NameKind) : ∀ (bs : List (Str × Value)) (m : Str → Option Value) (x : Str), k x ≠ some .local → bindC k bs m x = (bs.reverse.lookup x).or (m x)
  | [], m, x, _ => by simp [bindC]
  | (y, v) :: r, m, x, h => by
    unfold bindC
    rw [bindC_eq k r _ x h, List.reverse_cons, List.lookup_append, Option.or_assoc]
    congr 1
    by_cases hy : x = y
    · subst hy; simp [h]
    · have hb : (x == y) = false := by simpa using hy
      rw [List.lookup_cons, hb]
      by_cases hk : k y = some .local
      · rw [if_pos hk]; simp
      · rw [if_neg hk]; simp [hy]
theorem lookup_none : ∀ {xs : List Str} {vs : List Value} {ds : List AV} {y : Str}, vs.length = ds.length → (xs.zip ds).reverse.lookup y = none → (xs.zip vs).reverse.lookup y = none
  | [], _, _, _, _, _ => by simp
  | x :: xs, [], _, _, _, _ => by simp
  | x :: xs, v :: vs, [], _, hl, _ => by simp at hl
  | x :: xs, v :: vs, d :: ds, y, hl, e => by
    rw [List.zip_cons_cons, List.reverse_cons, List.lookup_append] at e ⊢
    rw [Option.or_eq_none_iff] at e
    rw [lookup_none (by simpa using hl) e.1, Option.none_or]
    have := e.2
    simp only [List.lookup_cons, List.lookup_nil] at this ⊢
    by_cases hy : (y == x) = true
    · rw [hy] at this; cases this
    · simp only [Bool.not_eq_true] at hy; rw [hy]
theorem lookup_rep {h₀ : Heap} {T : Addr} {sl : Led} : ∀ {xs : List Str} {vs : List Value} {as : List AV}, RepAll h₀ T sl vs as → ∀ y a, (xs.zip as).reverse.lookup y = some a → ∃ v, (xs.zip vs).reverse.lookup y = some v ∧ Rep h₀ T sl v a
  | [], _, _, _, y, a, h => by simp at h
  | x :: xs, [], _, r, y, a, h => by cases r; simp at h
  | x :: xs, v :: vs, _, .cons q r, y, a, h => by
    rw [List.zip_cons_cons, List.reverse_cons, List.lookup_append] at h ⊢
    rename_i d ds
    cases e : (xs.zip ds).reverse.lookup y with
    | some b =>
      rw [e] at h
      simp only [Option.or_some, Option.some.injEq, Option.some_or] at h
      subst h
      obtain ⟨u, hu, ru⟩ := lookup_rep r y b e
      exact ⟨u, by rw [hu]; rfl, ru⟩
    | none =>
      rw [e, Option.none_or] at h
      have e2 : (xs.zip vs).reverse.lookup y = none := lookup_none r.length e
      rw [e2, Option.none_or]
      simp only [List.lookup_cons, List.lookup_nil] at h ⊢
      by_cases hy : (y == x) = true
      · rw [hy] at h ⊢; cases h; exact ⟨v, rfl, q⟩
      · simp only [Bool.not_eq_true] at hy; rw [hy] at h; cases h

noncomputable def evOf (xs : List Str) (as : List AV) : Str → Option Slot := fun y => ((xs.zip as).reverse.lookup y).map .val
/-- the cells' objects -/
theorem cells_led {h : Heap} {cm : Str → Option Value} : ∀ (cs : List (Str × Addr)), (cs.Pairwise fun x y => x.2 ≠ y.2) → (∀ n k, (n, k) ∈ cs → h.IsCell k (cm n)) →
    ∃ op : Led, op.map (·.1) = cs.map (·.2) ∧ (∀ p ∈ op, h.get? p.1 = some p.2) ∧ ∀ n k, (n, k) ∈ cs → ∃ o, (k, o) ∈ op ∧ o.data = .cell (cm n)
  | [], _, _ => ⟨[], rfl, fun _ h => (nomatch h), fun _ _ h => (nomatch h)⟩
  | (x, k) :: cs, hp, hc => by
    obtain ⟨h1, h2⟩ := List.pairwise_cons.mp hp
    obtain ⟨op, e1, e2, e3⟩ := cells_led cs h2 fun n k h => hc n k (.tail _ h)
    obtain ⟨o, ho, hd⟩ := hc x k (.head _)
    refine ⟨(k, o) :: op, by simp [e1], fun p hp => ?_, fun n j hj => ?_⟩
    · rcases List.mem_cons.mp hp with rfl | hp
      · exact ho
      · exact e2 p hp
    · rcases List.mem_cons.mp hj with e | hj
      · cases e; exact ⟨o, .head _, hd⟩
      · obtain ⟨o', q1, q2⟩ := e3 n j hj
        exact ⟨o', .tail _ q1, q2⟩
theorem lookup_nodup {α : Type} : ∀ {cs : List (Str × α)}, (cs.map (·.1)).Nodup → ∀ {n : Str} {k : α}, (n, k) ∈ cs → cs.lookup n = some k
  | (x, j) :: cs, hd, n, k, h => by
    rw [List.map_cons, List.nodup_cons] at hd
    rw [List.lookup_cons]
    rcases List.mem_cons.mp h with e | h
    · cases e; rw [beq_self_eq_true]
    · have : n ≠ x := fun e => hd.1 (List.mem_map.mpr ⟨(n, k), h, e⟩)
      have hb : (n == x) = false := by simpa using this
      rw [hb]
      exact lookup_nodup hd.2 h

/-- a function's frame is made, its body run -/
noncomputable def Bnd (P : List Value → Prop) : Nat → Prop
  | 0 => P []
  | n + 1 => ∀ a, Bnd (fun vs => P (a :: vs)) n
theorem Bnd.at {n : Nat} : ∀ {P : List Value → Prop}, Bnd P n → ∀ vs : List Value, vs.length = n → P vs := by
  induction n with
  | zero => exact fun h vs e => (List.length_eq_zero_iff.mp e).symm ▸ h
  | succ n ih => exact fun h vs => vs.casesOn (fun e => absurd e.symm (Nat.succ_ne_zero _)) fun a vs e => ih (h a) vs (Nat.succ.inj e)
theorem CALL.intro {prog : Program} {w : World} {h₀ : Heap} {T f : Addr} {n : Nat} {args das : List AV} {tp : Option (Int × Int × Int)} {Φ : AV → Option (Int × Int × Int) → Prop}
    {oc : Value} {od : Option Addr} {osl : Array (Option Value)} {name qual : Str} {params : Arguments} {body : List Stmt} {scope : Scope} {dV kV doc pm cdv ct : Value} {an : Option Addr} (xs : List Str)
    (ho : (hd.heap_39 w.params).lookup f = some ⟨oc, od, .func (fnOf name qual params body scope dV kV doc pm an cdv ct), osl⟩) (hcd : codeIn (hd.heap_39 w.params) cdv qual = true)
    (hb : ∀ s : Shared, (hd.heap_39 w.params).In s.heap → Bnd (fun vs => ∃ ds, BindsTo s (fnOf name qual params body scope dV kV doc pm an cdv ct) ⟨vs, []⟩ (xs.zip (vs ++ ds)) ∧ ∀ sl, RepAll h₀ T sl ds das) args.length)
    (hx : (xs.all fun x => scope.names.lookup x == some .local || scope.names.lookup x == some .cell) = true)
    (hnd : ((cellsFrom 0 scope.names []).map (·.1)).Nodup)
    (h : ∀ (A : Around) (L : Addr) (hid : Led), CxOk ⟨prog, w, A, envOfC qual scope L f cdv, h₀, T, hid, true⟩ n →
      EXS ⟨prog, w, A, envOfC qual scope L f cdv, h₀, T, hid, true⟩ body ⟨tp, evOf xs (args ++ das)⟩ (finK Φ))
    (hco : scope.isCoroutine = false := by rfl) (hgen : scope.isGenerator = false := by rfl) (hk : scope.kind = .function := by rfl) : CALL prog w h₀ T f (n + 1) args tp Φ := by
  intro A rest sl tl s vs R B H ht rs Q hQ
  have X : (hd.heap_39 w.params).In s.heap := fun a o e => H.keep a o (B.K a o e)
  obtain ⟨ds, hbind, rds⟩ := (hb s X).at vs rs.length
  have rall := rs.append (rds sl)
  have hlk : ∀ x ∈ xs.zip (vs ++ ds), scope.names.lookup x.1 = some .local ∨ (scope.names.lookup x.1 = some .cell ∧ ((cellsFrom (s.heap.objs.size + 1) scope.names []).lookup x.1).isSome = true) := by
    refine kindsX (List.all_eq_true.mpr fun y hy => ?_) _
    exact List.all_eq_true.mp hx y.1 (List.of_mem_zip hy).1
  refine wpAny_call (codeAny_call_function (by have := R.hd; simp only [recursionLimit]; omega) (X _ _ ho) rfl hco hgen rfl (codeRec_of X hcd) (hbind _ _ _ _ ?_))
  refine wpAny_newFunctionEnv_cells hk hlk fun env' he s' x => ?_
  subst he
  refine ⟨(B.lim.keeps H.keep).keeps x.toInCall.keep, codeAny_func ?_⟩
  obtain ⟨h₁, tk, rfl, hk₁⟩ := x.done
  obtain ⟨oD, hoD, hmD⟩ := ns_obj x.toInCall.ns
  have hcn : ((cellsFrom (s.heap.objs.size + 1) scope.names []).map (·.1)).Nodup := cellsFrom_names scope.names 0 (s.heap.objs.size + 1) [] [] rfl ▸ hnd
  obtain ⟨op, e1, e2, e3⟩ := cells_led (h := h₁) (cm := bindC (envOfC qual scope s.heap.objs.size f cdv).kindOf (xs.zip (vs ++ ds)) fun _ => none) (cellsFrom (s.heap.objs.size + 1) scope.names []) x.apart fun n k hm => x.cell n k (lookup_nodup hcn hm)
  have hnew : ∀ p ∈ op ++ [(s.heap.objs.size, oD)], h₁.get? p.1 = some p.2 ∧ s.heap.get? p.1 = none := fun p hp => by
    have far : ∀ a, s.heap.objs.size ≤ a → s.heap.get? a = none := fun a ha => by
      cases e : s.heap.get? a with
      | none => rfl
      | some o => exact absurd (Heap.lt_size e) (Nat.not_lt.mpr ha)
    rcases List.mem_append.mp hp with hp | hp
    · refine ⟨e2 p hp, far _ ?_⟩
      have : p.1 ∈ (cellsFrom (s.heap.objs.size + 1) scope.names []).map (·.2) := e1 ▸ List.mem_map_of_mem hp
      obtain ⟨q, hq, e⟩ := List.mem_map.mp this
      exact e ▸ Nat.le_of_lt (x.above q.1 q.2 hq)
    · rw [List.mem_singleton.mp hp]
      exact ⟨hoD, far _ (Nat.le_refl _)⟩
  have hnd' : ((op ++ [(s.heap.objs.size, oD)]).map (·.1)).Nodup := by
    rw [List.map_append, List.nodup_append]
    refine ⟨?_, by simp, fun a ha b hb e => ?_⟩
    · rw [e1]
      exact List.pairwise_map.mpr x.apart
    · simp only [List.map_cons, List.map_nil, List.mem_singleton] at hb
      rw [e1] at ha
      obtain ⟨q, hq, e'⟩ := List.mem_map.mp ha
      have hlt : s.heap.objs.size < q.2 := x.above q.1 q.2 hq
      rw [e', e, hb] at hlt
      exact Nat.lt_irrefl _ hlt
  have H₁ := H.addAll hk₁ hnew hnd'
  have hp : ((sl ++ (rest ++ tl)) ++ (op ++ [(s.heap.objs.size, oD)])).Perm (sl ++ (rest ++ (op ++ ((s.heap.objs.size, oD) :: tl)))) := by
    have : (tl ++ (op ++ [(s.heap.objs.size, oD)])).Perm (op ++ ((s.heap.objs.size, oD) :: tl)) := by
      refine List.perm_append_comm.trans ?_
      simp
    have p2 := List.Perm.append_left sl (List.Perm.append_left rest this)
    simpa [List.append_assoc] using p2
  have K : CxOk ⟨prog, w, A.deeper (envOfC qual scope s.heap.objs.size f cdv), envOfC qual scope s.heap.objs.size f cdv, h₀, T, rest, true⟩ n :=
    ⟨B, ⟨R.hh, by have := R.hd; show A.depth + 1 + n < 900; omega, by have := R.hu; show A.units + 3 + 40 * n + 200 < cLine; omega⟩, hk, rfl, rfl, x.apart⟩
  have S : St ⟨prog, w, A.deeper (envOfC qual scope s.heap.objs.size f cdv), envOfC qual scope s.heap.objs.size f cdv, h₀, T, rest, true⟩ ⟨tp, evOf xs (args ++ das)⟩ sl h₁ := by
    refine ⟨tl, oD, op, _, H₁.perm hp, ht, hmD, ⟨fun y a e => ?_, fun y l e => ?_, fun y l e => ?_, fun y z l l' e => ?_, fun _ y k e1 e2 => ?_⟩⟩
    · simp only [evOf] at e
      cases e' : (xs.zip (args ++ das)).reverse.lookup y with
      | none => rw [e'] at e; cases e
      | some b =>
        rw [e'] at e
        simp only [Option.map_some, Option.some.injEq, Slot.val.injEq] at e
        subst e
        obtain ⟨v, hv, rv⟩ := lookup_rep rall y b e'
        refine ⟨v, ?_, rv⟩
        have hy := hlk _ (List.mem_reverse.mp (mem_of_lookup hv))
        rcases hy with hy | ⟨hy, hc⟩
        · exact .inl ⟨hy, by rw [bindL_eq _ _ _ _ hy, hv]; rfl⟩
        · obtain ⟨k, hk2⟩ := Option.isSome_iff_exists.mp hc
          obtain ⟨o, q1, q2⟩ := e3 y k (mem_of_lookup hk2)
          have hn : (envOfC qual scope s.heap.objs.size f cdv).kindOf y ≠ some .local := by
            show scope.names.lookup y ≠ _
            rw [show scope.names.lookup y = some .cell from hy]; decide
          exact .inr ⟨.inl hy, k, o, hk2, List.mem_append_left _ q1, by rw [q2, bindC_eq _ _ _ _ hn, hv]; rfl⟩
    · simp only [evOf] at e
      cases e' : (xs.zip (args ++ das)).reverse.lookup y <;> rw [e'] at e <;> simp at e
    · simp only [evOf] at e
      cases e' : (xs.zip (args ++ das)).reverse.lookup y <;> rw [e'] at e <;> simp at e
    · simp only [evOf] at e
      cases e' : (xs.zip (args ++ das)).reverse.lookup y <;> rw [e'] at e <;> simp at e
    · obtain ⟨o, q1, q2⟩ := e3 y k (mem_of_lookup e2)
      exact ⟨o, _, q1, q2⟩
  refine wpAny_mono (h _ _ rest K sl { s with heap := h₁, toks := tk } S (fun f s'' => wants Q (fun _ _ => False) (.ok (.ret (match f with | .ret v => v | _ => .none))) s'') ?_) (fun _ _ z => z) fun _ _ z => z.elim
  intro fl g σ' sl' h' tk' s' S' r k
  obtain ⟨tl', oD', op', m', H', h1', h2', h3'⟩ := S'
  have H'' : Hp h₀ h' (sl' ++ (rest ++ tl')) := H'.sub (by
    refine List.Sublist.append_left (List.Sublist.append_left ?_ _) _
    exact (List.sublist_cons_self _ _).trans (List.sublist_append_right _ _))
  cases r with
  | nxt => exact hQ .none .none σ'.tp tl' sl' h' tk' s' H'' h1' .none k
  | brk => exact k.elim
  | cnt => exact k.elim
  | ret rv => exact hQ _ _ σ'.tp tl' sl' h' tk' s' H'' h1' rv k
end Mine
namespace Mine
open PySem PySem.W PySem.Calls PyProof.Rows PyProof.Rows.LCg PySem.SeqAt
/-- calls of built-in functions and types: what they give -/
inductive BfnR : Value → List AV → AV → Prop
  | lenB (b : List UInt8) (h : b.length ≤ 16777216) : BfnR (.builtin "len") [.bytes b] (.int b.length)
  | lenL (l : List AV) (h : l.length ≤ 16777216) : BfnR (.builtin "len") [.lst l] (.int l.length)
  | chr (i : Int) (h0 : 0 ≤ i) (h1 : i ≤ 0x10FFFF) : BfnR (.builtin "chr") [.int i] (.str [i.toNat])
  | ord (k : Nat) : BfnR (.builtin "ord") [.str [k]] (.int k)
  | abs (i : Int) : BfnR (.builtin "abs") [.int i] (.int (if i < 0 then -i else i))
  | int (i : Int) : BfnR (.type "int") [.int i] (.int i)
  | bytes (ns : List Int) (h : ∀ n ∈ ns, 0 ≤ n ∧ n < 256) (hz : ns.length ≤ 16777216) : BfnR (.type "bytes") [.lst (ns.map .int)] (.bytes (ns.map fun n => n.toNat.toUInt8))
  | range (k : Nat) : BfnR (.type "range") [.int (k : Int)] (.rng k)

theorem intsAre_of {h₀ : Heap} {T : Addr} {sl : Led} : ∀ {ns : List Int} {vs : List Value}, RepAll h₀ T sl vs (ns.map .int) → IntsAre vs ns
  | [], vs, h => by cases h; exact .nil
  | n :: ns, vs, h => by
    cases h with
    | cons a r => cases a; exact .cons _ _ (intsAre_of r)

section
variable {c : Cx} {σ : Sg} {n : Nat} {sl : Led} {s : Shared} {Q : Value → Shared → Prop} {f : Value} {vs : List Value} {as : List AV} {d : AV}
theorem BfnR.ok (B : BfnR f as d) (K : CxOk c n) (S : St c σ sl s.heap) (rs : RepAll c.h₀ c.T sl vs as)
    (hQ : ∀ v sl' h' tk', (∀ p ∈ sl, p ∈ sl') → St c σ sl' h' → Rep c.h₀ c.T sl' v d → Q v { s with heap := h', toks := tk' }) : wpAny (model c.prog c.w) c.A (call f vs) Q (fun _ _ => False) s := by
  have hv : ∀ v tk, Rep c.h₀ c.T sl v d → Q v { s with toks := tk } := fun v tk r => hQ v sl s.heap tk (fun _ h => h) S r
  obtain ⟨l, H⟩ := S.hp
  have hs : ∀ p ∈ sl, p ∈ sl ++ l := fun p hp => List.mem_append_left _ hp
  cases B with
  | lenB b h =>
    obtain ⟨_, _, rfl, r, q⟩ := rs.inv
    obtain rfl := q.inv
    obtain ⟨_, rfl⟩ := r.inv
    exact len_bytes (by simp; omega) (by simpa using hv _ _ (.int _ _))
  | lenL ds h =>
    obtain ⟨_, _, rfl, r, q⟩ := rs.inv
    · obtain rfl := q.inv
      obtain ⟨_, _, _, _, rfl, i, c1, d1, rr⟩ := r.inv
      · have hl := rr.length
        refine call_len_list (i.list H hs c1 d1) (by simp; omega) ?_
        have := hv (.int ds.length (s.toks + 1)) (s.toks + 1 + 1) (.int _ _)
        simpa [hl] using this
  | chr i h0 h1 =>
    obtain ⟨_, _, rfl, r, q⟩ := rs.inv
    obtain rfl := q.inv
    obtain ⟨_, rfl⟩ := r.inv
    exact P.chr_of_int (by simp; omega) (hv _ _ (.str [i.toNat] _))
  | ord k =>
    obtain ⟨_, _, rfl, r, q⟩ := rs.inv
    obtain rfl := q.inv
    obtain ⟨_, rfl⟩ := r.inv
    exact P.ord_of_char (hv _ _ (.int _ _))
  | abs i =>
    obtain ⟨_, _, rfl, r, q⟩ := rs.inv
    obtain rfl := q.inv
    obtain ⟨_, rfl⟩ := r.inv
    exact call_abs_int fun u tk => hv _ _ (.int _ _)
  | int i =>
    obtain ⟨_, _, rfl, r, q⟩ := rs.inv
    obtain rfl := q.inv
    obtain ⟨_, rfl⟩ := r.inv
    exact call_int_int (hv _ _ (.int _ _))
  | bytes ns h hz =>
    obtain ⟨_, _, rfl, r, q⟩ := rs.inv
    · obtain rfl := q.inv
      obtain ⟨_, _, _, _, rfl, i, c1, d1, rr⟩ := r.inv
      · have hi := intsAre_of rr
        refine call_bytes_ints (i.list H hs c1 d1) hi h (by have := hi.length; rw [sizeLine_eq]; omega) K.room.hh fun h' t k hk => ?_
        exact hQ _ sl h' k (fun _ h => h) (S.keeps hk) (.bytes _ _)
  | range k =>
    cases rs with
    | cons r q =>
      cases q
      cases r
      refine call_range_1 ?_
      exact hQ _ ((s.heap.objs.size, _) :: sl) _ _ (fun p hp => List.mem_cons_of_mem _ hp) (S.push _) (.rng (.inl List.mem_cons_self))
end

theorem callWith_noref {M : Model} {A : Around} {E : Value → Shared → Prop} {s : Shared} {pos : Pos} {f : Value} {first : List Value} {args : List (Bool × Sem Value)} {Q : Value → Shared → Prop} (hf : keeperOf f = pure .machine) (hplain : args.any (·.1) = false)
    (h : wpAny M A (evalArgs f true args []) (fun a s₁ => wpAny M A (call f (first ++ a.pos) a.kw) Q E s₁) E s) :
    wpAny M A (callWith pos f first args []) Q E s := by
  unfold callWith
  refine wpAny_bind (wpAny_holding (wpAny_mono h (fun a s₁ h₁ => wpAny_bind (wpAny_standAt ?_)) fun _ _ x => x))
  simp only [hplain, List.any_nil, Bool.or_false]
  rw [hf]
  refine wpAny_bind (wpAny_pure ?_)
  exact wpAny_bind (wpAny_mono h₁ (fun r s₂ hr => wpAny_bind (wpAny_holding (wpAny_point (wpAny_pure hr)))) fun _ _ x => x)

section
variable {c : Cx} {σ : Sg} {n m : Nat} {Φ : AV → Sg → Prop} {pos : Pos}
@[reducible] noncomputable def bfnK (f : Value) (Φ : AV → Sg → Prop) : AV → Sg → Prop := fun a σ1 => ExR (BfnR f [a]) Φ σ1
theorem EV.bcall {x : Str} {p : Pos} {e : Expr} {f : Value} (K : CxOk c n) (g : nsIn (hd.heap_39 c.w.params) mainGlobals x = some Option.none) (hv : bootBuiltins x = some f) (hk : c.env.kindOf x = some .globalImplicit) (hf : keeperOf f = pure .machine)
    (h : EV c e σ (bfnK f Φ))
    (he : starEach [e] c.env = [(false, eval e c.env)] := by rfl) (hn : x ≠ "__name__" := by decide) (hx : (x == ("__debug__" : Str)) = false := by decide) : EV c (.Call (.Name x p) [e] [] pos) σ Φ := by
  intro sl s S Q hQ
  refine wpAny_Call_Name_kw (bname K S g hv hk ?_ hn hx)
  show wpAny _ _ (callWith pos f [] (backTo pos (starEach [e] c.env)) []) _ _ s
  rw [he]
  refine callWith_noref hf rfl (evalArgs_plain (spliced_cons (h sl s S _ fun v a σ1 sl1 h1 tk1 s1 S1 r k => spliced_nil ?_)))
  obtain ⟨d, B, k⟩ := k
  exact B.ok (s := { s with heap := h1, toks := tk1 }) K S1 (.one r) fun v sl' h' tk' s' S' r => hQ v d σ1 sl' h' tk' (fun p hp => s' p (s1 p hp)) S' r k

theorem fld_inst {h₀ h : Heap} {l sl : Led} {a d : Addr} {o : Obj} (H : Hp h₀ h l) (hs : ∀ p ∈ sl, p ∈ l) (h1 : (a, instObj 96 d) ∈ sl) (h2 : (d, o) ∈ sl) : InstAt h a (instObj 96 d) 96 (some o) :=
  ⟨H.get _ (hs _ h1), rfl, rfl, H.get _ (hs _ h2)⟩

@[reducible] noncomputable def fldK (F : List UInt8 → List UInt8 → Sg → Prop) : AV → Sg → Prop := fun a σ1 => FldE a F σ1
@[reducible] noncomputable def attrF (name : Str) (Φ : AV → Sg → Prop) : List UInt8 → List UInt8 → Sg → Prop := fun x y σ1 => Φ (.bytes (if name = "name" then x else y)) σ1
theorem EV.attr {o : Expr} {name : Str} (K : CxOk c n) (hn : name = "name" ∨ name = "raw") (h : EV c o σ (fldK (attrF name Φ)))
    (he : eval (.Attribute o name pos) c.env = (do
      let ov ← eval o c.env
      standAt pos.atName
      let r ← holding [ov] (getAttr ov name true)
      letTemporaryGo o ov r
      pure r) := by with_unfolding_all rfl)
    (hl : ∀ ov r, letTemporaryGo o ov r = pure () := by intro _ _; rfl) : EV c (.Attribute o name pos) σ Φ := by
  intro sl s S Q hQ
  rw [he]
  refine wpAny_bind (h sl s S _ fun v a σ' sl' h' tk' s' S' r k => ?_)
  obtain ⟨x, y, rfl, k⟩ := k
  cases r with
  | fld h1 h2 h3 =>
    obtain ⟨l, H⟩ := S'.hp
    have hs : ∀ p ∈ sl', p ∈ sl' ++ l := fun p hp => List.mem_append_left _ hp
    have X : (hd.heap_39 c.w.params).In h' := fun a o e => H.keep a o (K.bs.K a o e)
    obtain ⟨q1, q2, t1, t2, u1, u2, kk, rfl⟩ := h3
    have I := fld_inst H hs h1 h2
    refine wpAny_bind (wpAny_standAt (wpAny_bind (wpAny_holding ?_)))
    rcases hn with rfl | rfl
    · refine get_value (s := { s with heap := h', toks := tk' }) X I (by rfl) (findObj_own (attr := Option.none) (by rfl) (by rfl) (by rfl) (by rfl)) (by rfl) (wpAny_bind (wpAny_of_eq (hl _ _) (wpAny_pure ?_)))
      exact hQ _ _ σ' sl' h' _ s' S' (.bytes _ _) (by simpa [attrF] using k)
    · refine get_value (s := { s with heap := h', toks := tk' }) X I (by rfl) (findObj_own (attr := Option.none) (by rfl) (by rfl) (by rfl) (by rfl)) (by rfl) (wpAny_bind (wpAny_of_eq (hl _ _) (wpAny_pure ?_)))
      exact hQ _ _ σ' sl' h' _ s' S' (.bytes _ _) (by
        have hne : ¬ (("raw" : Str) = "name") := by decide
        simpa [attrF, hne] using k)
/-- a method of a Field, without arguments -/
theorem EV.meth {o : Expr} {name : Str} {apos : Pos} {f : Addr} {pl : Sem Bool} {oc : Value} {od : Option Addr} {fd : FuncData} {osl : Array (Option Value)} (K : CxOk c m)
    (hm : findIn (hd.heap_39 c.w.params) (.ref 96) name = some (some (.ref f))) (hg : ∀ n r h1 h2 t1 t2 u1 u2 k, shadowIn (some (dictOf [⟨h1, .str "name" t1, .bytes n u1⟩, ⟨h2, .str "raw" t2, .bytes r u2⟩] k)) name = some false)
    (hf : (hd.heap_39 c.w.params).lookup f = some ⟨oc, od, .func fd, osl⟩) (hty : typeIn (hd.heap_39 c.w.params) (.ref f) = some (.type "function"))
    (h : EV c o σ (fun a σ1 => ∃ x y n, a = .fld x y ∧ n ≤ m ∧ CALL c.prog c.w c.h₀ c.T f n [.fld x y] σ1.tp (fun a tp' => Φ a ⟨tp', σ1.ev⟩)))
    (he : eval (.Call (.Attribute o name apos) [] [] pos) c.env = (do
      let ov ← eval o c.env
      standAt apos.atName
      let (f, first) ← holding [ov] (getMethod ov name pl)
      callWith pos f first (backTo pos (starEach [] c.env)) []) := by with_unfolding_all rfl) : EV c (.Call (.Attribute o name apos) [] [] pos) σ Φ := by
  intro sl s S Q hQ
  refine MethodCall_ (h sl s S _ fun v a σ' sl' h' tk' s' S' r k => ?_) he
  obtain ⟨x, y, n, rfl, hnm, k⟩ := k
  have r0 := r
  cases r with
  | fld h1 h2 h3 =>
    obtain ⟨l, H⟩ := S'.hp
    have hs : ∀ p ∈ sl', p ∈ sl' ++ l := fun p hp => List.mem_append_left _ hp
    have X : (hd.heap_39 c.w.params).In h' := fun a o e => H.keep a o (K.bs.K a o e)
    obtain ⟨q1, q2, t1, t2, u1, u2, kk, rfl⟩ := h3
    have I := fld_inst H hs h1 h2
    refine method_fn (s := { s with heap := h', toks := tk' }) X I (by rfl) (by rfl) hm hty (hg _ _ _ _ _ _ _ _ _) ?_
    refine callWith_function (o := ⟨oc, od, .func fd, osl⟩) (fd := fd) (evalArgs_nil3 ⟨⟨X _ _ hf, rfl⟩, ?_⟩)
    exact k.use (s := { s with heap := h', toks := tk' }) K hnm S' (.one r0) fun v a σ'' sl'' h'' tk'' s'' S'' r k => hQ v a σ'' sl'' h'' tk'' (fun p hp => s'' p (s' p hp)) S'' r k
end
end Mine
namespace Mine
open PySem PySem.W PySem.Calls PyProof.Rows PyProof.Rows.LCg PySem.SeqAt
/-- an item -/
inductive ItemR : AV → AV → AV → Prop
  | bytes (b : List UInt8) (i : Int) (h0 : 0 ≤ i) (h1 : i < b.length) (h : b.length ≤ 16777216) : ItemR (.bytes b) (.int i) (.int (b.getD i.toNat 0).toNat)
  | lst (l : List AV) (i : Int) (d : AV) (h0 : 0 ≤ i) (h1 : i < 2 ^ 62) (h : l[i.toNat]? = some d) : ItemR (.lst l) (.int i) d
  | tup (l : List AV) (i : Int) (d : AV) (h0 : 0 ≤ i) (h1 : i < 2 ^ 62) (h : l[i.toNat]? = some d) : ItemR (.tup l) (.int i) d
/-- a cut -/
inductive CutR : AV → Option Int → Option Int → AV → Prop
  | bytes (b : List UInt8) (lo hi : Option Int) (h : b.length ≤ 16777216) : CutR (.bytes b) lo hi (.bytes ((b.drop (lo.elim 0 (clipAt b.length))).take (hi.elim b.length (clipAt b.length) - lo.elim 0 (clipAt b.length))))
  | lst (l : List AV) (lo hi : Option Int) (h : l.length ≤ 16777216) : CutR (.lst l) lo hi (.lst ((l.drop (lo.elim 0 (clipAt l.length))).take (hi.elim l.length (clipAt l.length) - lo.elim 0 (clipAt l.length))))

theorem isTup_of {h : Heap} {a : Addr} {vs : Array Value} {n : Nat} (e : h.get? a = some (tupOf vs n)) : IsTup h a vs := ⟨_, e, rfl, n, rfl⟩
theorem seqIndex_nat {k : Int} {n : Nat} (h0 : 0 ≤ k) (h1 : k < n) : seqIndex? k n = some k.toNat := by
  have hn : ¬ k < 0 := by omega
  simp [seqIndex?, hn, h0, h1]

section
variable {c : Cx} {σ : Sg} {n m : Nat} {Φ : AV → Sg → Prop} {pos : Pos}
theorem ItemR.ok {sl : Led} {s : Shared} {va vk : Value} {a k d : AV} {Q : Value → Shared → Prop} {E : Value → Shared → Prop} {value slice : Expr} (B : ItemR a k d) (S : St c σ sl s.heap) (ra : Rep c.h₀ c.T sl va a) (rk : Rep c.h₀ c.T sl vk k)
    (hs : ∀ o i, subscripted slice false o i = operate [o, i] (getItem o i)) (hQ : ∀ v tk, Rep c.h₀ c.T sl v d → Q v { s with toks := tk }) : wpAny (model c.prog c.w) c.A (subscriptTail value slice va vk) Q E s := by
  obtain ⟨l, H⟩ := S.hp
  have hsub : ∀ p ∈ sl, p ∈ sl ++ l := fun p hp => List.mem_append_left _ hp
  cases B with
  | bytes b i h0 h1 h =>
    obtain ⟨_, rfl⟩ := ra.inv
    obtain ⟨_, rfl⟩ := rk.inv
    exact tail_any (typeIs_bytes s _ _) FB.slot_bytes_getitem.lookup (getItem_bytes (by omega) h0 h1 (hQ _ _ (.int _ _))) (hs _ _)
  | lst ds i d h0 h1 h =>
    obtain ⟨_, rfl⟩ := rk.inv
    obtain ⟨_, _, _, _, rfl, j, c1, d1, r⟩ := ra.inv
    · obtain ⟨v, hv, rv⟩ := r.get h
      have hl := j.list H hsub c1 d1
      exact tail_any hl.typeIs slot_list_getitem.lookup (wpAny_getItem_list hl h0 (by omega) (by simpa using hv) (hQ _ s.toks rv)) (hs _ _)
  | tup ds i d h0 h1 h =>
    obtain ⟨_, rfl⟩ := rk.inv
    obtain ⟨_, _, _, rfl, j, r⟩ := ra.inv
    · obtain ⟨v, hv, rv⟩ := r.get h
      have hl := isTup_of (j.get H hsub)
      have hlen : i.toNat < ds.length := by
        rcases Nat.lt_or_ge i.toNat ds.length with h | h'
        · exact h
        · rw [List.getElem?_eq_none h'] at h; cases h
      exact item_tupleT hl (by omega) (by omega) (seqIndex_nat h0 (by have := r.length; simp; omega)) (by simpa using hv) (hQ _ s.toks rv) (hs _ _)

@[reducible] noncomputable def subK2 (a : AV) (Φ : AV → Sg → Prop) : AV → Sg → Prop := fun k σ2 => ExR (ItemR a k) Φ σ2
@[reducible] noncomputable def subK (c : Cx) (i : Expr) (Φ : AV → Sg → Prop) : AV → Sg → Prop := fun a σ1 => EV c i σ1 (subK2 a Φ)
theorem EV.sub {v i : Expr} (h : EV c v σ (subK c i Φ)) (hs : ∀ o k, subscripted i false o k = operate [o, k] (getItem o k) := by intro _ _; with_unfolding_all rfl) : EV c (.Subscript v i pos) σ Φ := by
  intro sl s S Q hQ
  refine Subscript_ (h sl s S _ fun va a σ1 sl1 h1 tk1 s1 S1 ra k => ?_)
  refine k sl1 { s with heap := h1, toks := tk1 } S1 _ fun vb b σ2 sl2 h2 tk2 s2 S2 rb k => ?_
  obtain ⟨d, B, hd⟩ := k
  exact B.ok (s := { s with heap := h2, toks := tk2 }) S2 (ra.mono s2) rb hs fun v tk r => hQ v d σ2 sl2 h2 tk (fun p hp => s2 p (s1 p hp)) S2 r hd

@[reducible] noncomputable def someF (Φ : Option Int → Sg → Prop) : Int → Sg → Prop := fun i σ => Φ (some i) σ
@[reducible] noncomputable def someK (Φ : Option Int → Sg → Prop) : AV → Sg → Prop := fun a σ1 => ExR (aInt a) (someF Φ) σ1
/-- a bound that may be left out -/
noncomputable def EVO (c : Cx) : Option Expr → Sg → (Option Int → Sg → Prop) → Prop
  | Option.none, σ, Φ => Φ Option.none σ
  | some e, σ, Φ => EV c e σ (someK Φ)
theorem EVO.ok {e : Option Expr} {Φ : Option Int → Sg → Prop} (h : EVO c e σ Φ) {sl : Led} {s : Shared} (S : St c σ sl s.heap) {Q : Value → Shared → Prop}
    (hQ : ∀ v i σ' sl' h' tk', (∀ p ∈ sl, p ∈ sl') → St c σ' sl' h' → IsPart v i → Φ i σ' → Q v { s with heap := h', toks := tk' }) : wpAny (model c.prog c.w) c.A (valueOrNone (evalOpt e c.env)) Q (fun _ _ => False) s := by
  cases e with
  | none => exact wpAny_pure (hQ .none Option.none σ sl s.heap s.toks (fun _ h => h) S .none h)
  | some e =>
    refine (show EV c e σ _ from h) sl s S Q fun v a σ' sl' h' tk' s' S' r k => ?_
    obtain ⟨i, rfl, k⟩ := k
    cases r
    exact hQ _ _ σ' sl' h' tk' s' S' (.int _ _) k

@[reducible] noncomputable def cutK3 (a : AV) (x : Option Int) (Φ : AV → Sg → Prop) : Option Int → Sg → Prop := fun y σ3 => ExR (CutR a x y) Φ σ3
@[reducible] noncomputable def cutK2 (c : Cx) (hi : Option Expr) (a : AV) (Φ : AV → Sg → Prop) : Option Int → Sg → Prop := fun x σ2 => EVO c hi σ2 (cutK3 a x Φ)
@[reducible] noncomputable def cutK (c : Cx) (lo hi : Option Expr) (Φ : AV → Sg → Prop) : AV → Sg → Prop := fun a σ1 => EVO c lo σ1 (cutK2 c hi a Φ)
theorem EV.cut {v : Expr} {lo hi : Option Expr} {p : Pos} (h : EV c v σ (cutK c lo hi Φ)) : EV c (.Subscript v (.Slice lo hi Option.none p) pos) σ Φ := by
  intro sl s S Q hQ
  refine Subscript_ (h sl s S _ fun va a σ1 sl1 h1 tk1 s1 S1 ra k => ?_)
  rw [arm_eval_Slice]
  refine wpAny_bind (k.ok (s := { s with heap := h1, toks := tk1 }) S1 fun vl x σ2 sl2 h2 tk2 s2 S2 pl k => ?_)
  refine wpAny_bind (wpAny_holding (k.ok (s := { s with heap := h2, toks := tk2 }) S2 fun vu y σ3 sl3 h3 tk3 s3 S3 pu k => ?_))
  refine wpAny_bind (wpAny_holding (wpAny_pure ?_))
  refine wpAny_newObj_type ?_ (by show (3 : Nat) ≤ sizeLine + 2; rw [sizeLine_eq]; decide)
  obtain ⟨d, B, hd⟩ := k
  have S4 : St c σ3 sl3 (h3.push { cls := .type "slice", data := .fields #[vl, vu, .none] }) := S3.keeps fun _ _ e => Heap.get?_push_of_some _ e
  have hslice : (h3.push { cls := .type "slice", data := .fields #[vl, vu, .none] }).IsSliceOf h3.objs.size vl vu .none := Heap.IsSliceOf.new _ _ _ _
  have ra3 := (ra.mono s2).mono s3
  have out : ∀ p ∈ sl, p ∈ sl3 := fun p hp => s3 p (s2 p (s1 p hp))
  cases B with
  | bytes b x y h =>
    cases ra3
    rename_i t
    refine tail_any (s := { s with heap := h3.push { cls := .type "slice", data := .fields #[vl, vu, .none] }, toks := tk3 }) (typeIs_bytes _ _ _) FB.slot_bytes_getitem.lookup (ops := [.ref h3.objs.size, .bytes b.toArray t])
      (getItem_meets (typeIs_bytes _ _ _) (by decide) FB.slot_bytes_getitem FB.entry_bytes_getitem (FB.args_bytes_getitem_2 _ _) (KBc.meets_slice2 b.toArray t _ pl pu) ⟨hslice, ?_, fun t' k => ?_⟩) rfl
    · exact Nat.le_trans (KBc.size_picked_le _ _ _) (by rw [sizeLine_eq]; simpa using h)
    · refine hQ _ _ σ3 sl3 _ k out S4 ?_ hd
      rw [KBc.picked_eq]
      simp only [List.size_toArray, List.toList_toArray]
      exact .bytes _ _
  | lst ds x y h =>
    cases ra3 with
    | lst j c1 d1 r =>
      obtain ⟨l, H⟩ := S4.hp
      have hl := j.list H (fun p hp => List.mem_append_left _ hp) c1 d1
      rename_i D o vs nn
      refine tail_any (s := { s with heap := h3.push { cls := .type "slice", data := .fields #[vl, vu, .none] }, toks := tk3 }) (ops := [.ref h3.objs.size, .ref D]) hl.typeIs slot_list_getitem.lookup
        (wpAny_getItem_list_slice hl hslice pl pu .none (fun e => nomatch e) ?_ (by have := r.length; rw [sizeLine_eq]; simp; omega)) rfl
      rw [slicePick_plain]
      have hlen := r.length
      simp only [List.size_toArray, List.toList_toArray, hlen]
      have hsub : ∀ p ∈ sl3, p ∈ ((h3.push { cls := .type "slice", data := .fields #[vl, vu, .none] }).objs.size, listOf ((List.take (y.elim ds.length (clipAt ds.length) - x.elim 0 (clipAt ds.length)) (List.drop (x.elim 0 (clipAt ds.length)) vs))).toArray 0) :: sl3 := fun p hp => List.mem_cons_of_mem _ hp
      exact hQ _ _ σ3 _ _ tk3 (fun p hp => hsub p (out p hp)) (S4.push _) (.lst (.inl List.mem_cons_self) rfl rfl (((r.drop _).take _).mono hsub)) hd
end

section
variable {c : Cx} {σ : Sg} {n m : Nat} {Φ : AV → Sg → Prop} {Φf : Fl → Sg → Prop} {pos : Pos}
theorem IsLst.eq {o : Obj} {ws : List Value} (h : IsLst o ws) : ∃ n, o = listOf ws.toArray n := by
  obtain ⟨hc, n, hd, h1, h2⟩ := h
  obtain ⟨oc, od, odd, os⟩ := o
  simp only at hc hd h1 h2
  subst hc hd h1 h2
  exact ⟨n, rfl⟩
theorem setL_get {h : Heap} {D : Addr} {o : Obj} {ws : List Value} {v : Value} {kk : Nat} (ho : h.get? D = some o) (hl : IsLst o ws) : ∃ n, (h.update D (Obj.mapSeq (·.setIfInBounds kk v))).get? D = some (listOf (ws.set kk v).toArray n) := by
  obtain ⟨n, rfl⟩ := hl.eq
  have q := PySem.IsL.update (h := h) (l := D) (items := ws.toArray) (n := n) ho (·.setIfInBounds kk v)
  have e : ws.toArray.setIfInBounds kk v = (ws.set kk v).toArray := by simp
  rw [e] at q
  exact ⟨_, q⟩
/-- the tape's cell of a number -/
noncomputable def cellT (t : Int × Int × Int) : Int → Option Int
  | 0 => some t.1
  | 1 => some t.2.1
  | 2 => some t.2.2
  | _ => none
noncomputable def setT (t : Int × Int × Int) (v : Int) : Int → Option (Int × Int × Int)
  | 0 => some (v, t.2.1, t.2.2)
  | 1 => some (t.1, v, t.2.2)
  | 2 => some (t.1, t.2.1, v)
  | _ => none
theorem EV.tape {v i : Expr} (h : EV c v σ (fun a σ1 => a = .tape ∧ EV c i σ1 (fun k σ2 => ∃ j t d, k = .int j ∧ σ2.tp = some t ∧ cellT t j = some d ∧ Φ (.int d) σ2))) (hs : ∀ o k, subscripted i false o k = operate [o, k] (getItem o k) := by intro _ _; with_unfolding_all rfl) : EV c (.Subscript v i pos) σ Φ := by
  intro sl s S Q hQ
  refine Subscript_ (h sl s S _ fun va a σ1 sl1 h1 tk1 s1 S1 ra k => ?_)
  obtain ⟨rfl, k⟩ := k
  cases ra
  refine k sl1 { s with heap := h1, toks := tk1 } S1 _ fun vb b σ2 sl2 h2 tk2 s2 S2 rb k => ?_
  obtain ⟨j, ⟨t0, t1, t2⟩, d, rfl, ht, hd, k⟩ := k
  cases rb
  have S2' := S2
  obtain ⟨tl, oD, op, mm, H, h1', h2', h3'⟩ := S2
  rw [ht] at h1'
  obtain ⟨u0, u1, u2, o, rfl, hc, nn, hdat, hdd, hss⟩ := h1'
  have hl : h2.IsList c.T [.int t0 u0, .int t1 u1, .int t2 u2].toArray := ⟨o, H.get (c.T, o) (by simp), hc, nn, hdat⟩
  have fin : ∀ u, Q (.int d u) { s with heap := h2, toks := tk2 } := fun u => hQ _ _ σ2 sl2 h2 tk2 (fun p hp => s2 p (s1 p hp)) S2' (.int d u) k
  refine tail_any (s := { s with heap := h2, toks := tk2 }) hl.typeIs slot_list_getitem.lookup ?_ (hs _ _)
  unfold cellT at hd
  split at hd <;> cases hd
  · exact wpAny_getItem_list (x := .int t0 u0) hl (by decide) (by decide) (by rfl) (fin _)
  · exact wpAny_getItem_list (x := .int t1 u1) hl (by decide) (by decide) (by rfl) (fin _)
  · exact wpAny_getItem_list (x := .int t2 u2) hl (by decide) (by decide) (by rfl) (fin _)

theorem EX.tape {o i e : Expr} {p : Pos} (h : EV c e σ (fun a σ1 => ∃ v, a = .int v ∧ EV c o σ1 (fun b σ2 => b = .tape ∧ EV c i σ2 (fun k σ3 => ∃ j t t', k = .int j ∧ σ3.tp = some t ∧ setT t v j = some t' ∧ Φf .nxt ⟨some t', σ3.ev⟩))))
    (hs : swapsWith e (some (.Subscript o i p)) pos.line c.env = pure false := by rfl) : EX c (.Assign [.Subscript o i p] e pos) σ Φf := by
  intro sl s S Q hQ
  refine wpAny_Assign_Subscript (h sl s S _ fun vv a σ1 sl1 h1 tk1 s1 S1 ra k => ?_) hs
  obtain ⟨v, rfl, k⟩ := k
  refine k sl1 { s with heap := h1, toks := tk1 } S1 _ fun vo b σ2 sl2 h2 tk2 s2 S2 rb k => ?_
  obtain ⟨rfl, k⟩ := k
  cases rb
  refine k sl2 { s with heap := h2, toks := tk2 } S2 _ fun vi b σ3 sl3 h3 tk3 s3 S3 ri k => ?_
  obtain ⟨j, ⟨t0, t1, t2⟩, t', rfl, ht, hd, k⟩ := k
  cases ri; cases ra
  rename_i ui uv
  obtain ⟨tl, oD, op, mm, H, h1', h2', h3'⟩ := S3
  rw [ht] at h1'
  obtain ⟨u0, u1, u2, o, rfl, hc, nn, hdat, hdd, hss⟩ := h1'
  have hl : h3.IsList c.T [.int t0 u0, .int t1 u1, .int t2 u2].toArray := ⟨o, H.get (c.T, o) (by simp), hc, nn, hdat⟩
  have go : ∀ (kk : Nat), j = (kk : Int) → kk < 3 → ∀ t'' : Int × Int × Int, (∃ w0 w1 w2, ([.int t0 u0, .int t1 u1, .int t2 u2] : List Value).set kk (.int v uv) = [.int t''.1 w0, .int t''.2.1 w1, .int t''.2.2 w2]) → Φf .nxt ⟨some t'', σ3.ev⟩ →
      wpAny (model c.prog c.w) c.A (setItem (.ref c.T) (.int j ui) (.int v uv)) (fun _ => Q .next) (fun _ _ => False) { s with heap := h3, toks := tk3 } := by
    rintro kk rfl hk t'' ⟨w0, w1, w2, hw⟩ hΦ
    obtain ⟨n', ho'⟩ := setL_get (v := .int v uv) (kk := kk) (H.get (c.T, o) (by simp)) ⟨hc, nn, hdat, hdd, hss⟩
    have ho : h3.get? c.T = some (listOf ([.int t0 u0, .int t1 u1, .int t2 u2] : List Value).toArray nn) := by
      have := H.get (c.T, o) (by simp)
      obtain ⟨oc, od, odd, os⟩ := o
      simp only at hc hdat hdd hss
      subst hc hdat hdd hss
      exact this
    refine ki_setAt ho (by omega) (by omega) (by simp; omega) ?_
    have H' := (show Hp c.h₀ h3 ((sl3 ++ (c.hid ++ (op ++ [(c.env.locals, oD)]))) ++ ((c.T, o) :: [])) by simpa [List.append_assoc] using H).setAt (Heap.SameBut.update ..) ho'
    refine hQ .next .nxt ⟨some t'', σ3.ev⟩ sl3 _ tk3 (fun p hp => s3 p (s2 p (s1 p hp))) ⟨[(c.T, _)], oD, op, mm, by simpa [List.append_assoc] using H', ⟨w0, w1, w2, _, rfl, rfl, n', ?_, rfl, rfl⟩, h2', h3'⟩ .nxt hΦ
    rw [hw]
  unfold setT at hd
  split at hd <;> cases hd
  · exact go 0 rfl (by decide) _ ⟨_, _, _, rfl⟩ k
  · exact go 1 rfl (by decide) _ ⟨_, _, _, rfl⟩ k
  · exact go 2 rfl (by decide) _ ⟨_, _, _, rfl⟩ k
end
end Mine
namespace Mine
open PySem PySem.W PySem.Calls PyProof.Rows PyProof.Rows.LCg PySem.SeqAt
theorem CxOk.hide {c : Cx} {n : Nat} (K : CxOk c n) (l : Led) : CxOk (c.withHid l) n := ⟨K.bs, K.room, K.kind, K.glob, K.blt, K.apart⟩
theorem hasV_hide {env : Env} {m : Str → Option Value} {op hid : Led} {p : Addr × Obj} {x : Str} {v : Value} (h : HasV env m (op ++ (p :: hid)) x v) (hp : ∀ w, p.2.data ≠ .cell w) : HasV env m (op ++ hid) x v := by
  rcases h with h | ⟨g1, k, o, g2, g3, g4⟩
  · exact .inl h
  · refine .inr ⟨g1, k, o, g2, ?_, g4⟩
    rcases List.mem_append.mp g3 with g3 | g3
    · exact List.mem_append_left _ g3
    · rcases List.mem_cons.mp g3 with g3 | g3
      · exact absurd g4 (by rw [show o = p.2 from by rw [← g3]]; exact hp _)
      · exact List.mem_append_right _ g3
theorem hasV_show {env : Env} {m : Str → Option Value} {op hid : Led} {p : Addr × Obj} {x : Str} {v : Value} (h : HasV env m (op ++ hid) x v) : HasV env m (op ++ (p :: hid)) x v := by
  rcases h with h | ⟨g1, k, o, g2, g3, g4⟩
  · exact .inl h
  · refine .inr ⟨g1, k, o, g2, ?_, g4⟩
    rcases List.mem_append.mp g3 with g3 | g3
    · exact List.mem_append_left _ g3
    · exact List.mem_append_right _ (List.mem_cons_of_mem _ g3)
theorem IsLst.noCell {o : Obj} {ws : List Value} (h : IsLst o ws) : ∀ w, o.data ≠ .cell w := fun w e => by
  obtain ⟨n, hd⟩ := h.seq
  rw [hd] at e; cases e

section
variable {c : Cx} {σ : Sg} {n : Nat} {sl : Led} {h h' : Heap} {x : Str} {D : Addr} {o o' : Obj} {l : List AV} {ws : List Value}
/-- an open list's name is pinned, the list laid aside -/
theorem St.pin (S : St c σ sl h) (hx : σ.ev x = some (.opn l)) :
    ∃ D o ws m, IsLst o ws ∧ RepAll c.h₀ c.T sl ws l ∧ c.env.kindOf x = some .local ∧ h.Ns c.env.locals m ∧ m x = some (.ref D) ∧ h.get? D = some o ∧ St { c with hid := (D, o) :: c.hid } (σ.set x (.pin D)) sl h := by
  obtain ⟨tl, oD, op, m, H, h1, h2, h3⟩ := S
  obtain ⟨D, ws, o, q1, q2, q3, q4, r⟩ := h3.opens x l hx
  refine ⟨D, o, ws, m, q4, r, q1, St.ns H h2, q2, H.get (D, o) (by simp [q3]), ?_⟩
  obtain ⟨o1, o2, rfl⟩ := List.append_of_mem q3
  have hp : (sl ++ (c.hid ++ ((o1 ++ (D, o) :: o2) ++ ((c.env.locals, oD) :: tl)))).Perm (sl ++ (((D, o) :: c.hid) ++ ((o1 ++ o2) ++ ((c.env.locals, oD) :: tl)))) := by
    have p1 := (List.perm_middle (a := (D, o)) (l₁ := c.hid ++ o1) (l₂ := o2 ++ ((c.env.locals, oD) :: tl)))
    have p2 := List.Perm.append_left sl p1
    simpa [List.append_assoc] using p2
  have inop : ∀ p : Addr × Obj, p ∈ o1 ++ (D, o) :: o2 → p ≠ (D, o) → p ∈ o1 ++ o2 := fun p hp hne => by
    rcases List.mem_append.mp hp with hp | hp
    · exact List.mem_append_left _ hp
    · rcases List.mem_cons.mp hp with hp | hp
      · exact absurd hp hne
      · exact List.mem_append_right _ hp
  refine ⟨tl, oD, o1 ++ o2, m, H.perm hp, h1, h2, ⟨fun y a e => ?_, fun y l' e => ?_, fun y D' e => ?_, fun y z l1 l2 e1 e2 => ?_, fun ho y kk e1 e2 => ?_⟩⟩
  · have hy : y ≠ x := by rintro rfl; simp [Sg.set] at e
    simp only [Sg.set, if_neg hy] at e
    obtain ⟨v, hv, rv⟩ := h3.vals y a e
    refine ⟨v, ?_, rv⟩
    rcases hv with hv | ⟨g1, kk, oo, g2, g3, g4⟩
    · exact .inl hv
    · refine .inr ⟨g1, kk, oo, g2, ?_, g4⟩
      rcases List.mem_append.mp g3 with g3 | g3
      · exact List.mem_append_left _ (inop _ g3 fun q => by cases q; exact q4.noCell _ g4)
      · exact List.mem_append_right _ (List.mem_cons_of_mem _ g3)
  · have hy : y ≠ x := by rintro rfl; simp [Sg.set] at e
    simp only [Sg.set, if_neg hy] at e
    obtain ⟨D', ws', k', g1, g2, g3, g, gr⟩ := h3.opens y l' e
    refine ⟨D', ws', k', g1, g2, inop _ g3 fun q => ?_, g, gr⟩
    cases q
    exact hy (h3.inj y x _ _ e hx (g2.trans q2.symm))
  · by_cases hy : y = x
    · subst hy
      simp only [Sg.set, if_true, Option.some.injEq, Slot.pin.injEq] at e
      subst e
      exact ⟨q1, q2⟩
    · simp only [Sg.set, if_neg hy] at e
      exact h3.pins y D' e
  · have hy : y ≠ x := by rintro rfl; simp [Sg.set] at e1
    have hz : z ≠ x := by rintro rfl; simp [Sg.set] at e2
    simp only [Sg.set, if_neg hy] at e1
    simp only [Sg.set, if_neg hz] at e2
    exact h3.inj y z l1 l2 e1 e2
  · obtain ⟨oo, v0, g1, g2⟩ := h3.cells ho y kk e1 e2
    exact ⟨oo, v0, inop _ g1 (fun q => by cases q; exact q4.noCell _ g2), g2⟩
theorem St.unpin (S : St { c with hid := (D, o) :: c.hid } σ sl h) (hx : σ.ev x = some (.pin D)) (hl : IsLst o ws) (r : RepAll c.h₀ c.T sl ws l) : St c (σ.set x (.opn l)) sl h := by
  obtain ⟨tl, oD, op, m, H, h1, h2, h3⟩ := S
  obtain ⟨q1, q2⟩ := h3.pins x D hx
  have hp : (sl ++ (((D, o) :: c.hid) ++ (op ++ ((c.env.locals, oD) :: tl)))).Perm (sl ++ (c.hid ++ (((D, o) :: op) ++ ((c.env.locals, oD) :: tl)))) := by
    have p1 := (List.perm_middle (a := (D, o)) (l₁ := c.hid) (l₂ := op ++ ((c.env.locals, oD) :: tl))).symm
    have p2 := List.Perm.append_left sl p1
    simpa [List.append_assoc] using p2
  have inop : ∀ y l', σ.ev y = some (.opn l') → m y ≠ some (.ref D) := fun y l' e q => by
    obtain ⟨D', ws', k', g1, g2, g3, g⟩ := h3.opens y l' e
    rw [q] at g2; cases g2
    have g3' : (D, k') ∈ op := g3
    exact (show Hp c.h₀ h ((sl ++ ((D, o) :: c.hid)) ++ (op ++ ((c.env.locals, oD) :: tl))) by simpa [List.append_assoc] using H).apart (p := (D, o)) (q := (D, k')) (by simp) (List.mem_append_left _ g3') rfl
  refine ⟨tl, oD, (D, o) :: op, m, H.perm hp, h1, h2, ⟨fun y a e => ?_, fun y l' e => ?_, fun y D' e => ?_, fun y z l1 l2 e1 e2 e3 => ?_, fun ho y kk e1 e2 => ?_⟩⟩
  · have hy : y ≠ x := by rintro rfl; simp [Sg.set] at e
    simp only [Sg.set, if_neg hy] at e
    obtain ⟨v, hv, rv⟩ := h3.vals y a e
    refine ⟨v, ?_, rv⟩
    have := hasV_hide (hp := hl.noCell) hv
    rcases this with g | ⟨g1, kk, oo, g2, g3, g4⟩
    · exact .inl g
    · refine .inr ⟨g1, kk, oo, g2, ?_, g4⟩
      rcases List.mem_append.mp g3 with g3 | g3
      · exact List.mem_append_left _ (List.mem_cons_of_mem _ g3)
      · exact List.mem_append_right _ g3
  · by_cases hy : y = x
    · subst hy
      simp only [Sg.set, if_true, Option.some.injEq, Slot.opn.injEq] at e
      subst e
      exact ⟨D, ws, o, q1, q2, by simp, hl, r⟩
    · simp only [Sg.set, if_neg hy] at e
      obtain ⟨D', ws', k', g1, g2, g3, g, gr⟩ := h3.opens y l' e
      exact ⟨D', ws', k', g1, g2, List.mem_cons_of_mem _ g3, g, gr⟩
  · have hy : y ≠ x := by rintro rfl; simp [Sg.set] at e
    simp only [Sg.set, if_neg hy] at e
    exact h3.pins y D' e
  · by_cases hy : y = x <;> by_cases hz : z = x
    · rw [hy, hz]
    · subst hy
      simp only [Sg.set, if_neg hz] at e2
      exact absurd (e3.symm.trans q2) (inop z l2 e2)
    · subst hz
      simp only [Sg.set, if_neg hy] at e1
      exact absurd (e3.trans q2) (inop y l1 e1)
    · simp only [Sg.set, if_neg hy] at e1
      simp only [Sg.set, if_neg hz] at e2
      exact h3.inj y z l1 l2 e1 e2 e3
  · obtain ⟨oo, v0, g1, g2⟩ := h3.cells ho y kk e1 e2
    exact ⟨oo, v0, List.mem_cons_of_mem _ g1, g2⟩
theorem St.hidGet (S : St { c with hid := (D, o) :: c.hid } σ sl h) : h.get? D = some o := by
  obtain ⟨tl, oD, op, m, H, h1, h2, h3⟩ := S
  exact H.get (D, o) (by simp)
theorem St.hidSet (S : St { c with hid := (D, o) :: c.hid } σ sl h) (hl : ∀ w, o.data ≠ .cell w) (hs : Heap.SameBut D h h') (ho : h'.get? D = some o') : St { c with hid := (D, o') :: c.hid } σ sl h' := by
  obtain ⟨tl, oD, op, m, H, h1, h2, h3⟩ := S
  have H' := (show Hp c.h₀ h (sl ++ ((D, o) :: (c.hid ++ (op ++ ((c.env.locals, oD) :: tl))))) by simpa using H).setAt hs ho
  refine ⟨tl, oD, op, m, by simpa using H', h1, h2, ⟨fun y a e => ?_, h3.opens, h3.pins, h3.inj, h3.cells⟩⟩
  obtain ⟨v, hv, rv⟩ := h3.vals y a e
  exact ⟨v, hasV_show (hasV_hide (hp := hl) hv), rv⟩
end

section
variable {c : Cx} {σ : Sg} {n m : Nat} {Φ : AV → Sg → Prop} {Φf : Fl → Sg → Prop} {pos : Pos}
theorem Expr_of {M : Model} {A : Around} {E : Value → Shared → Prop} {s : Shared} {env : Env} {e : Expr} {Q : Flow → Shared → Prop} (h : wpAny M A (eval e env) (fun v s' => match v with | .ref _ => False | _ => Q .next s') E s) (hk : env.scope.kind = .function) (hs : swapsWith e Option.none pos.line env = pure false := by rfl) :
    wpAny M A (exec (.Expr e pos) env) Q E s := wpAny_Expr h (by unfold interactive; rw [hk]; rfl) hs

@[reducible] noncomputable def appK (x : Str) (D : Addr) (l : List AV) (Φf : Fl → Sg → Prop) : AV → Sg → Prop := fun a σ' => σ'.ev x = some (.pin D) ∧ Φf .nxt (σ'.set x (.opn (l ++ [a])))
/-- «x.append(e)», x an open list's name -/
theorem EX.app {x : Str} {p apos cpos : Pos} {e : Expr} {l : List AV} {pl : Sem Bool} (K : CxOk c n) (hx : σ.ev x = some (.opn l)) (hz : l.length ≤ 1000000)
    (h : ∀ D hid, EV (c.withHid hid) e (σ.set x (.pin D)) (appK x D l Φf))
    (he : eval (.Call (.Attribute (.Name x p) "append" apos) [e] [] cpos) c.env = (do
      let ov ← eval (.Name x p) c.env
      standAt apos.atName
      let (f, first) ← holding [ov] (getMethod ov "append" pl)
      callWith cpos f first (backTo cpos (starEach [e] c.env)) []) := by with_unfolding_all rfl)
    (hst : starEach [e] c.env = [(false, eval e c.env)] := by rfl) (hd : (x == ("__debug__" : Str)) = false := by decide) :
    EX c (.Expr (.Call (.Attribute (.Name x p) "append" apos) [e] [] cpos) pos) σ Φf := by
  intro sl s S Q hQ
  obtain ⟨D, o, ws, mm, hl, r, hk, hns, hm, ho, S1⟩ := S.pin hx
  refine Expr_of (MethodCall_ (wpAny_Name (wpAny_loadName_local K.kind hk hns hm ?_) hd) he) K.kind
  obtain ⟨k, rfl⟩ := hl.eq
  refine getMethod_list_append ho rfl rfl ?_
  rw [hst]
  refine callWith_builtin (args := [(false, eval e c.env)]) rfl (evalArgs_plain (spliced_cons (h D ((D, listOf ws.toArray k) :: c.hid) sl s S1 _ fun v a σ' sl' h' tk' s' S' rv kk => spliced_nil ?_)))
  have ho' : h'.get? D = some (listOf ws.toArray k) := S'.hidGet
  have hlen := r.length
  refine append_at (s := { s with heap := h', toks := tk' }) ho' (fun h2 hs2 hg2 => ?_) (by rw [sizeLine_eq]; simp; omega)
  have e2 : ws.toArray.push v = (ws ++ [v]).toArray := by simp
  rw [e2] at hg2
  have S2 := S'.hidSet hl.noCell hs2 hg2
  exact hQ .next .nxt (σ'.set x (.opn (l ++ [a]))) sl' h2 tk' s' (S2.unpin kk.1 ⟨rfl, _, rfl, rfl, rfl⟩ ((r.mono s').append (.one rv))) .nxt kk.2

/-- the place in a list of an index -/
noncomputable def placeOf (n : Nat) (i : Int) : Nat := if i < 0 then (i + n).toNat else i.toNat
/-- «x[i]», x an open list's name -/
theorem EV.subO {x : Str} {p : Pos} {i : Expr} {l : List AV} (K : CxOk c n) (hx : σ.ev x = some (.opn l))
    (h : ∀ D hid, EV (c.withHid hid) i (σ.set x (.pin D)) (fun k σ' => σ'.ev x = some (.pin D) ∧ ∃ j d, k = .int j ∧ -(2 ^ 62) < j ∧ j < 2 ^ 62 ∧ -(l.length : Int) ≤ j ∧ l[placeOf l.length j]? = some d ∧ Φ d (σ'.set x (.opn l))))
    (hs : ∀ o k, subscripted i false o k = operate [o, k] (getItem o k) := by intro _ _; with_unfolding_all rfl) (hd : (x == ("__debug__" : Str)) = false := by decide) : EV c (.Subscript (.Name x p) i pos) σ Φ := by
  intro sl s S Q hQ
  obtain ⟨D, o, ws, mm, hl, r, hk, hns, hm, ho, S1⟩ := S.pin hx
  refine Subscript_ (wpAny_Name (wpAny_loadName_local K.kind hk hns hm ?_) hd)
  refine h D ((D, o) :: c.hid) sl s S1 _ fun v a σ' sl' h' tk' s' S' rv kk => ?_
  obtain ⟨hpin, j, d, rfl, j1, j2, j3, hj, hΦ⟩ := kk
  cases rv
  obtain ⟨k, rfl⟩ := hl.eq
  have hlst : h'.IsList D ws.toArray := ⟨_, S'.hidGet, rfl, k, rfl⟩
  have hlen := r.length
  obtain ⟨v, hv, rv⟩ := r.get hj
  have fin : Q v { s with heap := h', toks := tk' } := hQ v d (σ'.set x (.opn l)) sl' h' tk' s' (S'.unpin hpin hl (r.mono s')) (rv.mono s') hΦ
  refine tail_any (s := { s with heap := h', toks := tk' }) hlst.typeIs slot_list_getitem.lookup ?_ (hs _ _)
  unfold placeOf at hv
  split at hv
  · exact wpAny_getItem_list_neg hlst (by omega) (by simp; omega) (by omega) (by simpa [hlen] using hv) fin
  · exact wpAny_getItem_list hlst (by omega) (by omega) (by simpa using hv) fin

/-- «x[i] = e», x an open list's name -/
theorem EX.setO {x : Str} {p ip : Pos} {i e : Expr} (K : CxOk c n)
    (h : EV c e σ (fun a σ1 => ∃ l, σ1.ev x = some (.opn l) ∧ ∀ D hid, EV (c.withHid hid) i (σ1.set x (.pin D)) (fun k σ' => σ'.ev x = some (.pin D) ∧ ∃ j, k = .int j ∧ -(2 ^ 62) < j ∧ j < 2 ^ 62 ∧ -(l.length : Int) ≤ j ∧ j < (l.length : Int) ∧ Φf .nxt (σ'.set x (.opn (l.set (placeOf l.length j) a))))))
    (hs : swapsWith e (some (.Subscript (.Name x p) i ip)) pos.line c.env = pure false := by rfl) (hd : (x == ("__debug__" : Str)) = false := by decide) : EX c (.Assign [.Subscript (.Name x p) i ip] e pos) σ Φf := by
  intro sl s S Q hQ
  refine wpAny_Assign_Subscript (h sl s S _ fun va a σ1 sl1 h1 tk1 s1 S1 ra k => ?_) hs
  obtain ⟨l, hx, h⟩ := k
  obtain ⟨D, o, ws, mm, hl, r, hk, hns, hm, ho, S1'⟩ := S1.pin hx
  refine wpAny_Name (wpAny_loadName_local K.kind hk hns hm ?_) hd
  refine h D ((D, o) :: c.hid) sl1 { s with heap := h1, toks := tk1 } S1' _ fun v b σ' sl' h' tk' s' S' rv kk => ?_
  obtain ⟨hpin, j, rfl, j1, j2, j3, j4, hΦ⟩ := kk
  cases rv
  obtain ⟨k, rfl⟩ := hl.eq
  have hlen := r.length
  have fin : ∀ kk : Nat, kk = placeOf l.length j → Q .next { s with heap := h'.update D (Obj.mapSeq (·.setIfInBounds kk va)), toks := tk' } := by
    rintro kk rfl
    obtain ⟨n', hg⟩ := setL_get (v := va) (kk := placeOf l.length j) S'.hidGet hl
    exact hQ .next .nxt (σ'.set x (.opn (l.set (placeOf l.length j) a))) sl' _ tk' (fun p hp => s' p (s1 p hp)) ((S'.hidSet hl.noCell (Heap.SameBut.update ..) hg).unpin hpin ⟨rfl, _, rfl, rfl, rfl⟩ ((r.mono s').set _ (ra.mono s'))) .nxt hΦ
  by_cases hj : j < 0
  · refine ki_setBack (s := { s with heap := h', toks := tk' }) S'.hidGet hj (by simp; omega) (by omega) (fin _ ?_)
    simp [placeOf, hj, hlen]
  · refine ki_setAt (s := { s with heap := h', toks := tk' }) S'.hidGet (by omega) (by omega) (by simp; omega) (fin _ ?_)
    simp [placeOf, hj]
end
end Mine
namespace Mine
open PySem PySem.W PySem.Calls PyProof.Rows PyProof.Rows.LCg PySem.SeqAt
noncomputable def NoCell (W : Led) : Prop := ∀ p ∈ W, ∀ v, p.2.data ≠ .cell v
theorem hasV_hideW {env : Env} {m : Str → Option Value} {op hid : Led} {x : Str} {v : Value} : ∀ {W : Led}, HasV env m (op ++ (W ++ hid)) x v → NoCell W → HasV env m (op ++ hid) x v
  | [], h, _ => h
  | p :: W, h, hn => hasV_hideW (W := W) (hasV_hide (p := p) h (hn p (.head _))) fun q hq => hn q (.tail _ hq)
theorem hasV_showW {env : Env} {m : Str → Option Value} {op hid : Led} {x : Str} {v : Value} : ∀ {W : Led}, HasV env m (op ++ hid) x v → HasV env m (op ++ (W ++ hid)) x v
  | [], h => h
  | p :: W, h => hasV_show (hasV_showW (W := W) h)

namespace Hp
variable {h₀ h h' : Heap} {l₁ l₂ W W' : Led}
theorem mid (H : Hp h₀ h (l₁ ++ (W ++ l₂))) : Hp h₀ h (W ++ (l₁ ++ l₂)) := H.perm (by
  have := List.Perm.append_right l₂ (List.perm_append_comm (l₁ := l₁) (l₂ := W))
  simpa [List.append_assoc] using this)
theorem mid' (H : Hp h₀ h (W ++ (l₁ ++ l₂))) : Hp h₀ h (l₁ ++ (W ++ l₂)) := H.perm (by
  have := List.Perm.append_right l₂ (List.perm_append_comm (l₁ := W) (l₂ := l₁))
  simpa [List.append_assoc] using this)
/-- of a part of the ledger the objects change; all else stands -/
theorem butW (H : Hp h₀ h (l₁ ++ (W ++ l₂))) (hk : ∀ b o, b ∉ W.map (·.1) → h.get? b = some o → h'.get? b = some o) (hm : W'.map (·.1) = W.map (·.1)) (hg : ∀ p ∈ W', h'.get? p.1 = some p.2) : Hp h₀ h' (l₁ ++ (W' ++ l₂)) := by
  have H1 := H.mid
  refine mid' ⟨fun b o e => hk b o (fun hb => ?_) (H1.keep b o e), fun p hp => ?_, fun p hp => ?_, ?_⟩
  · obtain ⟨p, hp, rfl⟩ := List.mem_map.mp hb
    have := H1.new p (List.mem_append_left _ hp)
    rw [this] at e; cases e
  · rcases List.mem_append.mp hp with hp | hp
    · exact hg p hp
    · refine hk _ _ (fun hb => ?_) (H1.get p (List.mem_append_right _ hp))
      obtain ⟨q, hq, e⟩ := List.mem_map.mp hb
      exact H1.apart hq hp e
  · rcases List.mem_append.mp hp with hp | hp
    · have : p.1 ∈ W.map (·.1) := hm ▸ List.mem_map_of_mem hp
      obtain ⟨q, hq, e⟩ := List.mem_map.mp this
      rw [← e]; exact H1.new q (List.mem_append_left _ hq)
    · exact H1.new p (List.mem_append_right _ hp)
  · have := H1.nd
    rw [List.map_append] at this ⊢
    rw [hm]; exact this
theorem dropW (H : Hp h₀ h (l₁ ++ (W ++ l₂))) (hk : ∀ b o, b ∉ W.map (·.1) → h.get? b = some o → h'.get? b = some o) : Hp h₀ h' (l₁ ++ l₂) := by
  have H1 := H.mid
  refine ⟨fun b o e => hk b o (fun hb => ?_) (H1.keep b o e), fun p hp => ?_, fun p hp => H1.new p (List.mem_append_right _ hp), ?_⟩
  · obtain ⟨p, hp, rfl⟩ := List.mem_map.mp hb
    have := H1.new p (List.mem_append_left _ hp)
    rw [this] at e; cases e
  · refine hk _ _ (fun hb => ?_) (H1.get p (List.mem_append_right _ hp))
    obtain ⟨q, hq, e⟩ := List.mem_map.mp hb
    exact H1.apart hq hp e
  · exact (H1.sub (List.sublist_append_right _ _)).nd
end Hp

/-- what is left of a walk: the items, and the walkers' objects -/
noncomputable def WKR (prog : Program) (w : World) (A : Around) (h₀ : Heap) (T : Addr) (tgt : Expr) (it : Value) : List AV → Led → Led → Prop
  | [], sl, W => ∀ (sl' rest : Led) (s : Shared), (∀ p ∈ sl, p ∈ sl') → Hp h₀ s.heap (sl' ++ (W ++ rest)) → ∀ (Q : Option Value → Shared → Prop) (E : Value → Shared → Prop),
      (∀ h' tk', Hp h₀ h' (sl' ++ rest) → Q none { s with heap := h', toks := tk' }) → wpAny (model prog w) A (pyNext it) Q E s
  | d :: l, sl, W => ∀ (sl' rest : Led) (s : Shared), (∀ p ∈ sl, p ∈ sl') → Hp h₀ s.heap (sl' ++ (W ++ rest)) → ∀ (Q : Value → Shared → Prop) (E : Value → Shared → Prop),
      (∀ v W' sl'' h' tk', (∀ p ∈ sl', p ∈ sl'') → Hp h₀ h' (sl'' ++ (W' ++ rest)) → NoCell W' → Rep h₀ T sl'' v d → WKR prog w A h₀ T tgt it l sl'' W' → Q v { s with heap := h', toks := tk' }) →
      wpAny (model prog w) A (pyNext it) (fun r s₁ => match r with | none => False | some v => wpAny (model prog w) A (letOwnedTupleGo tgt it v) (fun _ s₂ => Q v s₂) E s₁) E s
noncomputable def SELF (prog : Program) (w : World) (A : Around) (h₀ : Heap) (it : Value) (sl W : Led) : Prop :=
  ∀ (sl' rest : Led) (s : Shared), (∀ p ∈ sl, p ∈ sl') → Hp h₀ s.heap (sl' ++ (W ++ rest)) → ∀ (Q : Value → Shared → Prop) (E : Value → Shared → Prop), Q it s → wpAny (model prog w) A (pyIter it) Q E s

section
variable {prog : Program} {w : World} {A : Around} {h₀ : Heap} {T : Addr} {tgt : Expr} {I : Addr} {fp : List Addr} {n : Nat} {P : Nat → Value → Prop} {Wst : Nat → Heap → Prop} {sl₀ : Led} {items : List AV}
theorem walks_st (W : Walks prog w A I fp [I] n P Wst) (hfp : ∀ b ∈ fp, b ≠ I → ∃ o, InL h₀ sl₀ b o) {i : Nat} {h : Heap} {oI : Obj} (st : Wst i h) (hI : h.get? I = some oI) (hin : ∀ b o, InL h₀ sl₀ b o → h.get? b = some o)
    {sl' rest : Led} {h' : Heap} (hs : ∀ p ∈ sl₀, p ∈ sl') (H : Hp h₀ h' (sl' ++ ([(I, oI)] ++ rest))) : Wst i h' := by
  refine W.frame i h h' st fun b hb o e => ?_
  by_cases hbI : b = I
  · subst hbI
    rw [hI] at e; cases e
    exact H.get (b, oI) (by simp)
  · obtain ⟨o', ho'⟩ := hfp b hb hbI
    rw [hin b o' ho'] at e; cases e
    exact (ho'.mono hs).get H fun p hp => List.mem_append_left _ hp
theorem WKR.walks (W : Walks prog w A I fp [I] n P Wst) (hfp : ∀ b ∈ fp, b ≠ I → ∃ o, InL h₀ sl₀ b o) (hIo : ∀ i h, Wst i h → ∃ o, h.get? I = some o ∧ ∀ v, o.data ≠ .cell v)
    (hgo : ∀ i v (s : Shared) (Q : Unit → Shared → Prop) (E : Value → Shared → Prop), Wst i s.heap → Q () s → wpAny (model prog w) A (letOwnedTupleGo tgt (.ref I) v) Q E s) (hn : items.length = n)
    (hP : ∀ i v d, P i v → items[i]? = some d → Rep h₀ T sl₀ v d) :
    ∀ (l : List AV) (i : Nat), items.drop i = l → i ≤ n → ∀ (h : Heap) (oI : Obj) (sl : Led), (∀ p ∈ sl₀, p ∈ sl) → Wst i h → h.get? I = some oI → (∀ b o, InL h₀ sl₀ b o → h.get? b = some o) → WKR prog w A h₀ T tgt (.ref I) l sl [(I, oI)]
  | [], i, hl, hi, h, oI, sl, hsl, st, hI, hin => by
    have hin' : i = n := by
      have := congrArg List.length hl
      simp at this; omega
    subst hin'
    intro sl' rest s hs H Q E hQ
    have st' := walks_st W hfp st hI hin (fun p hp => hs p (hsl p hp)) H
    exact W.done s Q E st' fun h' tk hk => hQ h' tk (H.dropW fun b o hb e => hk b o (by simpa using hb) e)
  | d :: l, i, hl, hi, h, oI, sl, hsl, st, hI, hin => by
    have hlt : i < n := by
      have := congrArg List.length hl
      simp at this; omega
    have hd : items[i]? = some d := by
      have := congrArg (·[0]?) hl
      simpa using this
    have hl' : items.drop (i + 1) = l := by
      have := congrArg List.tail hl
      simpa using this
    intro sl' rest s hs H Q E hQ
    have st' := walks_st W hfp st hI hin (fun p hp => hs p (hsl p hp)) H
    refine W.item i s _ E hlt st' fun v h' tk hPv st2 hk => ?_
    refine hgo (i + 1) v { s with heap := h', toks := tk } _ E st2 ?_
    obtain ⟨oI', hI', hc'⟩ := hIo _ _ st2
    have H' : Hp h₀ h' (sl' ++ ([(I, oI')] ++ rest)) := H.butW (fun b o hb e => hk b o (by simpa using hb) e) rfl fun p hp => by
      rw [List.mem_singleton.mp hp]; exact hI'
    refine hQ v [(I, oI')] sl' h' tk (fun p hp => hp) H' (fun p hp => by rw [List.mem_singleton.mp hp]; exact hc') ((hP i v d hPv hd).mono fun p hp => hs p (hsl p hp)) ?_
    exact WKR.walks W hfp hIo hgo hn hP l (i + 1) hl' hlt h' oI' sl' (fun p hp => hs p (hsl p hp)) st2 hI' fun b o hb => (hb.mono fun p hp => hs p (hsl p hp)).get H' fun p hp => List.mem_append_left _ hp
theorem SELF.walks (W : Walks prog w A I fp [I] n P Wst) (hfp : ∀ b ∈ fp, b ≠ I → ∃ o, InL h₀ sl₀ b o) {h : Heap} {oI : Obj} (st : Wst 0 h) (hI : h.get? I = some oI) (hin : ∀ b o, InL h₀ sl₀ b o → h.get? b = some o) : SELF prog w A h₀ (.ref I) sl₀ [(I, oI)] :=
  fun sl' rest s hs H Q E hQ => W.self 0 s Q E (walks_st W hfp st hI hin hs H) hQ
end

/-- what a loop walks over -/
inductive IterR : AV → List AV → Prop
  | lst (l : List AV) : IterR (.lst l) l
  | tup (l : List AV) : IterR (.tup l) l
  | bytes (b : List UInt8) : IterR (.bytes b) (b.map fun c => .int (c.toNat : Int))
  | str (x : List Nat) : IterR (.str x) (x.map fun c => .str [c])
  | rng (n : Nat) (h : n ≤ 1000000) : IterR (.rng n) ((List.range n).map fun i : Nat => AV.int (i : Int))
noncomputable def AV.isLst : AV → Bool
  | .lst _ => true
  | _ => false
noncomputable def goesBy (tgt : Expr) (a : AV) : Bool := match tgt with
  | .Name .. => true
  | .Tuple .. => a.isLst
  | _ => false

theorem St.pushHid {c : Cx} {σ : Sg} {sl : Led} {h : Heap} (S : St c σ sl h) (o : Obj) (hf : o.isFreed = false := by rfl) : St { c with hid := [(h.objs.size, o)] ++ c.hid } σ sl (h.push o) := by
  obtain ⟨tl, oD, op, m, H, h1, h2, h3⟩ := S
  refine ⟨tl, oD, op, m, (H.push o hf).perm ?_, h1, h2, ⟨fun y b e => ?_, h3.opens, h3.pins, h3.inj, h3.cells⟩⟩
  · have := (List.perm_middle (a := (h.objs.size, o)) (l₁ := sl) (l₂ := c.hid ++ (op ++ ((c.env.locals, oD) :: tl)))).symm
    simpa using this
  · obtain ⟨u, hu, ru⟩ := h3.vals y b e
    exact ⟨u, hasV_show hu, ru⟩

noncomputable def ITR (c : Cx) (e tgt : Expr) (σ : Sg) (Φ : List AV → Sg → Prop) : Prop :=
  ∀ (sl : Led) (s : Shared), St c σ sl s.heap → ∀ Q : Value → Shared → Prop,
    (∀ it W items σ' sl' h' tk', (∀ p ∈ sl, p ∈ sl') → St { c with hid := W ++ c.hid } σ' sl' h' → NoCell W → SELF c.prog c.w c.A c.h₀ it sl' W → WKR c.prog c.w c.A c.h₀ c.T tgt it items sl' W → Φ items σ' → Q it { s with heap := h', toks := tk' }) →
    wpAny (model c.prog c.w) c.A (eval e c.env) (fun xv s₁ => wpAny (model c.prog c.w) c.A (pyIter xv) Q (fun _ _ => False) s₁) (fun _ _ => False) s

theorem go_name {x : Str} {p : Pos} {it v : Value} : letOwnedTupleGo (.Name x p) it v = pure () := rfl
theorem go_list {prog : Program} {w : World} {A : Around} {tgt : Expr} {l : List AV} {I ax : Addr} {i : Nat} {v : Value} {s : Shared} {Q : Unit → Shared → Prop} {E : Value → Shared → Prop} (hg : goesBy tgt (.lst l) = true) (h : s.heap.IsListIter I ax i) (hQ : Q () s) : wpAny (model prog w) A (letOwnedTupleGo tgt (.ref I) v) Q E s := by
  cases tgt with
  | Name x p => exact wpAny_pure hQ
  | Tuple es k p =>
    cases v with
    | ref b => exact wpAny_letOwnedTupleGo_listiter h hQ
    | _ => exact wpAny_pure hQ
  | _ => cases hg
theorem go_other {prog : Program} {w : World} {A : Around} {tgt : Expr} {a : AV} {it v : Value} {s : Shared} {Q : Unit → Shared → Prop} {E : Value → Shared → Prop} (hg : goesBy tgt a = true) (ha : a.isLst = false) (hQ : Q () s) : wpAny (model prog w) A (letOwnedTupleGo tgt it v) Q E s := by
  cases tgt with
  | Name x p => exact wpAny_pure hQ
  | Tuple es k p => rw [show goesBy (.Tuple es k p) a = a.isLst from rfl, ha] at hg; cases hg
  | _ => cases hg

theorem Heap.size_fresh {h : Heap} {a : Addr} {o : Obj} (e : h.get? a = some o) : a ≠ h.objs.size := Nat.ne_of_lt (Heap.lt_size e)

theorem IterR.ok {c : Cx} {n : Nat} {σ : Sg} {sl : Led} {s : Shared} {tgt : Expr} {v : Value} {a : AV} {items : List AV} {E : Value → Shared → Prop} (K : CxOk c n) (B : IterR a items) (hg : goesBy tgt a = true) (S : St c σ sl s.heap) (r : Rep c.h₀ c.T sl v a) {Q : Value → Shared → Prop}
    (hQ : ∀ it W h' tk', St { c with hid := W ++ c.hid } σ sl h' → NoCell W → SELF c.prog c.w c.A c.h₀ it sl W → WKR c.prog c.w c.A c.h₀ c.T tgt it items sl W → Q it { s with heap := h', toks := tk' }) : wpAny (model c.prog c.w) c.A (pyIter v) Q E s := by
  obtain ⟨ll, H⟩ := S.hp
  have hs : ∀ p ∈ sl, p ∈ sl ++ ll := fun p hp => List.mem_append_left _ hp
  have hh := K.room.hh
  have hin : ∀ (o : Obj) b o', InL c.h₀ sl b o' → (s.heap.push o).get? b = some o' := fun o b o' i => Heap.get?_push_of_some _ (i.get H hs)
  cases B with
  | lst ds =>
    cases r with
    | lst i c1 d1 r =>
      rename_i ax o vs nn
      have hl := i.list H hs c1 d1
      have hlt := Heap.size_fresh (i.get H hs)
      refine wpAny_pyIter_list hl ?_
      have W := Walks.list (prog := c.prog) (w := c.w) hh s.heap.objs.size ax hlt vs.toArray
      have fpb : ∀ b ∈ [s.heap.objs.size, ax], b ≠ s.heap.objs.size → ∃ o, InL c.h₀ sl b o := fun b hb hne => by
        simp only [List.mem_cons, List.not_mem_nil, or_false] at hb
        rcases hb with rfl | rfl
        · exact absurd rfl hne
        · exact ⟨_, i⟩
      have st : (s.heap.push { cls := .type "list_iterator", data := .fields #[.ref ax, .int 0 0] }).IsListIter s.heap.objs.size ax 0 ∧ (s.heap.push { cls := .type "list_iterator", data := .fields #[.ref ax, .int 0 0] }).IsList ax vs.toArray :=
        ⟨⟨_, Heap.get?_push_size _ rfl, rfl, rfl⟩, hl.push _⟩
      refine hQ _ _ _ s.toks (S.pushHid _) (fun p hp => by rw [List.mem_singleton.mp hp]; exact fun v e => nomatch e) (SELF.walks W fpb st (Heap.get?_push_size _ rfl) (hin _))
        (WKR.walks W fpb (fun i h st => ?_) (fun i v s Q E st hQ => go_list hg st.1 hQ) (by have := r.length; simp [this]) (fun i v d e hd => ?_) _ 0 rfl (Nat.zero_le _) _ _ sl (fun _ h => h) st (Heap.get?_push_size _ rfl) (hin _))
      · obtain ⟨o, ho, hc, hd⟩ := st.1
        exact ⟨o, ho, fun v e => by rw [hd] at e; cases e⟩
      · obtain ⟨u, hu, ru⟩ := r.get hd
        have : u = v := by
          have e' : vs[i]? = some v := by simpa using e
          rw [hu] at e'; exact Option.some.inj e'
        rw [← this]; exact ru
  | tup ds =>
    cases r with
    | tup i r =>
      rename_i ax vs nn
      have hl := i.tuple H hs
      have hlt := Heap.size_fresh (i.get H hs)
      refine wpAny_pyIter_tuple hl ?_
      have W := Walks.tuple (prog := c.prog) (w := c.w) hh s.heap.objs.size ax hlt vs.toArray
      have fpb : ∀ b ∈ [s.heap.objs.size, ax], b ≠ s.heap.objs.size → ∃ o, InL c.h₀ sl b o := fun b hb hne => by
        simp only [List.mem_cons, List.not_mem_nil, or_false] at hb
        rcases hb with rfl | rfl
        · exact absurd rfl hne
        · exact ⟨_, i⟩
      have st : (s.heap.push { cls := .type "tuple_iterator", data := .fields #[.ref ax, .int 0 0] }).IsTupleIter s.heap.objs.size ax 0 ∧ (s.heap.push { cls := .type "tuple_iterator", data := .fields #[.ref ax, .int 0 0] }).IsTuple ax vs.toArray :=
        ⟨⟨_, Heap.get?_push_size _ rfl, rfl, rfl⟩, hl.push _⟩
      refine hQ _ _ _ s.toks (S.pushHid _) (fun p hp => by rw [List.mem_singleton.mp hp]; exact fun v e => nomatch e) (SELF.walks W fpb st (Heap.get?_push_size _ rfl) (hin _))
        (WKR.walks W fpb (fun i h st => ?_) (fun i v s Q E st hQ => go_other hg rfl hQ) (by have := r.length; simp [this]) (fun i v d e hd => ?_) _ 0 rfl (Nat.zero_le _) _ _ sl (fun _ h => h) st (Heap.get?_push_size _ rfl) (hin _))
      · obtain ⟨o, ho, hc, hd⟩ := st.1
        exact ⟨o, ho, fun v e => by rw [hd] at e; cases e⟩
      · obtain ⟨u, hu, ru⟩ := r.get hd
        have : u = v := by
          have e' : vs[i]? = some v := by simpa using e
          rw [hu] at e'; exact Option.some.inj e'
        rw [← this]; exact ru
  | bytes b =>
    cases r
    rename_i t
    refine KBw.pyIter_bytes ?_
    have W := KBw.walks (prog := c.prog) (w := c.w) hh s.heap.objs.size b.toArray t
    have fpb : ∀ b ∈ [s.heap.objs.size], b ≠ s.heap.objs.size → ∃ o, InL c.h₀ sl b o := fun b hb hne => absurd (List.mem_singleton.mp hb) hne
    have st : KBw.IsBytesIter (s.heap.push { cls := .type "bytes_iterator", data := .fields #[.bytes b.toArray t, .int 0 0] }) s.heap.objs.size b.toArray t 0 := ⟨_, Heap.get?_push_size _ rfl, rfl, rfl⟩
    refine hQ _ _ _ s.toks (S.pushHid _) (fun p hp => by rw [List.mem_singleton.mp hp]; exact fun v e => nomatch e) (SELF.walks W fpb st (Heap.get?_push_size _ rfl) (hin _))
      (WKR.walks W fpb (fun i h st => ?_) (fun i v s Q E st hQ => go_other hg rfl hQ) (by simp) (fun i v d e hd => ?_) _ 0 rfl (Nat.zero_le _) _ _ sl (fun _ h => h) st (Heap.get?_push_size _ rfl) (hin _))
    · obtain ⟨o, ho, hc, hd⟩ := st
      exact ⟨o, ho, fun v e => by rw [hd] at e; cases e⟩
    · obtain ⟨k, u, e1, rfl⟩ := e
      have e2 : b[i]? = some k := by simpa using e1
      rw [List.getElem?_map, e2] at hd
      cases hd
      exact .int _ _
  | str x =>
    cases r
    rename_i t
    have fpb : ∀ b ∈ [s.heap.objs.size], b ≠ s.heap.objs.size → ∃ o, InL c.h₀ sl b o := fun b hb hne => absurd (List.mem_singleton.mp hb) hne
    have hP : ∀ i v d, SignAt ⟨x.toArray⟩ i v → (x.map fun k => AV.str [k])[i]? = some d → Rep c.h₀ c.T sl v d := fun i v d e hd => by
      obtain ⟨k, u, e1, rfl⟩ := e
      have e2 : x[i]? = some k := by simpa using e1
      rw [List.getElem?_map, e2] at hd
      cases hd
      exact .str [k] u
    cases ha : (PySem.Str.mk x.toArray).cps.all (· < 128)
    · refine wpAny_pyIter_wide ha ?_
      have W := Walks.strWide (prog := c.prog) (w := c.w) hh s.heap.objs.size ⟨x.toArray⟩ t
      have st : (s.heap.push { cls := .type "str_iterator", data := .fields #[.str ⟨x.toArray⟩ t, .int 0 0] }).IsStrIter s.heap.objs.size "str_iterator" ⟨x.toArray⟩ t 0 := ⟨_, Heap.get?_push_size _ rfl, rfl, rfl⟩
      refine hQ _ _ _ s.toks (S.pushHid _) (fun p hp => by rw [List.mem_singleton.mp hp]; exact fun v e => nomatch e) (SELF.walks W fpb st (Heap.get?_push_size _ rfl) (hin _))
        (WKR.walks W fpb (fun i h st => ?_) (fun i v s Q E st hQ => go_other hg rfl hQ) (by simp) hP _ 0 rfl (Nat.zero_le _) _ _ sl (fun _ h => h) st (Heap.get?_push_size _ rfl) (hin _))
      obtain ⟨o, ho, hc, hd⟩ := st
      exact ⟨o, ho, fun v e => by rw [hd] at e; cases e⟩
    · refine wpAny_pyIter_ascii ha ?_
      have W := Walks.strAscii (prog := c.prog) (w := c.w) hh s.heap.objs.size ⟨x.toArray⟩ t
      have st : (s.heap.push { cls := .type "str_ascii_iterator", data := .fields #[.str ⟨x.toArray⟩ t, .int 0 0] }).IsStrIter s.heap.objs.size "str_ascii_iterator" ⟨x.toArray⟩ t 0 := ⟨_, Heap.get?_push_size _ rfl, rfl, rfl⟩
      refine hQ _ _ _ s.toks (S.pushHid _) (fun p hp => by rw [List.mem_singleton.mp hp]; exact fun v e => nomatch e) (SELF.walks W fpb st (Heap.get?_push_size _ rfl) (hin _))
        (WKR.walks W fpb (fun i h st => ?_) (fun i v s Q E st hQ => go_other hg rfl hQ) (by simp) hP _ 0 rfl (Nat.zero_le _) _ _ sl (fun _ h => h) st (Heap.get?_push_size _ rfl) (hin _))
      obtain ⟨o, ho, hc, hd⟩ := st
      exact ⟨o, ho, fun v e => by rw [hd] at e; cases e⟩
  | rng k hk =>
    cases r with
    | rng i =>
      rename_i ax t u v
      have hsmall : Builtin.Range.small 0 (k : Int) 1 = true := small_one (by decide) (by decide) (by omega) (by omega)
      have hsize : Builtin.Range.rangeSize 0 (k : Int) 1 = (k : Int) := by
        unfold Builtin.Range.rangeSize
        rw [if_pos (by decide)]
        by_cases h0 : (0 : Int) < k
        · rw [if_pos h0]; omega
        · rw [if_neg h0]; omega
      refine wpAny_pyIter_range (i.get H hs) hsmall ?_
      rw [hsize]
      have W := Walks.range (prog := c.prog) (w := c.w) hh s.heap.objs.size 0 1 k
      have fpb : ∀ b ∈ [s.heap.objs.size], b ≠ s.heap.objs.size → ∃ o, InL c.h₀ sl b o := fun b hb hne => absurd (List.mem_singleton.mp hb) hne
      have st : IsRangeIter (s.heap.push { cls := .type "range_iterator", data := .fields #[rawInt 0, rawInt k, rawInt 1] }) s.heap.objs.size (0 + ((0 : Nat) : Int) * 1) ((k : Int) - ((0 : Nat) : Int)) 1 := by
        have := Heap.get?_push_size s.heap (o := { cls := .type "range_iterator", data := .fields #[rawInt 0, rawInt k, rawInt 1] }) rfl
        simpa [IsRangeIter] using this
      refine hQ _ _ _ s.toks (S.pushHid _) (fun p hp => by rw [List.mem_singleton.mp hp]; exact fun v e => nomatch e) (SELF.walks W fpb st (Heap.get?_push_size _ rfl) (hin _))
        (WKR.walks W fpb (fun i h st => ⟨_, st, fun v e => nomatch e⟩) (fun i v s Q E st hQ => go_other hg rfl hQ) (by simp) (fun i v d e hd => ?_) _ 0 rfl (Nat.zero_le _) _ _ sl (fun _ h => h) st (Heap.get?_push_size _ rfl) (hin _))
      obtain ⟨tt, rfl⟩ := e
      have hlt : i < k := by
        rcases Nat.lt_or_ge i k with h | h'
        · exact h
        · rw [List.getElem?_eq_none (by simpa using h')] at hd; cases hd
      rw [List.getElem?_map, List.getElem?_range hlt] at hd
      cases hd
      have e2 : (0 : Int) + (i : Int) * 1 = (i : Int) := by omega
      rw [e2]
      exact .int _ tt

/-- the items that a loop goes over -/
@[reducible] noncomputable def itrK (tgt : Expr) (Φ : List AV → Sg → Prop) : AV → Sg → Prop := fun a σ' => goesBy tgt a = true ∧ ExR (IterR a) Φ σ'
theorem ITR.of {c : Cx} {n : Nat} {σ : Sg} {e tgt : Expr} {Φ : List AV → Sg → Prop} (K : CxOk c n) (h : EV c e σ (itrK tgt Φ)) : ITR c e tgt σ Φ := by
  intro sl s S Q hQ
  refine h sl s S _ fun v a σ' sl' h' tk' s' S' r k => ?_
  obtain ⟨hg, items, B, k⟩ := k
  exact B.ok (s := { s with heap := h', toks := tk' }) K hg S' r fun it W h2 tk2 S2 hn hself hw => hQ it W items σ' sl' h2 tk2 s' S2 hn hself hw k
end Mine
namespace Mine
open PySem PySem.W PySem.Calls PyProof.Rows PyProof.Rows.LCg PySem.SeqAt
/-- a value is stored under a target -/
noncomputable def ASG (c : Cx) (tgt : Expr) (a : AV) (σ : Sg) (Ψ : Sg → Prop) : Prop :=
  ∀ (sl : Led) (s : Shared) (v : Value), St c σ sl s.heap → Rep c.h₀ c.T sl v a → ∀ (Q : Unit → Shared → Prop) (E : Value → Shared → Prop),
    (∀ σ' sl' h' tk', (∀ p ∈ sl, p ∈ sl') → St c σ' sl' h' → Ψ σ' → Q () { s with heap := h', toks := tk' }) → wpAny (model c.prog c.w) c.A (assign tgt c.env v) Q E s
section
variable {c : Cx} {σ : Sg} {n : Nat} {Ψ : Sg → Prop}
theorem ASG.name {x : Str} {p : Pos} {a : AV} (K : CxOk c n) (hx : Own c x) (h : Ψ (σ.set x (.val a))) : ASG c (.Name x p) a σ Ψ :=
  fun sl s v S r Q E hQ => wpAny_assign_Name (store_val K S hx r fun h' tk' S' => hQ _ sl h' tk' (fun _ h => h) S' h)
/-- names, one behind another -/
noncomputable def stores (σ : Sg) : List Str → List AV → Sg
  | x :: xs, a :: as => stores (σ.set x (.val a)) xs as
  | _, _ => σ
noncomputable def namesOf : List Expr → List Str
  | .Name x _ :: es => x :: namesOf es
  | _ => []
theorem assign_all (K : CxOk c n) : ∀ (es : List Expr) (σ : Sg) (as : List AV) (vs : List Value) (sl : Led) (s : Shared), St c σ sl s.heap → RepAll c.h₀ c.T sl vs as → (namesOf es).length = es.length → es.length = as.length → (∀ x ∈ namesOf es, Own c x) →
    ∀ (Q : Unit → Shared → Prop) (E : Value → Shared → Prop), (∀ h' tk', St c (stores σ (namesOf es) as) sl h' → Q () { s with heap := h', toks := tk' }) → wpAny (model c.prog c.w) c.A (assignInOrder (es.map fun e => assign e c.env) vs) Q E s
  | [], σ, as, vs, sl, s, S, r, hn, hl, ho, Q, E, hQ => by
    cases as with
    | cons _ _ => cases hl
    | nil => cases r; exact assignInOrder_nil (hQ s.heap s.toks S)
  | e :: es, σ, as, vs, sl, s, S, r, hn, hl, ho, Q, E, hQ => by
    cases as with
    | nil => cases hl
    | cons a as =>
      cases r with
      | cons r1 r2 =>
        cases e with
        | Name x p =>
          refine assignInOrder_cons (wpAny_assign_Name (store_val K S (ho x (.head _)) r1 fun h' tk' S' => ?_))
          exact assign_all K es (σ.set x (.val a)) as _ sl _ S' r2 (by simpa [namesOf] using hn) (by simpa using hl) (fun y hy => ho y (.tail _ hy)) Q E fun h2 tk2 S2 => hQ h2 tk2 S2
        | _ => simp [namesOf] at hn
/-- a tuple's parts under names -/
theorem ASG.tup {es : List Expr} {x1} {tp : Pos} {as : List AV} (K : CxOk c n) (hn : (namesOf es).length = es.length) (hl : es.length = as.length) (ho : ∀ x ∈ namesOf es, Own c x) (h : Ψ (stores σ (namesOf es) as))
    (he : (assignEach es c.env).map (·.2) = es.map fun e => assign e c.env := by rfl) (hs : (assignEach es c.env).findIdx? (·.1) = none := by rfl) : ASG c (.Tuple es x1 tp) (.tup as) σ Ψ := by
  intro sl s v S r Q E hQ
  cases r with
  | tup i r =>
    rename_i ax vs nn
    obtain ⟨l, H⟩ := S.hp
    have ht := i.get H fun p hp => List.mem_append_left _ hp
    have hlen := r.length
    have hel : (assignEach es c.env).length = es.length := by
      have := congrArg List.length he
      simpa using this
    refine assign_Tuple_tuple (items := vs.toArray) K.room.hh (isTup_of ht) (by simp; omega) hs fun h₅ he' => ?_
    have S5 : St c σ sl h₅ := S.keeps fun b o e => he' b o (Nat.ne_of_lt (Heap.lt_size e)) e
    rw [he]
    exact assign_all K es σ as vs sl { s with heap := h₅ } S5 r hn hl ho Q E fun h' tk' S' => hQ _ sl h' tk' (fun _ h => h) S' h

/-- a loop over items -/
@[reducible] noncomputable def bodyK (c : Cx) (body : List Stmt) (Ψ : Fl → Sg → Prop) : Sg → Prop := fun σ1 => EXS c body σ1 Ψ
noncomputable def FORL (c : Cx) (tgt : Expr) (body : List Stmt) : List AV → Sg → (Fl → Sg → Prop) → Prop
  | [], σ, Φ => Φ .nxt σ
  | d :: l, σ, Φ => ∀ hid, ASG (c.withHid hid) tgt d σ (bodyK (c.withHid hid) body (fun f σ2 => match f with
      | .nxt => FORL c tgt body l σ2 Φ
      | .cnt => FORL c tgt body l σ2 Φ
      | .brk => Φ .nxt σ2
      | .ret a => Φ (.ret a) σ2))

theorem St.swapHid {c : Cx} {σ : Sg} {sl sl' : Led} {h h' : Heap} {W W' : Led} (hn : NoCell W) (S : St { c with hid := W ++ c.hid } σ sl h) (hs : ∀ p ∈ sl, p ∈ sl') (H : ∀ rest, Hp c.h₀ h (sl ++ (W ++ rest)) → Hp c.h₀ h' (sl' ++ (W' ++ rest))) : St { c with hid := W' ++ c.hid } σ sl' h' := by
  obtain ⟨tl, oD, op, m, H', h1, h2, h3⟩ := S
  have H2 := H _ (by simpa [List.append_assoc] using H')
  refine ⟨tl, oD, op, m, by simpa [List.append_assoc] using H2, h1, h2, ⟨fun y a e => ?_, (h3.mono hs).opens, h3.pins, h3.inj, h3.cells⟩⟩
  obtain ⟨v, hv, rv⟩ := (h3.mono hs).vals y a e
  exact ⟨v, hasV_showW (hasV_hideW hv hn), rv⟩
/-- the walkers' objects may be forgotten -/
theorem St.dropHid {c : Cx} {σ : Sg} {sl : Led} {h : Heap} {W : Led} (hn : NoCell W) (S : St { c with hid := W ++ c.hid } σ sl h) : St c σ sl h := by
  have := St.swapHid (W' := []) (h' := h) hn S (fun _ h => h) fun rest H => by
    simpa using H.dropW fun _ _ _ e => e
  simpa using this
theorem St.hp3 {c : Cx} {σ : Sg} {sl W : Led} {h : Heap} (S : St { c with hid := W ++ c.hid } σ sl h) : ∃ rest, Hp c.h₀ h (sl ++ (W ++ rest)) ∧ ∀ {h' : Heap} {W' sl' : Led}, NoCell W → (∀ p ∈ sl, p ∈ sl') → Hp c.h₀ h' (sl' ++ (W' ++ rest)) → St { c with hid := W' ++ c.hid } σ sl' h' := by
  obtain ⟨tl, oD, op, m, H, h1, h2, h3⟩ := S
  refine ⟨c.hid ++ (op ++ ((c.env.locals, oD) :: tl)), by simpa [List.append_assoc] using H, fun {h' W' sl'} hn hs H2 => ?_⟩
  refine ⟨tl, oD, op, m, by simpa [List.append_assoc] using H2, h1, h2, ⟨fun y a e => ?_, (h3.mono hs).opens, h3.pins, h3.inj, h3.cells⟩⟩
  obtain ⟨v, hv, rv⟩ := (h3.mono hs).vals y a e
  exact ⟨v, hasV_showW (hasV_hideW hv hn), rv⟩

theorem WKR.mono {prog : Program} {w : World} {A : Around} {h₀ : Heap} {T : Addr} {tgt : Expr} {it : Value} {l : List AV} {sl sl' W : Led} (h : WKR prog w A h₀ T tgt it l sl W) (hs : ∀ p ∈ sl, p ∈ sl') : WKR prog w A h₀ T tgt it l sl' W := by
  cases l with
  | nil => exact fun sl2 rest s h2 => h sl2 rest s fun p hp => h2 p (hs p hp)
  | cons d l => exact fun sl2 rest s h2 => h sl2 rest s fun p hp => h2 p (hs p hp)
theorem WKR.turn {prog : Program} {w : World} {A : Around} {h₀ : Heap} {T : Addr} {tgt : Expr} {it : Value} {d : AV} {l : List AV} {sl W sl' rest : Led} {s : Shared} (h : WKR prog w A h₀ T tgt it (d :: l) sl W) (hs : ∀ p ∈ sl, p ∈ sl') (H : Hp h₀ s.heap (sl' ++ (W ++ rest)))
    {Qn : Shared → Prop} {Qv : Value → Shared → Prop} {E : Value → Shared → Prop}
    (hQ : ∀ v W' sl'' h' tk', (∀ p ∈ sl', p ∈ sl'') → Hp h₀ h' (sl'' ++ (W' ++ rest)) → NoCell W' → Rep h₀ T sl'' v d → WKR prog w A h₀ T tgt it l sl'' W' → Qv v { s with heap := h', toks := tk' }) :
    wpAny (model prog w) A (pyNext it) (fun r s₁ => match r with | none => Qn s₁ | some v => wpAny (model prog w) A (letOwnedTupleGo tgt it v) (fun _ s₂ => Qv v s₂) E s₁) E s := by
  refine wpAny_mono (h sl' rest s hs H Qv E hQ) (fun r s₁ hr => ?_) fun _ _ z => z
  cases r with
  | none => exact hr.elim
  | some v => exact hr
@[reducible] noncomputable def forK (c : Cx) (x : Expr) (body : List Stmt) (Φ : Fl → Sg → Prop) : List AV → Sg → Prop := fun items σ' => FORL c x body items σ' Φ
theorem EX.for {x e : Expr} {body : List Stmt} {pos : Pos} {Φ : Fl → Sg → Prop} (K : CxOk c n) (h : ITR c e x σ (forK c x body Φ)) (hs : ∀ x, foldedSetIterable e c.env x = pure x := by intro _; rfl) : EX c (.For x e body [] pos) σ Φ := by
  intro sl s S Q hQ
  refine wpAny_For (wpAny_mono (h sl s S _ fun it W items σ' sl' h' tk' s' S' hn _ hw hf => ?_) (fun _ _ z => z) fun _ _ z => z.elim) hs
  refine codeAny_forLoop_any (fun k s1 => ∃ items W σ2 sl2 h2 tk2, s1 = { s with heap := h2, toks := tk2 } ∧ (∀ p ∈ sl, p ∈ sl2) ∧ St { c with hid := W ++ c.hid } σ2 sl2 h2 ∧ NoCell W ∧
    WKR c.prog c.w c.A c.h₀ c.T x it items sl2 W ∧ FORL c x body items σ2 Φ ∧ k = items.length) ?_ items.length ⟨items, W, σ', sl', h', tk', rfl, s', S', hn, hw, hf, rfl⟩
  rintro k s1 ⟨items, W, σ2, sl2, h2, tk2, rfl, s2, S2, hn2, hw2, hf2, rfl⟩
  obtain ⟨rest, H2, back⟩ := S2.hp3
  cases items with
  | nil =>
    refine hw2 sl2 rest { s with heap := h2, toks := tk2 } (fun _ h => h) H2 _ _ fun h3 tk3 H3 => ?_
    have S3 : St c σ2 sl2 h3 := by
      have := back (h' := h3) (W' := []) (sl' := sl2) hn2 (fun _ h => h) (by simpa using H3)
      simpa using this
    exact wpAny_execs_nil (hQ .next .nxt σ2 sl2 h3 tk3 s2 S3 .nxt hf2)
  | cons d l =>
    refine hw2.turn (s := { s with heap := h2, toks := tk2 }) (fun _ h => h) H2 fun v W3 sl3 h3 tk3 s3 H3 hn3 rv hw3 => ?_
    · have S3 : St { c with hid := W3 ++ c.hid } σ2 sl3 h3 := back hn2 s3 H3
      refine hf2 (W3 ++ c.hid) sl3 { s with heap := h3, toks := tk3 } v S3 rv _ _ fun σ4 sl4 h4 tk4 s4 S4 k => ?_
      refine wpAny_mono (k sl4 { s with heap := h4, toks := tk4 } S4 _ fun f g σ5 sl5 h5 tk5 s5 S5 r5 k5 => ?_) (fun _ _ z => z) fun _ _ z => z.elim
      have up : ∀ p ∈ sl, p ∈ sl5 := fun p hp => s5 p (s4 p (s3 p (s2 p hp)))
      have hw5 : WKR c.prog c.w c.A c.h₀ c.T x it l sl5 W3 := hw3.mono fun p hp => s5 p (s4 p hp)
      cases r5 with
      | nxt => exact ⟨l.length, by simp, l, W3, σ5, sl5, h5, tk5, rfl, up, S5, hn3, hw5, k5, rfl⟩
      | cnt => exact ⟨l.length, by simp, l, W3, σ5, sl5, h5, tk5, rfl, up, S5, hn3, hw5, k5, rfl⟩
      | brk => exact hQ .next .nxt σ5 sl5 h5 tk5 up (S5.dropHid hn3) .nxt k5
      | ret rv => exact hQ _ _ σ5 sl5 h5 tk5 up (S5.dropHid hn3) (.ret rv) k5

inductive Less (I : Nat → Sg → Prop) (k : Nat) (σ : Sg) : Prop
  | mk (j : Nat) (h : j < k) (i : I j σ) : Less I k σ
@[reducible] noncomputable def turnK (I : Nat → Sg → Prop) (k : Nat) (Φ : Fl → Sg → Prop) : Fl → Sg → Prop := fun f σ2 => match f with
  | .nxt => Less I k σ2
  | .cnt => Less I k σ2
  | .brk => Φ .nxt σ2
  | .ret a => Φ (.ret a) σ2
@[reducible] noncomputable def whileK (c : Cx) (body : List Stmt) (Ψ Φ : Fl → Sg → Prop) : Bool → Sg → Prop := fun b σ1 => if b then EXS c body σ1 Ψ else Φ .nxt σ1
/-- a loop with a measure -/
theorem EX.while {t : Expr} {body : List Stmt} {pos : Pos} {Φ : Fl → Sg → Prop} (I : Nat → Sg → Prop)
    (turn : ∀ k σ', I k σ' → IT c t σ' (whileK c body (turnK I k Φ) Φ)) (k : Nat) (h : I k σ) : EX c (.While t body [] pos) σ Φ := by
  intro sl s S Q hQ
  refine wpAny_While ?_
  refine codeAny_whileLoop (fun k s1 => ∃ σ2 sl2 h2 tk2, s1 = { s with heap := h2, toks := tk2 } ∧ (∀ p ∈ sl, p ∈ sl2) ∧ St c σ2 sl2 h2 ∧ I k σ2) ?_ k ⟨σ, sl, s.heap, s.toks, rfl, fun _ h => h, S, h⟩
  rintro k s1 ⟨σ2, sl2, h2, tk2, rfl, s2, S2, hI⟩
  refine wpAny_mono (turn k σ2 hI sl2 { s with heap := h2, toks := tk2 } S2 _ fun b σ3 sl3 h3 tk3 s3 S3 k3 => ?_) (fun _ _ z => z) fun _ _ z => z.elim
  cases b with
  | false => exact wpAny_execs_nil (hQ .next .nxt σ3 sl3 h3 tk3 (fun p hp => s3 p (s2 p hp)) S3 .nxt k3)
  | true =>
    have k3' : EXS c body σ3 _ := k3
    refine wpAny_mono (k3' sl3 { s with heap := h3, toks := tk3 } S3 _ fun f g σ5 sl5 h5 tk5 s5 S5 r5 k5 => ?_) (fun _ _ z => z) fun _ _ z => z.elim
    have up : ∀ p ∈ sl, p ∈ sl5 := fun p hp => s5 p (s3 p (s2 p hp))
    cases r5 with
    | nxt => obtain ⟨j, hj, k5⟩ := k5; exact ⟨j, hj, σ5, sl5, h5, tk5, rfl, up, S5, k5⟩
    | cnt => obtain ⟨j, hj, k5⟩ := k5; exact ⟨j, hj, σ5, sl5, h5, tk5, rfl, up, S5, k5⟩
    | brk => exact hQ .next .nxt σ5 sl5 h5 tk5 up S5 .nxt k5
    | ret rv => exact hQ _ _ σ5 sl5 h5 tk5 up S5 (.ret rv) k5
end
end Mine
namespace Mine
open PySem PySem.W PySem.Calls PyProof.Rows PyProof.Rows.LCg PySem.SeqAt
theorem compLoop_any {prog : Program} {w : World} {A : Around} {s : Shared} {elt target iter : Expr} {ifs : List Expr} {scope : Scope} {pos : Pos} {it acc : Value} {env : Env} {R : Result → Shared → Prop} (I : Nat → Shared → Prop)
    (turn : ∀ n s, I n s → wpAny (model prog w) A (pyNext it) (fun r s₁ => match r with
      | none => R (.ok .next) s₁
      | some v => wpAny (model prog w) A (letOwnedTupleGo target it v) (fun _ s₁' => wpAny (model prog w) A (assign target env v) (fun _ s₂ =>
          wpAny (model prog w) A (forIn ifs true fun c r => if r = true then do let ok ← isTrue c env (eval c env); pure (ForInStep.yield ok) else pure (ForInStep.yield r)) (fun ok s₃ =>
            if ok = true then wpAny (model prog w) A (eval elt env) (fun x s₄ =>
              wpAny (model prog w) A (call (.builtin "list.append") [acc, x]) (fun _ s₅ => ∃ m, m < n ∧ I m s₅) (notedBy (model prog w) A env fun e s' => R (.error e) s') s₄) (notedBy (model prog w) A env fun e s' => R (.error e) s') s₃
            else ∃ m, m < n ∧ I m s₃) (notedBy (model prog w) A env fun e s' => R (.error e) s') s₂) (notedBy (model prog w) A env fun e s' => R (.error e) s') s₁') (notedBy (model prog w) A env fun e s' => R (.error e) s') s₁) (notedBy (model prog w) A env fun e s' => R (.error e) s') s)
    (n : Nat) (h : I n s) : codeAny (model prog w) A (.compLoop (.ListComp elt [⟨target, iter, ifs, 0⟩] scope pos) 0 it acc env) R s := by
  refine codeAny_loop rfl I (fun n s hI => ?_) n h
  show wpAny _ A ((compTurn (.ListComp elt [⟨target, iter, ifs, 0⟩] scope pos) 0 it acc env).onRaise (fun x => do noteFrame x env; theTreesLotGoes x)) _ _ s
  refine wpAny_noted ?_
  rw [compTurn_list]
  refine wpAny_bind (wpAny_standAt (wpAny_bind (wpAny_mono (turn n s hI) (fun r s₁ h₁ => ?_) fun _ _ h' => h')))
  cases r with
  | none => exact wpAny_pure h₁
  | some v =>
    refine wpAny_bind (wpAny_mono h₁ (fun _ s₁' h₁' => ?_) fun _ _ h' => h')
    refine wpAny_bind (wpAny_mono h₁' (fun _ s₂ h₂ => wpAny_bind (wpAny_mono h₂ (fun ok s₃ h₃ => ?_) fun _ _ h' => h')) fun _ _ h' => h')
    cases ok with
    | false => exact wpAny_pure ⟨rfl, h₃⟩
    | true =>
      exact wpAny_bind (wpAny_bind (wpAny_mono h₃ (fun x s₄ h₄ => wpAny_bind (wpAny_mono h₄ (fun _ s₅ h₅ => wpAny_pure (wpAny_pure ⟨rfl, h₅⟩)) fun _ _ h' => h')) fun _ _ h' => h'))

/-- the cells that a comprehension reaches -/
noncomputable def clOf (c : Cx) (fs : List Str) : List (Str × Addr) := fs.map fun y => (y, (c.env.cells.lookup y).getD 0)
noncomputable def cCx (c : Cx) (scope : Scope) (fs : List Str) (C : Addr) (hid : Led) : Cx := ⟨c.prog, c.w, c.A, compEnvC scope (clOf c fs) C c.env, c.h₀, c.T, hid, false⟩
noncomputable def evC (fs : List Str) (ev : Str → Option Slot) : Str → Option Slot := fun y => if fs.contains y then (match ev y with | some (.val a) => some (.val a) | _ => none) else none
/-- the comprehension's scope is plain -/
structure CompOk (c : Cx) (scope : Scope) (fs : List Str) : Prop where
  kind : scope.kind = .function
  nocell : ∀ y ∈ scope.names, y.2 ≠ .cell
  names : ∀ x ∈ scope.names, x.2 = .local → scope.names.lookup x.1 = some .local
  clos : closureFor scope c.env = pure (clOf c fs)
  nd : fs.Nodup
  free : (fs.all fun y => (c.env.kindOf y == some .cell) && ((relabel scope c.env).names.lookup y == some .cell) && (c.env.cells.lookup y).isSome) = true

theorem clOf_lookup {c : Cx} {fs : List Str} {y : Str} (hy : y ∈ fs) : (clOf c fs).lookup y = some ((c.env.cells.lookup y).getD 0) := by
  unfold clOf
  induction fs with
  | nil => cases hy
  | cons z r ih =>
    rw [List.map_cons, List.lookup_cons]
    by_cases h : (y == z) = true
    · rw [h]; have := eq_of_beq h; subst this; rfl
    · rw [Bool.not_eq_true] at h
      rw [h]
      rcases List.mem_cons.mp hy with e | hy
      · subst e; rw [beq_self_eq_true] at h; cases h
      · exact ih hy
section
variable {c : Cx} {σ : Sg} {n : Nat} {scope : Scope} {fs : List Str}
theorem CompOk.at (O : CompOk c scope fs) {y : Str} (hy : y ∈ fs) : c.env.kindOf y = some .cell ∧ (relabel scope c.env).names.lookup y = some .cell ∧ (clOf c fs).lookup y = c.env.cells.lookup y ∧ (c.env.cells.lookup y).isSome = true := by
  have := List.all_eq_true.mp O.free y hy
  simp only [Bool.and_eq_true, beq_iff_eq] at this
  obtain ⟨⟨h1, h2⟩, h3⟩ := this
  refine ⟨h1, h2, ?_, h3⟩
  rw [clOf_lookup hy]
  obtain ⟨k, hk⟩ := Option.isSome_iff_exists.mp h3
  rw [hk]; rfl
theorem CompOk.apart (O : CompOk c scope fs) (K : CxOk c n) : (clOf c fs).Pairwise fun x y => x.2 ≠ y.2 := by
  have : ∀ gs : List Str, (∀ y ∈ gs, y ∈ fs) → gs.Nodup → (clOf c gs).Pairwise fun x y => x.2 ≠ y.2 := by
    intro gs
    induction gs with
    | nil => exact fun _ _ => .nil
    | cons y r ih =>
      intro hs hd
      obtain ⟨h1, h2⟩ := List.nodup_cons.mp hd
      refine List.pairwise_cons.mpr ⟨fun p hp e => ?_, ih (fun z hz => hs z (.tail _ hz)) h2⟩
      obtain ⟨z, hz, rfl⟩ := List.mem_map.mp hp
      obtain ⟨k, hk⟩ := Option.isSome_iff_exists.mp (O.at (hs y (.head _))).2.2.2
      obtain ⟨j, hj⟩ := Option.isSome_iff_exists.mp (O.at (hs z (.tail _ hz))).2.2.2
      simp only [hk, hj, Option.getD_some] at e
      subst e
      have := lookup_apart K.apart hk hj
      subst this
      exact h1 hz
  exact this fs (fun _ h => h) O.nd
theorem CxOk.comp (K : CxOk c n) (O : CompOk c scope fs) (C : Addr) (hid : Led) : CxOk (cCx c scope fs C hid) n :=
  ⟨K.bs, K.room, O.kind, K.glob, K.blt, O.apart K⟩

/-- the tests of a clause -/
noncomputable def TST (c : Cx) : List Expr → Sg → (Bool → Sg → Prop) → Prop
  | [], σ, Ψ => Ψ true σ
  | [t], σ, Ψ => IT c t σ Ψ
  | _, _, _ => False
theorem TST.ok {ifs : List Expr} {Ψ : Bool → Sg → Prop} (h : TST c ifs σ Ψ) {sl : Led} {s : Shared} (S : St c σ sl s.heap) {Q : Bool → Shared → Prop} {E : Value → Shared → Prop}
    (hQ : ∀ b σ' sl' h' tk', (∀ p ∈ sl, p ∈ sl') → St c σ' sl' h' → Ψ b σ' → Q b { s with heap := h', toks := tk' }) :
    wpAny (model c.prog c.w) c.A (forIn ifs true fun t r => if r = true then do let ok ← isTrue t c.env (eval t c.env); pure (ForInStep.yield ok) else pure (ForInStep.yield r)) Q E s := by
  cases ifs with
  | nil => exact wpAny_tests_nil (hQ true σ sl s.heap s.toks (fun _ h => h) S h)
  | cons t r =>
    cases r with
    | nil =>
      refine wpAny_tests_one (wpAny_mono ((show IT c t σ Ψ from h) sl s S Q fun b σ' sl' h' tk' s' S' k => hQ b σ' sl' h' tk' s' S' k) (fun _ _ z => z) fun _ _ z => z.elim)
    | cons _ _ => exact h.elim

/-- a comprehension's loop -/
noncomputable def COMPL (c : Cx) (scope : Scope) (fs : List Str) (tgt : Expr) (ifs : List Expr) (elt : Expr) : List AV → List AV → Sg → (List AV → Sg → Prop) → Prop
  | [], acc, σ, Φ => Φ acc σ
  | d :: l, acc, σ, Φ => ∀ C hid, ASG (cCx c scope fs C hid) tgt d σ (fun σ1 => TST (cCx c scope fs C hid) ifs σ1 (fun b σ2 =>
      if b then EV (cCx c scope fs C hid) elt σ2 (fun a σ3 => COMPL c scope fs tgt ifs elt l (acc ++ [a]) σ3 Φ) else COMPL c scope fs tgt ifs elt l acc σ2 Φ))

theorem nsObj_noCell {o : Obj} {m : Str → Option Value} (h : NsObj o m) : ∀ v, o.data ≠ .cell v := fun v e => by
  obtain ⟨es, ep, hd, _⟩ := h
  rw [hd] at e; cases e

theorem hasV_sub {env : Env} {m : Str → Option Value} {cells cells' : Led} {x : Str} {v : Value} (h : HasV env m cells x v) (hs : ∀ p ∈ cells, (∃ w, p.2.data = .cell w) → p ∈ cells') : HasV env m cells' x v := by
  rcases h with h | ⟨g1, k, o, g2, g3, g4⟩
  · exact .inl h
  · exact .inr ⟨g1, k, o, g2, hs _ g3 ⟨_, g4⟩, g4⟩
theorem St.hidSetAt {c : Cx} {W base : Led} {D : Addr} {o o' : Obj} {σ : Sg} {sl : Led} {h h' : Heap} (S : St { c with hid := W ++ ((D, o) :: base) } σ sl h) (hl : ∀ w, o.data ≠ .cell w) (hs : Heap.SameBut D h h') (ho : h'.get? D = some o') : St { c with hid := W ++ ((D, o') :: base) } σ sl h' := by
  obtain ⟨tl, oD, op, m, H, h1, h2, h3⟩ := S
  have H' := (show Hp c.h₀ h ((sl ++ W) ++ ((D, o) :: (base ++ (op ++ ((c.env.locals, oD) :: tl))))) by simpa [List.append_assoc] using H).setAt hs ho
  refine ⟨tl, oD, op, m, by simpa [List.append_assoc] using H', h1, h2, ⟨fun y a e => ?_, h3.opens, h3.pins, h3.inj, h3.cells⟩⟩
  obtain ⟨v, hv, rv⟩ := h3.vals y a e
  refine ⟨v, hasV_sub hv fun p hp hw => ?_, rv⟩
  simp only [List.mem_append, List.mem_cons] at hp ⊢
  rcases hp with hp | hp | rfl | hp
  · exact .inl hp
  · exact .inr (.inl hp)
  · obtain ⟨w, hw⟩ := hw; exact absurd hw (hl w)
  · exact .inr (.inr (.inr hp))
theorem comp_core {elt iter tgt : Expr} {ifs : List Expr} {pos : Pos} (K : CxOk c n) (O : CompOk c scope fs) {sl : Led} {s : Shared} {it : Value} {W : Led} {items : List AV} {Φ : List AV → Sg → Prop} {RR : Value → Addr → Result → Shared → Prop} {E : Value → Shared → Prop}
    (S : St { c with hid := W ++ c.hid } σ sl s.heap) (hn : NoCell W) (hself : SELF c.prog c.w c.A c.h₀ it sl W) (hw : WKR c.prog c.w c.A c.h₀ c.T tgt it items sl W) (hsz : items.length ≤ 1000000)
    (h : COMPL c scope fs tgt ifs elt items [] ⟨σ.tp, evC fs σ.ev⟩ Φ)
    (hRR : ∀ D C oC σ2 acc sl2 h2 tk2, (∀ p ∈ sl, p ∈ sl2) → (∀ v, oC.data ≠ .cell v) → St { c with hid := [(C, oC)] ++ c.hid } ⟨σ2.tp, σ.ev⟩ sl2 h2 → (∃ m, h2.Ns C m) → Rep c.h₀ c.T sl2 (.ref D) (.lst acc) → Φ acc σ2 → RR (.ref D) C (.ok .next) { s with heap := h2, toks := tk2 }) :
    wpAny (model c.prog c.w) c.A (newList []) (fun acc s₃ => wpAny (model c.prog c.w) c.A (newFunctionEnv scope c.env.globals (clOf c fs) [] c.env.qual none .none (some c.env)) (fun cenv s₄ =>
      codeAny (model c.prog c.w) c.A (.compStart (.ListComp elt [⟨tgt, iter, ifs, 0⟩] scope pos) 0 it acc { cenv with scope := relabel scope c.env }) (RR acc cenv.locals) s₄) E s₃) E s := by
  refine wpAny_newObj_type (wpAny_newFunctionEnv O.nocell (by intro y hy; simp at hy) (fun h₁ hns₁ hsb₁ => ?_) O.kind)
  dsimp only at hns₁ hsb₁ ⊢
  obtain ⟨tl, oD, op, m, H, t1, n1, R1⟩ := S
  have HD := H.push (listOf ([] : List Value).toArray 0)
  generalize hH2 : s.heap.push { cls := .type "list", dict := none, data := .seq ([] : List Value).toArray } = H2 at hns₁ hsb₁ ⊢
  have HD2 : Hp c.h₀ H2 ((s.heap.objs.size, listOf ([] : List Value).toArray 0) :: (sl ++ ((W ++ c.hid) ++ (op ++ ((c.env.locals, oD) :: tl))))) := by rw [← hH2]; exact HD
  obtain ⟨oC, hoC, hmC⟩ := ns_obj hns₁
  have HC := (HD2.push _ (by rfl)).set hsb₁ hoC
  generalize hC : H2.objs.size = C at hns₁ hsb₁ hoC HC ⊢
  generalize hDD : s.heap.objs.size = D at HC ⊢
  generalize hbase : c.hid ++ (op ++ [(c.env.locals, oD)]) = base
  have mk : ∀ {sl2 : Led} {h3 : Heap} {o : Obj} {σ2 : Sg} {C' : Addr}, (∀ p ∈ sl, p ∈ sl2) → St (cCx c scope fs C' ((D, o) :: base)) σ2 sl2 h3 → ∃ oC3, (∀ v, oC3.data ≠ .cell v) ∧ (∃ m, h3.Ns C' m) ∧ St { c with hid := [(C', oC3)] ++ c.hid } ⟨σ2.tp, σ.ev⟩ ((D, o) :: sl2) h3 := by
    intro sl2 h3 o σ2 C' hs S3
    obtain ⟨tl3, oC3, op3, m3, H3, t3, n3, R3⟩ := S3
    have H3' : Hp c.h₀ h3 (sl2 ++ (((D, o) :: base) ++ (op3 ++ ((C', oC3) :: tl3)))) := H3
    have H4 : Hp c.h₀ h3 (sl2 ++ (((D, o) :: base) ++ ((C', oC3) :: tl3))) := H3'.sub (List.Sublist.append_left (List.Sublist.append_left (List.sublist_append_right _ _) _) _)
    refine ⟨oC3, nsObj_noCell n3, ⟨m3, n3.ns (H4.get (C', oC3) (by simp))⟩, tl3, oD, op, m, H4.perm ?_, t3, n1, ?_⟩
    · rw [← hbase]
      letI : DecidableEq (Addr × Obj) := Classical.typeDecidableEq _
      refine List.perm_iff_count.mpr fun a => ?_
      simp only [List.count_append, List.count_cons, List.count_nil]
      omega
    · have R1' := R1.mono (sl' := (D, o) :: sl2) fun p hp => List.mem_cons_of_mem _ (hs p hp)
      refine ⟨fun y a e => ?_, R1'.opens, R1'.pins, R1'.inj, R1'.cells⟩
      obtain ⟨v, hv, rv⟩ := R1'.vals y a e
      exact ⟨v, hasV_showW (W := [(C', oC3)]) (hasV_hideW hv hn), rv⟩
  have S1 : St (cCx c scope fs C (W ++ ((D, listOf ([] : List Value).toArray 0) :: base))) ⟨σ.tp, evC fs σ.ev⟩ sl h₁ := by
    refine ⟨tl, oC, [], _, HC.perm ?_, t1, hmC, ⟨fun y a e => ?_, fun y l e => ?_, fun y l e => ?_, fun y z l l' e => ?_, fun e => nomatch e⟩⟩
    · rw [← hbase]
      letI : DecidableEq (Addr × Obj) := Classical.typeDecidableEq _
      refine List.perm_iff_count.mpr fun a => ?_
      show _ = List.count a (sl ++ ((W ++ ((D, listOf ([] : List Value).toArray 0) :: (c.hid ++ (op ++ [(c.env.locals, oD)])))) ++ ([] ++ ((C, oC) :: tl))))
      simp only [List.count_append, List.count_cons, List.count_nil]
      omega
    · simp only [evC] at e
      by_cases hy : fs.contains y = true
      · rw [if_pos hy] at e
        have hy' : y ∈ fs := by simpa using hy
        obtain ⟨q1, q2, q3, q4⟩ := O.at hy'
        cases e' : σ.ev y with
        | none => rw [e'] at e; cases e
        | some sl' =>
          rw [e'] at e
          cases sl' with
          | val b =>
            cases e
            obtain ⟨v, hv, rv⟩ := R1.vals y _ e'
            refine ⟨v, ?_, rv⟩
            rcases hv with ⟨g1, _⟩ | ⟨g1, k, o, g2, g3, g4⟩
            · have : c.env.kindOf y = some .local := g1
              rw [q1] at this; cases this
            · refine .inr ⟨.inl q2, k, o, q3.trans g2, ?_, g4⟩
              show _ ∈ [] ++ (W ++ ((D, listOf ([] : List Value).toArray 0) :: base))
              rw [← hbase]
              have g3' : (k, o) ∈ op ++ (W ++ c.hid) := g3
              simp only [List.mem_append, List.mem_cons] at g3' ⊢
              rcases g3' with g | g | g
              · exact .inr (.inr (.inr (.inr (.inl g))))
              · exact .inr (.inl g)
              · exact .inr (.inr (.inr (.inl g)))
          | opn l => cases e
          | pin D => cases e
      · rw [if_neg hy] at e; cases e
    · simp only [evC] at e
      split at e
      · split at e <;> cases e
      · cases e
    · simp only [evC] at e
      split at e
      · split at e <;> cases e
      · cases e
    · simp only [evC] at e
      split at e
      · split at e <;> cases e
      · cases e
  have loop : ∀ s₃ : Shared, s₃ = { s with heap := h₁, toks := s.toks + ([] : List (Str × Value)).length } →
      codeAny (model c.prog c.w) c.A (.compLoop (.ListComp elt [⟨tgt, iter, ifs, 0⟩] scope pos) 0 it (.ref D) (compEnvC scope (clOf c fs) C c.env)) (RR (.ref D) C) s₃ := by
    rintro s₃ rfl
    refine compLoop_any (fun k s1 => ∃ items acc W ys kk σ2 sl2 h2 tk2, s1 = { s with heap := h2, toks := tk2 } ∧ (∀ p ∈ sl, p ∈ sl2) ∧ St (cCx c scope fs C (W ++ ((D, listOf (ys : List Value).toArray kk) :: base))) σ2 sl2 h2 ∧ NoCell W ∧
      WKR c.prog c.w c.A c.h₀ c.T tgt it items sl2 W ∧ RepAll c.h₀ c.T sl2 ys acc ∧ acc.length + items.length ≤ 1000000 ∧ COMPL c scope fs tgt ifs elt items acc σ2 Φ ∧ k = items.length) ?_ items.length
      ⟨items, [], W, [], 0, _, sl, h₁, _, rfl, fun _ h => h, S1, hn, hw, .nil, by simpa using hsz, h, rfl⟩
    rintro k s1 ⟨items, acc, W2, ys, kk, σ2, sl2, h2, tk2, rfl, s2, S2, hn2, hw2, ra, hz, hf2, rfl⟩
    obtain ⟨rest, H2, back⟩ := St.hp3 (c := cCx c scope fs C ((D, listOf ys.toArray kk) :: base)) S2
    cases items with
    | nil =>
      refine hw2 sl2 rest { s with heap := h2, toks := tk2 } (fun _ h => h) H2 _ _ fun h3 tk3 H3 => ?_
      have S3 : St (cCx c scope fs C ((D, listOf ys.toArray kk) :: base)) σ2 sl2 h3 := by
        have := back (h' := h3) (W' := []) (sl' := sl2) hn2 (fun _ h => h) (by rw [List.nil_append]; exact H3)
        exact this
      obtain ⟨oC3, c3, m3, S4⟩ := mk s2 S3
      exact hRR D C oC3 σ2 acc _ h3 tk3 (fun p hp => List.mem_cons_of_mem _ (s2 p hp)) c3 S4 m3 (.lst (.inl List.mem_cons_self) rfl rfl (ra.mono fun p hp => List.mem_cons_of_mem _ hp)) hf2
    | cons d l =>
      refine hw2.turn (s := { s with heap := h2, toks := tk2 }) (fun _ h => h) H2 fun v W3 sl3 h3 tk3 s3 H3 hn3 rv hw3 => ?_
      have S3 : St (cCx c scope fs C (W3 ++ ((D, listOf ys.toArray kk) :: base))) σ2 sl3 h3 := back hn2 s3 H3
      refine hf2 C (W3 ++ ((D, listOf ys.toArray kk) :: base)) sl3 { s with heap := h3, toks := tk3 } v S3 rv _ _ fun σ4 sl4 h4 tk4 s4 S4 k => ?_
      refine TST.ok (s := { s with heap := h4, toks := tk4 }) k S4 fun b σ5 sl5 h5 tk5 s5 S5 k5 => ?_
      have up5 : ∀ p ∈ sl2, p ∈ sl5 := fun p hp => s5 p (s4 p (s3 p hp))
      cases b with
      | false =>
        exact ⟨l.length, by simp, l, acc, W3, ys, kk, σ5, sl5, h5, tk5, rfl, fun p hp => up5 p (s2 p hp), S5, hn3, hw3.mono fun p hp => s5 p (s4 p hp), ra.mono up5, by simp at hz; omega, k5, rfl⟩
      | true =>
        have k5' : EV (cCx c scope fs C (W3 ++ ((D, listOf ys.toArray kk) :: base))) elt σ5 (fun a σ3 => COMPL c scope fs tgt ifs elt l (acc ++ [a]) σ3 Φ) := k5
        refine wpAny_mono (k5' sl5 { s with heap := h5, toks := tk5 } S5 _ fun y a σ6 sl6 h6 tk6 s6 S6 r6 k6 => ?_) (fun _ _ z => z) fun _ _ z => z.elim
        have hD6 : h6.get? D = some (listOf ys.toArray kk) := by
          obtain ⟨tl6, oD6, op6, m6, H6, _, _, _⟩ := S6
          exact H6.get (D, listOf ys.toArray kk) (by simp [cCx])
        have hlen := ra.length
        refine append_at (s := { s with heap := h6, toks := tk6 }) hD6 (fun h7 hs7 hg7 => ?_) (by rw [sizeLine_eq]; simp; omega)
        have e2 : ys.toArray.push y = (ys ++ [y]).toArray := by simp
        rw [e2] at hg7
        have S7 := St.hidSetAt (c := cCx c scope fs C base) S6 (fun w e => nomatch e) hs7 hg7
        have up6 : ∀ p ∈ sl2, p ∈ sl6 := fun p hp => s6 p (up5 p hp)
        exact ⟨l.length, by simp, l, acc ++ [a], W3, ys ++ [y], kk + 1, σ6, sl6, h7, tk6, rfl, fun p hp => up6 p (s2 p hp), S7, hn3, hw3.mono fun p hp => s6 p (s5 p (s4 p hp)), (ra.mono up6).append (.one r6), by simp at hz ⊢; omega, k6, rfl⟩
  have H1 : ∃ rest, Hp c.h₀ h₁ (sl ++ (W ++ rest)) := by
    obtain ⟨tl6, oD6, op6, m6, H6, _, _, _⟩ := S1
    refine ⟨((D, listOf ([] : List Value).toArray 0) :: base) ++ (op6 ++ ((C, oD6) :: tl6)), ?_⟩
    have : Hp c.h₀ h₁ (sl ++ ((W ++ ((D, listOf ([] : List Value).toArray 0) :: base)) ++ (op6 ++ ((C, oD6) :: tl6)))) := H6
    simpa [List.append_assoc] using this
  obtain ⟨rest, H1⟩ := H1
  exact codeAny_compStart_list (loop _ rfl) (hself sl rest _ (fun _ h => h) H1 _ _ (loop _ rfl))
end
end Mine
namespace Mine
open PySem PySem.W PySem.Calls PyProof.Rows PyProof.Rows.LCg PySem.SeqAt
section
variable {c : Cx} {σ : Sg} {n : Nat} {scope : Scope}
theorem St.letGo {sl : Led} {h h' : Heap} {C : Addr} {oC : Obj} (hc : ∀ v, oC.data ≠ .cell v) (S : St { c with hid := [(C, oC)] ++ c.hid } σ sl h) (hs : Heap.SameBut C h h') : St c σ sl h' := by
  obtain ⟨rest, H, back⟩ := St.hp3 (c := c) (W := [(C, oC)]) S
  have H' := H.dropW (h' := h') fun b o hb e => hs.extBut b o (by simpa using hb) e
  have := back (h' := h') (W' := []) (sl' := sl) (fun p hp => by rw [List.mem_singleton.mp hp]; exact hc) (fun _ h => h) (by rw [List.nil_append]; exact H')
  exact this
theorem EV.comp {elt iter tgt : Expr} {ifs : List Expr} {pos : Pos} {Φ : AV → Sg → Prop} (fs : List Str) (K : CxOk c n) (O : CompOk c scope fs)
    (h : ITR c iter tgt σ (fun items σ1 => items.length ≤ 1000000 ∧ COMPL c scope fs tgt ifs elt items [] ⟨σ1.tp, evC fs σ1.ev⟩ (fun acc σ2 => Φ (.lst acc) ⟨σ2.tp, σ1.ev⟩)))
    (hs : ∀ x, foldedSetIterable iter c.env x = pure x := by intro _; rfl) : EV c (.ListComp elt [⟨tgt, iter, ifs, 0⟩] scope pos) σ Φ := by
  intro sl s S Q hQ
  rw [eval_ListComp]
  refine wpAny_comprehension_free (use := Option.none) rfl hs O.clos O.kind O.names (wpAny_mono (h sl s S _ fun it W items σ' sl' h' tk' s' S' hn hself hw hf => ?_) (fun _ _ z => z) fun _ _ z => z.elim)
  refine comp_core (s := { s with heap := h', toks := tk' }) (RR := fun acc C => compPost (model c.prog c.w) c.A (fun _ _ => False) Option.none Q acc C) K O S' hn hself hw hf.1 hf.2 ?_
  intro D C oC σ2 acc sl2 h2 tk2 s2 hc S2 hm rv k
  obtain ⟨m, hm⟩ := hm
  exact ⟨m, hm, fun h'' hs'' => hQ _ _ _ sl2 h'' tk2 (fun p hp => s2 p (s' p hp)) (St.letGo hc S2 hs'') rv k⟩
/-- a comprehension under a name of the frame: the store comes ahead of the letting go -/
theorem EX.asgC {x : Str} {xp : Pos} {elt iter tgt : Expr} {ifs : List Expr} {pos spos : Pos} {Φ : Fl → Sg → Prop} (fs : List Str) (K : CxOk c n) (O : CompOk c scope fs) (hx : c.env.kindOf x = some .local)
    (h : ITR c iter tgt σ (fun items σ1 => items.length ≤ 1000000 ∧ COMPL c scope fs tgt ifs elt items [] ⟨σ1.tp, evC fs σ1.ev⟩ (fun acc σ2 => Φ .nxt (Sg.set ⟨σ2.tp, σ1.ev⟩ x (.val (.lst acc))))))
    (hsw : swapsWith (.ListComp elt [⟨tgt, iter, ifs, 0⟩] scope pos) (some (.Name x xp)) spos.line c.env = pure true := by rfl)
    (hs : ∀ x, foldedSetIterable iter c.env x = pure x := by intro _; rfl) : EX c (.Assign [.Name x xp] (.ListComp elt [⟨tgt, iter, ifs, 0⟩] scope pos) spos) σ Φ := by
  intro sl s S Q hQ
  rw [exec_Assign_Name_used _ _ _ _ hsw]
  refine wpAny_bind (wpAny_standAt (wpAny_bind ?_))
  show wpAny _ c.A (do let _ ← comprehension (.ListComp elt [⟨tgt, iter, ifs, 0⟩] scope pos) scope c.env _ (newList []) false (eval iter c.env) (some (assign (.Name x xp) c.env))) _ _ s
  refine wpAny_bind (wpAny_mono (wpAny_comprehension_free (use := some (assign (.Name x xp) c.env)) (Q := fun _ s' => Q .next s') rfl hs O.clos O.kind O.names
    (wpAny_mono (h sl s S _ fun it W items σ' sl' h' tk' s' S' hn hself hw hf => ?_) (fun _ _ z => z) fun _ _ z => z.elim)) (fun _ s' hq => wpAny_pure (wpAny_pure hq)) fun _ _ z => z)
  refine comp_core (s := { s with heap := h', toks := tk' }) (RR := fun acc C => compPost (model c.prog c.w) c.A (fun _ _ => False) (some (assign (.Name x xp) c.env)) (fun _ s' => Q .next s') acc C) K O S' hn hself hw hf.1 hf.2 ?_
  intro D C oC σ2 acc sl2 h2 tk2 s2 hc S2 hm rv k
  obtain ⟨m, hm⟩ := hm
  have hLC : c.env.locals ≠ C := by
    obtain ⟨tl, oD, op, m', H, _, _, _⟩ := S2
    intro e
    have H' : Hp c.h₀ h2 ((sl2 ++ ([(C, oC)] ++ c.hid)) ++ (op ++ ((c.env.locals, oD) :: tl))) := by simpa [List.append_assoc] using H
    exact H'.apart (p := (C, oC)) (q := (c.env.locals, oD)) (by simp) (by simp) e.symm
  show wpAny _ c.A (assign (.Name x xp) c.env (.ref D)) _ _ _
  obtain ⟨tl, oD, op, m', H, t2, n2, R2⟩ := S2
  have S2 : St { c with hid := [(C, oC)] ++ c.hid } ⟨σ2.tp, σ'.ev⟩ sl2 h2 := ⟨tl, oD, op, m', H, t2, n2, R2⟩
  refine wpAny_assign_Name (store_val (c := { c with hid := [(C, oC)] ++ c.hid }) (s := { s with heap := h2, toks := tk2 }) (K.hide _) S2 (.inl hx) rv fun h3 tk3 S3 => ?_)
  have hC3 : h3.get? C = some oC := by
    obtain ⟨tl3, oD3, op3, m3, H3, _, _, _⟩ := S3
    exact H3.get (C, oC) (by simp [Cx.withHid])
  have hC2 : h2.get? C = some oC := H.get (C, oC) (by simp)
  obtain ⟨o', es, ep, q1, q2⟩ := hm
  refine ⟨m, ⟨o', es, ep, ?_, q2⟩, fun h4 hs4 => ?_⟩
  · rw [hC2] at q1; cases q1; exact hC3
  · exact hQ .next .nxt _ sl2 h4 tk3 (fun p hp => s2 p (s' p hp)) (St.letGo hc S3 hs4) .nxt k
end
end Mine
namespace Mine
open PySem PySem.W PySem.Calls PyProof.Rows PyProof.Rows.LCg PySem.SeqAt
open AutoSeq1 (wpAny_loadPart')

section
variable {prog : Program} {w : World} {A : Around} {E : Value → Shared → Prop} {s : Shared} {b : Array UInt8} {t : Tok}
theorem nextOf_bytes_item {it : Addr} {i : Nat} {c : UInt8} {Q : Value → Shared → Prop} (hit : KBw.IsBytesIter s.heap it b t i) (hx : b[i]? = some c)
    (hQ : ∀ h', KBw.IsBytesIter h' it b t (i + 1) → Heap.SameBut it s.heap h' → Q (.int (c.toNat : Int) s.toks) { s with heap := h', toks := s.toks + 1 }) : wpAny (model prog w) A (Builtin.SmallTypes.nextOf (.ref it)) Q E s := by
  obtain ⟨o, ho, hc, hd⟩ := id hit
  unfold Builtin.SmallTypes.nextOf
  refine wpAny_bind (wpAny_callSpecial?_slot (name := PySem.Str.ofString "__next__") (KBw.iter_typeIs hit) KBw.slot_next
    (wpAny_call_entry KBw.slot_next (KBw.iter_typeIs hit) KBw.entry_next ?_ (KBw.args_next _)))
  show wpAny _ _ (field (.ref it) 0 >>= _) _ _ s
  refine wpAny_bind (wpAny_field ho hd (x := .bytes b t) rfl ?_)
  show wpAny _ _ (if (Value.bytes b t == Value.none) = true then _ else _) _ _ s
  rw [if_neg (show ¬ ((Value.bytes b t == Value.none) = true) from Bool.false_ne_true)]
  show wpAny _ _ (field (.ref it) 1 >>= _) _ _ s
  refine wpAny_bind (wpAny_field ho hd (x := .int i 0) rfl ?_)
  refine wpAny_bind (wpAny_of_eq (a := b) rfl ?_)
  simp only [Int.toNat_natCast, hx]
  refine wpAny_bind (wpAny_setField ho hd (by simp) (wpAny_bind (wpAny_mkInt (wpAny_pure ⟨_, rfl, wpAny_pure (hQ _ ?_ (Heap.SameBut.update ..))⟩))))
  exact ⟨_, Heap.get?_update_self _ ho (Obj.isFreed_of_fields (Obj.data_mapFields hd _)), (Obj.cls_mapFields ..).trans hc, by
    rw [Obj.data_mapFields hd]; simp [rawInt]⟩
theorem nextOf_bytes_end {it : Addr} {i : Nat} {Q : Value → Shared → Prop} (hh : A.handled = none) (hit : KBw.IsBytesIter s.heap it b t i) (hx : b[i]? = none)
    (hE : ∀ h' e, Heap.ExtBut it s.heap h' → (∃ o, h'.get? e = some o ∧ o.cls = .type "StopIteration") → E (.ref e) { s with heap := h' }) : wpAny (model prog w) A (Builtin.SmallTypes.nextOf (.ref it)) Q E s := by
  obtain ⟨o, ho, hc, hd⟩ := id hit
  unfold Builtin.SmallTypes.nextOf
  refine wpAny_bind (wpAny_callSpecial?_slot (name := PySem.Str.ofString "__next__") (KBw.iter_typeIs hit) KBw.slot_next
    (wpAny_call_entry KBw.slot_next (KBw.iter_typeIs hit) KBw.entry_next ?_ (KBw.args_next _)))
  show wpAny _ _ (field (.ref it) 0 >>= _) _ _ s
  refine wpAny_bind (wpAny_field ho hd (x := .bytes b t) rfl ?_)
  show wpAny _ _ (if (Value.bytes b t == Value.none) = true then _ else _) _ _ s
  rw [if_neg (show ¬ ((Value.bytes b t == Value.none) = true) from Bool.false_ne_true)]
  show wpAny _ _ (field (.ref it) 1 >>= _) _ _ s
  refine wpAny_bind (wpAny_field ho hd (x := .int i 0) rfl ?_)
  refine wpAny_bind (wpAny_of_eq (a := b) rfl ?_)
  simp only [Int.toNat_natCast, hx]
  refine wpAny_bind (wpAny_rule (wpAny_bind (wpAny_setField ho hd (by simp) ?_)))
  show wpAny _ _ (newExc (.type "StopIteration") [] >>= _) _ _ _
  refine wpAny_bind ?_
  simp only [newExc, newTuple]
  refine wpAny_bind (wpAny_newObj_type ?_ (by size_fits))
  refine wpAny_bind (m := firstArgMember _ _) (wpAny_of_eq (a := Value.none) (by first | rfl | (simp only [firstArgMember]; rfl)) ?_)
  refine wpAny_newObj_type ?_ (by size_fits)
  simp only [raiseNew]
  refine wpAny_bind (wpAny_handled ?_)
  first | rw [show A.in1.handled = none from hh] | rw [hh]
  refine wpAny_bind (wpAny_pure (wpAny_throw ?_))
  exact hE _ _ (((Heap.SameBut.update ..).extBut.push _).push _) ⟨_, Heap.get?_push_size _ rfl, rfl⟩
end
theorem Draws_bytes {prog : Program} {w : World} {A : Around} (hh : A.handled = none) (it : Addr) (b : Array UInt8) (t : Tok) :
    Draws prog w A it [it] b.size (fun i v => ∃ c u, b[i]? = some c ∧ v = .int (c.toNat : Int) u) (fun i h => KBw.IsBytesIter h it b t i) where
  live := fun _ _ st => let ⟨o, ho, _⟩ := st; ⟨o, ho⟩
  frame := fun _ _ _ st hk => let ⟨o, ho, r⟩ := st; ⟨o, hk it (by simp) o ho, r⟩
  item := fun i s Q E hi st hQ => by
    refine nextOf_bytes_item st (c := b[i]) (by simp [hi]) fun h' hit' hs' => ?_
    exact hQ _ h' (s.toks + 1) ⟨_, _, by simp [hi], rfl⟩ hit' hs'
  done := fun s Q E st hE => nextOf_bytes_end hh st (by simp) hE

set_option maxHeartbeats 1000000 in
theorem meets_enumerate_newB (x : Array UInt8) (t : Tok) :
    Meets (Builtin.«enumerate.__new__» ⟨[.type "enumerate", .bytes x t], []⟩) (fun _ R s =>
      R (.ok (.ret (.ref (s.heap.push { cls := .type "bytes_iterator", data := .fields #[.bytes x t, .int 0 0] }).objs.size)))
        { s with heap := (s.heap.push { cls := .type "bytes_iterator", data := .fields #[.bytes x t, .int 0 0] }).push { cls := .type "enumerate", data := .fields #[.none, .bool false, .ref s.heap.objs.size, rawInt 0, .none, .none] } }) :=
  .of_wp fun prog w A R s h => by
    obtain ⟨hp, g, d, tk, os⟩ := s
    have hsub := sub_enumerate
    wp_walk
    refine wpAny_stack_any fun st => wpAny_pure ?_
    split
    · rename_i c _ _ _ _ _
      cases (c == Value.type "enumerate")
      · wp_walk using KBw.pyIter_bytes
        exact ⟨_, rfl, h⟩
      · wp_walk using KBw.pyIter_bytes
        exact ⟨_, rfl, h⟩
    · wp_walk using KBw.pyIter_bytes
      exact ⟨_, rfl, h⟩
theorem call_enumerate_bytes {prog : Program} {w : World} {A : Around} {E : Value → Shared → Prop} {s : Shared} {x : Array UInt8} {t : Tok} {Q : Value → Shared → Prop}
    (h : Q (.ref (s.heap.objs.size + 1)) { s with heap := (s.heap.push { cls := .type "bytes_iterator", data := .fields #[.bytes x t, .int 0 0] }).push { cls := .type "enumerate", data := .fields #[.none, .bool false, .ref s.heap.objs.size, rawInt 0, .none, .none] } }) :
    wpAny (model prog w) A (call (.type "enumerate") [.bytes x t]) Q E s := by
  refine callType_new F.called_enumerate (by decide) (F.typeCall_enumerate_1 _) (F.newCall_enumerate_1 _) (fun obj => F.args_object_init_2 obj _) F.entry_enumerate_new
    (meets_enumerate_newB x t) ?_
  have hz : (s.heap.push { cls := .type "bytes_iterator", data := .fields #[.bytes x t, .int 0 0] }).objs.size = s.heap.objs.size + 1 := Heap.size_push ..
  have he := Heap.get?_push_size (s.heap.push { cls := .type "bytes_iterator", data := .fields #[.bytes x t, .int 0 0] }) (o := { cls := .type "enumerate", data := .fields #[.none, .bool false, .ref s.heap.objs.size, rawInt 0, .none, .none] }) rfl
  refine ⟨⟨_, he, rfl⟩, ?_⟩
  rw [hz]
  exact h
theorem call_enumerate_list' {prog : Program} {w : World} {A : Around} {E : Value → Shared → Prop} {s : Shared} {l : Addr} {items : Array Value} {Q : Value → Shared → Prop} (hL : s.heap.IsList l items)
    (h : Q (.ref (s.heap.objs.size + 1)) { s with heap := (s.heap.push { cls := .type "list_iterator", data := .fields #[.ref l, .int 0 0] }).push { cls := .type "enumerate", data := .fields #[.none, .bool false, .ref s.heap.objs.size, rawInt 0, .none, .none] } }) :
    wpAny (model prog w) A (call (.type "enumerate") [.ref l]) Q E s := by
  obtain ⟨⟨c, dct, dt, sl⟩, hl, hc, n, hd⟩ := hL
  replace hc : c = .type "list" := hc
  replace hd : dt = .seq items n := hd
  subst hc hd
  refine callType_new F.called_enumerate (by decide) (F.typeCall_enumerate_1 _) (F.newCall_enumerate_1 _) (fun obj => F.args_object_init_2 obj _) F.entry_enumerate_new
    (meets_enumerate_newL l items n dct sl) ⟨hl, ?_⟩
  have hz : (s.heap.push { cls := .type "list_iterator", data := .fields #[.ref l, .int 0 0] }).objs.size = s.heap.objs.size + 1 := Heap.size_push ..
  have he := Heap.get?_push_size (s.heap.push { cls := .type "list_iterator", data := .fields #[.ref l, .int 0 0] }) (o := { cls := .type "enumerate", data := .fields #[.none, .bool false, .ref s.heap.objs.size, rawInt 0, .none, .none] }) rfl
  refine ⟨⟨_, he, rfl⟩, ?_⟩
  rw [hz]
  exact h

section
variable {prog : Program} {w : World} {A : Around} {h₀ : Heap} {T : Addr} {elts : List Expr} {k1 : Nat} {tp : Pos} {e it : Addr} {fp : List Addr} {n : Nat} {P : Nat → Value → Prop} {Dst : Nat → Heap → Prop} {sl₀ : Led} {items : List AV}
theorem enum_st (D : Draws prog w A.in1 it fp n P Dst) (hfp : ∀ b ∈ fp, b ≠ it → ∃ o, InL h₀ sl₀ b o) {i : Nat} {h : Heap} {oe oi : Obj} {old : Value} (he : IsEnum h e it i old) (st : Dst i h) (hoe : h.get? e = some oe) (hoi : h.get? it = some oi) (hin : ∀ b o, InL h₀ sl₀ b o → h.get? b = some o)
    {sl' rest : Led} {h' : Heap} (hs : ∀ p ∈ sl₀, p ∈ sl') (H : Hp h₀ h' (sl' ++ ([(e, oe), (it, oi)] ++ rest))) : IsEnum h' e it i old ∧ Dst i h' := by
  refine ⟨?_, D.frame i h h' st fun b hb o x => ?_⟩
  · have := H.get (e, oe) (by simp)
    unfold IsEnum at he ⊢
    rw [hoe] at he; cases he; exact this
  · by_cases hbI : b = it
    · subst hbI
      rw [hoi] at x; cases x
      exact H.get (b, oi) (by simp)
    · obtain ⟨o', ho'⟩ := hfp b hb hbI
      rw [hin b o' ho'] at x; cases x
      exact (ho'.mono hs).get H fun p hp => List.mem_append_left _ hp
theorem WKR.enum (D : Draws prog w A.in1 it fp n P Dst) (hei : e ≠ it) (hef : e ∉ fp) (hfp : ∀ b ∈ fp, b ≠ it → ∃ o, InL h₀ sl₀ b o) (hIo : ∀ i h, Dst i h → ∃ o, h.get? it = some o ∧ ∀ v, o.data ≠ .cell v) (hn : items.length = n)
    (hP : ∀ i v d, P i v → items[i]? = some d → Rep h₀ T sl₀ v d) :
    ∀ (l : List AV) (i : Nat), items.drop i = l → i ≤ n → ∀ (h : Heap) (oe oi : Obj) (old : Value) (sl : Led), (∀ p ∈ sl₀, p ∈ sl) → IsEnum h e it i old → Dst i h → h.get? e = some oe → h.get? it = some oi → (∀ b o, InL h₀ sl₀ b o → h.get? b = some o) →
      WKR prog w A h₀ T (.Tuple elts k1 tp) (.ref e) ((l.zipIdx i).map fun p => .tup [.int (p.2 : Int), p.1]) sl [(e, oe), (it, oi)]
  | [], i, hl, hi, h, oe, oi, old, sl, hsl, he, st, hoe, hoi, hin => by
    have hin' : i = n := by
      have := congrArg List.length hl
      simp at this; omega
    subst hin'
    intro sl' rest s hs H Q E hQ
    obtain ⟨he', st'⟩ := enum_st D hfp he st hoe hoi hin (fun p hp => hs p (hsl p hp)) H
    exact wpAny_pyNext_enum_endD D he' st' fun h' hx => hQ h' s.toks (H.dropW fun b o hb x => hx b o (fun q => hb (by simp [q])) x)
  | d :: l, i, hl, hi, h, oe, oi, old, sl, hsl, he, st, hoe, hoi, hin => by
    have hlt : i < n := by
      have := congrArg List.length hl
      simp at this; omega
    have hd : items[i]? = some d := by
      have := congrArg (·[0]?) hl
      simpa using this
    have hl' : items.drop (i + 1) = l := by
      have := congrArg List.tail hl
      simpa using this
    intro sl' rest s hs H Q E hQ
    obtain ⟨he', st'⟩ := enum_st D hfp he st hoe hoi hin (fun p hp => hs p (hsl p hp)) H
    refine wpAny_pyNext_enum_itemD D he' st' hlt hei hef fun x h1 tk hPx ho st1 hT hsz hk => ?_
    refine wpAny_letOwnedTupleGo_enum ho fun h2 he2 hs2 => ?_
    have hs2' : Heap.SameBut e h1 h2 := hs2
    have helt : e < s.heap.objs.size := Heap.lt_size he'
    have st2 : Dst (i + 1) h2 := D.frame _ _ _ st1 fun b hb o y => (hs2'.2 b fun q => hef (q ▸ hb)).trans y
    obtain ⟨oi2, hoi2, hci⟩ := hIo _ _ st2
    have up : ∀ b o, b ≠ e → b ≠ it → s.heap.get? b = some o → h2.get? b = some o := fun b o h1' h2' y => (hs2'.2 b h1').trans (hk b o h1' h2' y)
    have H2 : Hp h₀ h2 (sl' ++ ([(e, { cls := .type "enumerate", dict := none, data := .fields #[.none, .bool false, .ref it, rawInt ((i : Int) + 1), .none, x], slots := #[] }), (it, oi2)] ++ rest)) := H.butW (fun b o hb y => up b o (fun q => hb (by simp [q])) (fun q => hb (by simp [q])) y) rfl fun p hp => by
      simp only [List.mem_cons, List.not_mem_nil, or_false] at hp
      rcases hp with rfl | rfl
      · exact he2
      · exact hoi2
    have hT2 : h2.get? s.heap.objs.size = some (tupOf [.int i tk, x].toArray 0) := (hs2'.2 _ (Nat.ne_of_gt helt)).trans hT
    have hTn : s.heap.get? s.heap.objs.size = none := Hp.none_size _
    have H3 : Hp h₀ h2 ((s.heap.objs.size, tupOf [.int i tk, x].toArray 0) :: (sl' ++ ([(e, { cls := .type "enumerate", dict := none, data := .fields #[.none, .bool false, .ref it, rawInt ((i : Int) + 1), .none, x], slots := #[] }), (it, oi2)] ++ rest))) := by
      refine ⟨H2.keep, fun p hp => ?_, fun p hp => ?_, ?_⟩
      · rcases List.mem_cons.mp hp with rfl | hp
        · exact hT2
        · exact H2.get p hp
      · rcases List.mem_cons.mp hp with rfl | hp
        · exact H.fresh
        · exact H2.new p hp
      · rw [List.map_cons, List.nodup_cons]
        refine ⟨fun hm => ?_, H2.nd⟩
        obtain ⟨p, hp, q⟩ := List.mem_map.mp hm
        have : ∃ p' ∈ sl' ++ ([(e, oe), (it, oi)] ++ rest), p'.1 = p.1 := by
          simp only [List.mem_append, List.mem_cons, List.not_mem_nil, or_false] at hp
          rcases hp with hp | (rfl | rfl) | hp
          · exact ⟨p, by simp [hp], rfl⟩
          · exact ⟨(e, oe), by simp, rfl⟩
          · exact ⟨(it, oi), by simp, rfl⟩
          · exact ⟨p, by simp [hp], rfl⟩
        obtain ⟨p', hp', q'⟩ := this
        have := H.get p' hp'
        rw [q', q, hTn] at this; cases this
    have hsub : ∀ p ∈ sl', p ∈ (s.heap.objs.size, tupOf [.int i tk, x].toArray 0) :: sl' := fun p hp => List.mem_cons_of_mem _ hp
    have hsub0 : ∀ p ∈ sl₀, p ∈ sl' := fun p hp => hs p (hsl p hp)
    refine hQ _ _ ((s.heap.objs.size, tupOf [.int i tk, x].toArray 0) :: sl') h2 (tk + 1) hsub H3 (fun p hp => ?_) (.tup (.inl List.mem_cons_self) (.cons (.int _ _) (.one ((hP i x d hPx hd).mono fun p hp => hsub p (hsub0 p hp))))) ?_
    · simp only [List.mem_cons, List.not_mem_nil, or_false] at hp
      rcases hp with rfl | rfl
      · exact fun v e => nomatch e
      · exact hci
    · have e1 : ((i + 1 : Nat) : Int) = (i : Int) + 1 := by push_cast; rfl
      exact WKR.enum D hei hef hfp hIo hn hP l (i + 1) hl' hlt h2 _ oi2 x _ (fun p hp => hsub p (hsub0 p hp)) (by rw [e1]; exact he2) st2 he2 hoi2 fun b o hb => (hb.mono fun p hp => hsub0 p hp).get H2 fun p hp => List.mem_append_left _ hp
end
end Mine
namespace Mine
open PySem PySem.W PySem.Calls PyProof.Rows PyProof.Rows.LCg PySem.SeqAt
noncomputable def enumed (l : List AV) : List AV := (l.zipIdx).map fun p => .tup [.int (p.2 : Int), p.1]
theorem ITR.enum {c : Cx} {n k1 : Nat} {σ : Sg} {e : Expr} {elts : List Expr} {p tp pos : Pos} {Φ : List AV → Sg → Prop} (K : CxOk c n) (g : nsIn (hd.heap_39 c.w.params) mainGlobals "enumerate" = some Option.none) (hv : bootBuiltins "enumerate" = some (.type "enumerate")) (hk : c.env.kindOf "enumerate" = some .globalImplicit) (hf : keeperOf (.type "enumerate") = pure .machine)
    (h : EV c e σ (fun a σ' => (∃ l, a = .lst l ∧ Φ (enumed l) σ') ∨ (∃ b : List UInt8, a = .bytes b ∧ Φ (enumed (b.map fun c => .int (c.toNat : Int))) σ')))
    (he : starEach [e] c.env = [(false, eval e c.env)] := by rfl) : ITR c (.Call (.Name "enumerate" p) [e] [] pos) (.Tuple elts k1 tp) σ Φ := by
  intro sl s S Q hQ
  refine wpAny_Call_Name_kw (bname K S g hv hk ?_)
  show wpAny _ _ (callWith pos (.type "enumerate") [] (backTo pos (starEach [e] c.env)) []) _ _ s
  rw [he]
  refine callWith_noref hf rfl (evalArgs_plain (spliced_cons (h sl s S _ fun v a σ1 sl1 h1 tk1 s1 S1 r k => spliced_nil ?_)))
  obtain ⟨ll, H⟩ := S1.hp
  have hs : ∀ p ∈ sl1, p ∈ sl1 ++ ll := fun p hp => List.mem_append_left _ hp
  have hh : c.A.in1.handled = none := K.room.hh
  have hz : ∀ o : Obj, (h1.push o).objs.size = h1.objs.size + 1 := fun o => Heap.size_push ..
  rcases k with ⟨l, rfl, k⟩ | ⟨b, rfl, k⟩
  · cases r with
    | lst i c1 d1 r =>
      rename_i ax o vs nn
      have hl := i.list H hs c1 d1
      have hlt : ax < h1.objs.size := Heap.lt_size (i.get H hs)
      refine call_enumerate_list' (s := { s with heap := h1, toks := tk1 }) hl ?_
      have S2 := (S1.pushHid { cls := .type "list_iterator", data := .fields #[.ref ax, .int 0 0] }).pushHid { cls := .type "enumerate", data := .fields #[.none, .bool false, .ref h1.objs.size, rawInt 0, .none, .none] }
      rw [hz] at S2
      have he2 := Heap.get?_push_size (h1.push { cls := .type "list_iterator", data := .fields #[.ref ax, .int 0 0] }) (o := { cls := .type "enumerate", data := .fields #[.none, .bool false, .ref h1.objs.size, rawInt 0, .none, .none] }) rfl
      rw [hz] at he2
      have hi2 := Heap.get?_push_of_some { cls := .type "enumerate", data := .fields #[.none, .bool false, .ref h1.objs.size, rawInt 0, .none, .none] } (Heap.get?_push_size h1 (o := { cls := .type "list_iterator", data := .fields #[.ref ax, .int 0 0] }) rfl)
      have hin : ∀ b o', InL c.h₀ sl1 b o' → ((h1.push { cls := .type "list_iterator", data := .fields #[.ref ax, .int 0 0] }).push { cls := .type "enumerate", data := .fields #[.none, .bool false, .ref h1.objs.size, rawInt 0, .none, .none] }).get? b = some o' := fun b o' i => Heap.get?_push_of_some _ (Heap.get?_push_of_some _ (i.get H hs))
      have D := Draws.list (prog := c.prog) (w := c.w) (A := c.A.in1) hh h1.objs.size ax (Nat.ne_of_lt hlt) vs.toArray
      refine wpAny_pyIter_enum he2 (hQ _ [(h1.objs.size + 1, _), (h1.objs.size, _)] _ σ1 sl1 _ tk1 s1 S2 (fun p hp => ?_) (fun sl' rest s' hs' H' Q E hq => wpAny_pyIter_enum (it := h1.objs.size) (i := 0) (old := .none) (H'.get (h1.objs.size + 1, _) (List.mem_append_right _ (List.mem_append_left _ (.head _)))) hq) ?_ k)
      · simp only [List.mem_cons, List.not_mem_nil, or_false] at hp
        rcases hp with rfl | rfl <;> exact fun v e => nomatch e
      · refine WKR.enum D (Nat.succ_ne_self _) (fun hm => by
          simp only [List.mem_cons, List.not_mem_nil, or_false] at hm
          rcases hm with q | q
          · exact Nat.succ_ne_self _ q
          · exact absurd (q ▸ hlt) (Nat.not_lt.mpr (Nat.le_succ _))) (fun b hb hne => ?_) (fun i h st => ?_) (by have := r.length; simp [this]) (fun i v d e hd => ?_) l 0 rfl (Nat.zero_le _) _ _ _ .none sl1 (fun _ h => h) he2 ⟨⟨_, hi2, rfl, rfl⟩, ⟨_, hin ax _ i, c1, nn, d1⟩⟩ he2 hi2 hin
        · simp only [List.mem_cons, List.not_mem_nil, or_false] at hb
          rcases hb with rfl | rfl
          · exact absurd rfl hne
          · exact ⟨_, i⟩
        · obtain ⟨o, ho, hc, hd⟩ := st.1
          exact ⟨o, ho, fun v e => by rw [hd] at e; cases e⟩
        · obtain ⟨u, hu, ru⟩ := r.get hd
          have : u = v := by
            have e' : vs[i]? = some v := by simpa using e
            rw [hu] at e'; exact Option.some.inj e'
          rw [← this]; exact ru
  · cases r
    rename_i t
    refine call_enumerate_bytes (s := { s with heap := h1, toks := tk1 }) ?_
    have S2 := (S1.pushHid { cls := .type "bytes_iterator", data := .fields #[.bytes b.toArray t, .int 0 0] }).pushHid { cls := .type "enumerate", data := .fields #[.none, .bool false, .ref h1.objs.size, rawInt 0, .none, .none] }
    rw [hz] at S2
    have he2 := Heap.get?_push_size (h1.push { cls := .type "bytes_iterator", data := .fields #[.bytes b.toArray t, .int 0 0] }) (o := { cls := .type "enumerate", data := .fields #[.none, .bool false, .ref h1.objs.size, rawInt 0, .none, .none] }) rfl
    rw [hz] at he2
    have hi2 := Heap.get?_push_of_some { cls := .type "enumerate", data := .fields #[.none, .bool false, .ref h1.objs.size, rawInt 0, .none, .none] } (Heap.get?_push_size h1 (o := { cls := .type "bytes_iterator", data := .fields #[.bytes b.toArray t, .int 0 0] }) rfl)
    have hin : ∀ a o', InL c.h₀ sl1 a o' → ((h1.push { cls := .type "bytes_iterator", data := .fields #[.bytes b.toArray t, .int 0 0] }).push { cls := .type "enumerate", data := .fields #[.none, .bool false, .ref h1.objs.size, rawInt 0, .none, .none] }).get? a = some o' := fun b o' i => Heap.get?_push_of_some _ (Heap.get?_push_of_some _ (i.get H hs))
    have D := Draws_bytes (prog := c.prog) (w := c.w) (A := c.A.in1) hh h1.objs.size b.toArray t
    refine wpAny_pyIter_enum he2 (hQ _ [(h1.objs.size + 1, _), (h1.objs.size, _)] _ σ1 sl1 _ tk1 s1 S2 (fun p hp => ?_) (fun sl' rest s' hs' H' Q E hq => wpAny_pyIter_enum (it := h1.objs.size) (i := 0) (old := .none) (H'.get (h1.objs.size + 1, _) (List.mem_append_right _ (List.mem_append_left _ (.head _)))) hq) ?_ k)
    · simp only [List.mem_cons, List.not_mem_nil, or_false] at hp
      rcases hp with rfl | rfl <;> exact fun v e => nomatch e
    · refine WKR.enum D (Nat.succ_ne_self _) (fun hm => Nat.succ_ne_self _ (List.mem_singleton.mp hm)) (fun b hb hne => absurd (List.mem_singleton.mp hb) hne) (fun i h st => ?_) (by simp) (fun i v d e hd => ?_) _ 0 rfl (Nat.zero_le _) _ _ _ .none sl1 (fun _ h => h) he2 ⟨_, hi2, rfl, rfl⟩ he2 hi2 hin
      · obtain ⟨o, ho, hc, hd⟩ := st
        exact ⟨o, ho, fun v e => by rw [hd] at e; cases e⟩
      · obtain ⟨k, u, e1, rfl⟩ := e
        have e2 : b[i]? = some k := by simpa using e1
        rw [List.getElem?_map, e2] at hd
        cases hd
        exact .int _ _
end Mine
namespace Mine
open PySem PySem.W PySem.Calls PyProof.Rows PyProof.Rows.LCg PySem.SeqAt
/-- values for slots; the open lists stand in the ledger P -/
inductive SRep (h₀ : Heap) (T : Addr) (sl : Led) : List Value → List Slot → Led → Prop
  | nil : SRep h₀ T sl [] [] []
  | val {v : Value} {a : AV} {vs : List Value} {ss : List Slot} {P : Led} : Rep h₀ T sl v a → SRep h₀ T sl vs ss P → SRep h₀ T sl (v :: vs) (.val a :: ss) P
  | opn {D : Addr} {o : Obj} {ws : List Value} {l : List AV} {vs : List Value} {ss : List Slot} {P : Led} : IsLst o ws → RepAll h₀ T sl ws l → SRep h₀ T sl vs ss P → SRep h₀ T sl (.ref D :: vs) (.opn l :: ss) ((D, o) :: P)
section
variable {h₀ : Heap} {T : Addr} {sl sl' : Led} {vs ws : List Value} {ss ts : List Slot} {P P' : Led}
theorem SRep.mono (h : SRep h₀ T sl vs ss P) (hs : ∀ p ∈ sl, p ∈ sl') : SRep h₀ T sl' vs ss P := by
  induction h with
  | nil => exact .nil
  | val r _ ih => exact .val (r.mono hs) ih
  | opn h r _ ih => exact .opn h (r.mono hs) ih
theorem SRep.append (h : SRep h₀ T sl vs ss P) (k : SRep h₀ T sl ws ts P') : SRep h₀ T sl (vs ++ ws) (ss ++ ts) (P ++ P') := by
  induction h with
  | nil => exact k
  | val r _ ih => exact .val r ih
  | opn h r _ ih => exact .opn h r ih
theorem SRep.reverse (h : SRep h₀ T sl vs ss P) : SRep h₀ T sl vs.reverse ss.reverse P.reverse := by
  induction h with
  | nil => exact .nil
  | val r _ ih => simpa using ih.append (.val r .nil)
  | opn h r _ ih => simpa using ih.append (.opn h r .nil)
theorem SRep.length (h : SRep h₀ T sl vs ss P) : vs.length = ss.length := by
  induction h with
  | nil => rfl
  | val _ _ ih => simp [ih]
  | opn _ _ _ ih => simp [ih]
theorem SRep.noCell (h : SRep h₀ T sl vs ss P) : NoCell P := by
  induction h with
  | nil => exact fun p hp => nomatch hp
  | val _ _ ih => exact ih
  | opn h _ _ ih =>
    intro p hp
    rcases List.mem_cons.mp hp with rfl | hp
    · exact h.noCell
    · exact ih p hp
end
noncomputable def setAll (σ : Sg) : List Str → List Slot → Sg
  | x :: xs, s :: ss => setAll (σ.set x s) xs ss
  | _, _ => σ
theorem St.permHid {c : Cx} {σ : Sg} {sl : Led} {h : Heap} {l l' : Led} (S : St { c with hid := l } σ sl h) (p : l.Perm l') : St { c with hid := l' } σ sl h := by
  obtain ⟨tl, oD, op, m, H, h1, h2, h3⟩ := S
  refine ⟨tl, oD, op, m, H.perm (List.Perm.append_left _ (List.Perm.append_right _ p)), h1, h2, ⟨fun y a e => ?_, h3.opens, h3.pins, h3.inj, h3.cells⟩⟩
  obtain ⟨v, hv, rv⟩ := h3.vals y a e
  exact ⟨v, hasV_sub hv fun q hq _ => (List.Perm.append_left op p).mem_iff.mp hq, rv⟩

/-- what a name may take -/
noncomputable def OwnS (c : Cx) : List Str → List Slot → Prop
  | x :: xs, .val _ :: ss => Own c x ∧ OwnS c xs ss
  | x :: xs, .opn _ :: ss => c.env.kindOf x = some .local ∧ OwnS c xs ss
  | _ :: _, .pin _ :: _ => False
  | [], [] => True
  | _, _ => False
section
variable {c : Cx} {σ : Sg} {n : Nat}
theorem assign_slots {α : Type} (g : α → Str) (K : CxOk c n) (fn : α → Value → Sem Unit) (hf : ∀ x v (s : Shared) (Q : Unit → Shared → Prop) (E : Value → Shared → Prop), wpAny (model c.prog c.w) c.A (storeName c.env (g x) v) Q E s → wpAny (model c.prog c.w) c.A (fn x v) Q E s) :
    ∀ (xs : List α) (σ : Sg) (ss : List Slot) (vs : List Value) (P sl : Led) (s : Shared), SRep c.h₀ c.T sl vs ss P → St { c with hid := P ++ c.hid } σ sl s.heap → OwnS c (xs.map g) ss →
    ∀ (Q : Unit → Shared → Prop) (E : Value → Shared → Prop), (∀ h' tk', St c (setAll σ (xs.map g) ss) sl h' → Q () { s with heap := h', toks := tk' }) → wpAny (model c.prog c.w) c.A (assignInOrder (xs.map fn) vs) Q E s
  | [], σ, ss, vs, P, sl, s, r, S, ho, Q, E, hQ => by
    cases r with
    | nil => exact assignInOrder_nil (hQ s.heap s.toks S)
    | val _ _ => exact ho.elim
    | opn _ _ _ => exact ho.elim
  | x :: xs, σ, ss, vs, P, sl, s, r, S, ho, Q, E, hQ => by
    cases r with
    | nil => exact ho.elim
    | val r rs =>
      refine assignInOrder_cons (hf _ _ _ _ _ (store_val (c := { c with hid := P ++ c.hid }) (K.hide _) S ho.1 r fun h' tk' S' => ?_))
      exact assign_slots g K fn hf xs _ _ _ P sl { s with heap := h', toks := tk' } rs S' ho.2 Q E fun h2 tk2 S2 => hQ h2 tk2 S2
    | opn hl r rs =>
      rename_i D o ws l vs ss P
      refine assignInOrder_cons (hf _ _ _ _ _ (store_opn (c := { c with hid := P ++ c.hid }) (K.hide _) hl S ho.1 r fun h' tk' S' => ?_))
      exact assign_slots g K fn hf xs _ _ _ P sl { s with heap := h', toks := tk' } rs S' ho.2 Q E fun h2 tk2 S2 => hQ h2 tk2 S2

/-- a display's parts -/
noncomputable def EVT (c : Cx) (pos : Pos) (es : List Expr) (σ : Sg) (Φ : List Slot → Sg → Prop) : Prop :=
  ∀ (P₀ sl : Led) (s : Shared), NoCell P₀ → St { c with hid := P₀ ++ c.hid } σ sl s.heap → ∀ Q : List Value → Shared → Prop,
    (∀ vs ss P σ' sl' h' tk', (∀ p ∈ sl, p ∈ sl') → St { c with hid := P ++ (P₀ ++ c.hid) } σ' sl' h' → SRep c.h₀ c.T sl' vs ss P → Φ ss σ' → Q vs { s with heap := h', toks := tk' }) →
    wpAny (model c.prog c.w) c.A (spliced (backTo pos (starEach es c.env))) Q (fun _ _ => False) s
@[reducible] noncomputable def evtK2 (a : Slot) (Φs : List Slot → Sg → Prop) : List Slot → Sg → Prop := fun ss σ2 => Φs (a :: ss) σ2
@[reducible] noncomputable def evtK (c : Cx) (pos : Pos) (es : List Expr) (Φs : List Slot → Sg → Prop) : AV → Sg → Prop := fun a σ1 => EVT c pos es σ1 (evtK2 (.val a) Φs)
@[reducible] noncomputable def evtLK (c : Cx) (pos : Pos) (es : List Expr) (Φs : List Slot → Sg → Prop) : List AV → Sg → Prop := fun as σ1 => as.length ≤ 1000 ∧ EVT c pos es σ1 (evtK2 (.opn as) Φs)
@[reducible] noncomputable def asgDK (c : Cx) (ts : List Expr) (Φ : Fl → Sg → Prop) : List Slot → Sg → Prop := fun ss σ1 => ss.length ≤ 1000 ∧ ss.length = ts.length ∧ OwnS c (namesOf ts) ss ∧ Φ .nxt (setAll σ1 (namesOf ts) ss)
@[reducible] noncomputable def asgSK (c : Cx) (ts : List Expr) (Φ : Fl → Sg → Prop) : List Slot → Sg → Prop := fun ss σ1 => ss.length ≤ 1000 ∧ ss.length = (namesOf ts).length ∧ OwnS c (namesOf ts).reverse ss.reverse ∧ Φ .nxt (setAll σ1 (namesOf ts).reverse ss.reverse)
@[reducible] noncomputable def asgTK (c : Cx) (ts : List Expr) (k1 : Nat) (tp : Pos) (Φ : Fl → Sg → Prop) : AV → Sg → Prop := fun a σ1 => ASG c (.Tuple ts k1 tp) a σ1 (nxtK Φ)
variable {pos : Pos} {Φs : List Slot → Sg → Prop} {Φ : Fl → Sg → Prop}
theorem EVT.nil (h : Φs [] σ) : EVT c pos [] σ Φs := fun P₀ sl s hn S Q hQ => spliced_nil (hQ [] [] [] σ sl s.heap s.toks (fun _ h => h) S .nil h)
theorem EVT.cons {e : Expr} {es : List Expr} (h : ∀ hid, EV (c.withHid hid) e σ (evtK c pos es Φs)) (he : starEach (e :: es) c.env = (false, eval e c.env) :: starEach es c.env := by rfl) : EVT c pos (e :: es) σ Φs := by
  intro P₀ sl s hn S Q hQ
  rw [he]
  refine spliced_cons (h _ sl s S _ fun v a σ1 sl1 h1 tk1 s1 S1 r k => ?_)
  exact k P₀ sl1 { s with heap := h1, toks := tk1 } hn S1 _ fun vs ss P σ2 sl2 h2 tk2 s2 S2 rs k2 => hQ (v :: vs) (.val a :: ss) P σ2 sl2 h2 tk2 (fun p hp => s2 p (s1 p hp)) S2 (.val (r.mono s2) rs) k2
theorem EVT.consL {les : List Expr} {lp : Pos} {es : List Expr} (h : ∀ hid, EVS (c.withHid hid) lp les σ (evtLK c pos es Φs)) (he : starEach (.List les lp :: es) c.env = (false, eval (.List les lp) c.env) :: starEach es c.env := by rfl) : EVT c pos (.List les lp :: es) σ Φs := by
  intro P₀ sl s hn S Q hQ
  rw [he]
  refine spliced_cons (wpAny_List_spliced (h _ sl s S _ fun ws as σ1 sl1 h1 tk1 s1 S1 rs k => ⟨by have := rs.length; have := k.1; rw [sizeLine_eq]; omega, ?_⟩))
  have S2 : St { c with hid := ((h1.objs.size, listOf ws.toArray 0) :: P₀) ++ c.hid } σ1 sl1 (h1.push (listOf ws.toArray 0)) := S1.pushHid (listOf ws.toArray 0)
  have hn2 : NoCell ((h1.objs.size, listOf ws.toArray 0) :: P₀) := fun p hp => by
    rcases List.mem_cons.mp hp with rfl | hp
    · exact fun v e => nomatch e
    · exact hn p hp
  refine k.2 _ sl1 { s with heap := h1.push (listOf ws.toArray 0), toks := tk1 } hn2 S2 _ fun vs ss P σ2 sl2 h2 tk2 s2 S2 rs2 k2 => ?_
  refine hQ (.ref h1.objs.size :: vs) (.opn as :: ss) ((h1.objs.size, listOf ws.toArray 0) :: P) σ2 sl2 h2 tk2 (fun p hp => s2 p (s1 p hp)) (S2.permHid ?_) (.opn ⟨rfl, 0, rfl, rfl, rfl⟩ (rs.mono s2) rs2) k2
  exact List.perm_middle

noncomputable def posNames : List Expr → List (Str × Pos)
  | .Name x p :: es => (x, p) :: posNames es
  | _ => []
theorem posNames_names : ∀ es : List Expr, (posNames es).map (·.1) = namesOf es
  | [] => rfl
  | e :: es => by
    cases e with
    | Name x p => simp [posNames, namesOf, posNames_names es]
    | _ => rfl
theorem evt_tuple {es : List Expr} {k2 : Nat} {vp : Pos} (h : EVT c vp es σ (fun ss σ1 => ss.length ≤ 1000 ∧ Φs ss σ1)) {sl : Led} {s : Shared} (S : St c σ sl s.heap) {Q : Value → Shared → Prop}
    (hQ : ∀ t vs ss P σ' sl' h' tk', (∀ p ∈ sl, p ∈ sl') → h'.get? t = some (tupOf vs.toArray 0) → St { c with hid := P ++ c.hid } σ' sl' h' → SRep c.h₀ c.T sl' vs ss P → Φs ss σ' → Q (.ref t) { s with heap := h', toks := tk' }) :
    wpAny (model c.prog c.w) c.A (eval (.Tuple es k2 vp) c.env) Q (fun _ _ => False) s := by
  refine wpAny_Tuple_spliced (h [] sl s (fun p hp => nomatch hp) S _ fun vs ss P σ' sl' h' tk' s' S' rs k => ⟨?_, ?_⟩)
  · have := rs.length; have := k.1; rw [sizeLine_eq]; omega
  · have hsub : ∀ p ∈ sl', p ∈ (h'.objs.size, tupOf vs.toArray 0) :: sl' := fun p hp => List.mem_cons_of_mem _ hp
    exact hQ _ vs ss P σ' ((h'.objs.size, tupOf vs.toArray 0) :: sl') (h'.push (tupOf vs.toArray 0)) tk' (fun p hp => hsub p (s' p hp)) (Heap.get?_push_size _ rfl) (S'.push _) (rs.mono hsub) k.2
/-- names take a display's parts, in order -/
theorem EX.asgD {es ts : List Expr} {k1 k2 : Nat} {tp vp : Pos} (K : CxOk c n) (h : EVT c vp es σ (asgDK c ts Φ))
    (he : (assignEach ts c.env).map (·.2) = (posNames ts).map fun q => assign (.Name q.1 q.2) c.env := by rfl) (hst : (assignEach ts c.env).findIdx? (·.1) = none := by rfl) (hel : (assignEach ts c.env).length = ts.length := by rfl)
    (hs : swapsWithSole [.Tuple ts k1 tp] (.Tuple es k2 vp) pos.line c.env = pure false := by rfl) (hw : swappedStores [.Tuple ts k1 tp] (.Tuple es k2 vp) c.env = pure none := by rfl) : EX c (.Assign [.Tuple ts k1 tp] (.Tuple es k2 vp) pos) σ Φ := by
  intro sl s S Q hQ
  refine Assign_Tuple (evt_tuple h S fun t vs ss P σ' sl' h' tk' s' ht S' rs k => ?_) hs hw
  obtain ⟨k1, k2, k3⟩ := k
  refine assign_Tuple_tuple (s := { s with heap := h', toks := tk' }) (items := vs.toArray) K.room.hh (isTup_of ht) (by rw [hel, ← k1, ← rs.length]; simp) hst fun h₅ he' => ?_
  rw [he]
  have S5 : St { c with hid := P ++ c.hid } σ' sl' h₅ := S'.keeps fun b o e => he' b o (Nat.ne_of_lt (Heap.lt_size e)) e
  refine assign_slots (fun q : Str × Pos => q.1) K (fun q : Str × Pos => assign (.Name q.1 q.2) c.env) (fun x v s Q E h => wpAny_assign_Name h) _ σ' ss _ P sl' { s with heap := h₅, toks := tk' } rs S5 (by rw [posNames_names]; exact k2) _ _ fun h6 tk6 S6 => ?_
  rw [posNames_names] at S6
  exact hQ .next .nxt _ sl' h6 tk6 s' S6 .nxt k3
/-- the same, stored from behind -/
theorem EX.asgS {es ts : List Expr} {k1 k2 : Nat} {tp vp : Pos} (K : CxOk c n) (h : EVT c vp es σ (asgSK c ts Φ))
    (hs : swapsWithSole [.Tuple ts k1 tp] (.Tuple es k2 vp) pos.line c.env = pure false := by rfl) (hw : swappedStores [.Tuple ts k1 tp] (.Tuple es k2 vp) c.env = pure (some (namesOf ts)) := by rfl) : EX c (.Assign [.Tuple ts k1 tp] (.Tuple es k2 vp) pos) σ Φ := by
  intro sl s S Q hQ
  refine Assign_Tuple_swapped (evt_tuple h S fun t vs ss P σ' sl' h' tk' s' ht S' rs k => ?_) hs hw
  obtain ⟨k1, k2, k3⟩ := k
  have e1 : (namesOf ts).length = vs.toArray.size := by rw [← k1, ← rs.length]; simp
  rw [e1]
  refine unpackItems_tuple (s := { s with heap := h', toks := tk' }) K.room.hh (isTup_of ht) fun h₅ he' => ?_
  have S5 : St { c with hid := P.reverse ++ c.hid } σ' sl' h₅ := (St.permHid S' (List.Perm.append_right _ (List.reverse_perm P).symm)).keeps fun b o e => he' b o (Nat.ne_of_lt (Heap.lt_size e)) e
  refine assign_slots id K (fun x => bindName c.env x) (fun x v s Q E h => wpAny_bindName h) _ σ' ss.reverse _ P.reverse sl' { s with heap := h₅, toks := tk' } rs.reverse S5 (by simpa using k2) _ _ fun h6 tk6 S6 => ?_
  exact hQ .next .nxt _ sl' h6 tk6 s' S6 .nxt (by simpa using k3)
/-- names take a tuple's parts -/
theorem EX.asgT {e : Expr} {ts : List Expr} {k1 : Nat} {tp : Pos} (K : CxOk c n) (h : EV c e σ (asgTK c ts k1 tp Φ))
    (hs : swapsWithSole [.Tuple ts k1 tp] e pos.line c.env = pure false := by rfl) (hw : swappedStores [.Tuple ts k1 tp] e c.env = pure none := by rfl) : EX c (.Assign [.Tuple ts k1 tp] e pos) σ Φ := by
  intro sl s S Q hQ
  refine Assign_Tuple (h sl s S _ fun v a σ1 sl1 h1 tk1 s1 S1 r k => ?_) hs hw
  exact k sl1 { s with heap := h1, toks := tk1 } v S1 r _ _ fun σ2 sl2 h2 tk2 s2 S2 k2 => hQ .next .nxt σ2 sl2 h2 tk2 (fun p hp => s2 p (s1 p hp)) S2 .nxt k2
end
end Mine
namespace Mine
open PySem PySem.W PySem.Calls PyProof.Rows PyProof.Rows.LCg PySem.SeqAt Builtin
section
variable {M : Model} {A : Around} {E : Value → Shared → Prop}
theorem wpAny_forRange {β : Type} {f : Nat → β → Sem (ForInStep β)} {Q : β → Shared → Prop} {s : Shared} {init : β} (n : Nat) (I : Nat → β → Shared → Prop)
    (step : ∀ i b s, i < n → I i b s → wpAny M A (f i b) (fun r s' => ∃ b', r = .yield b' ∧ I (i + 1) b' s') E s) (h0 : I 0 init s) (hQ : ∀ b s', I n b s' → Q b s') : wpAny M A (forIn [:n] init f) Q E s := by
  rw [Std.Legacy.Range.forIn_eq_forIn_range']
  have go : ∀ (k i : Nat) (b : β) (s : Shared), i + k = n → I i b s → wpAny M A (forIn (List.range' i k) b f) Q E s := by
    intro k
    induction k with
    | zero =>
      intro i b s hi hI
      have : i = n := by omega
      subst this
      exact wpAny_pure (hQ b s hI)
    | succ k ih =>
      intro i b s hi hI
      rw [List.range'_succ, List.forIn_cons]
      refine wpAny_bind (wpAny_mono (step i b s (by omega) hI) (fun r s' hr => ?_) fun _ _ z => z)
      obtain ⟨b', rfl, hI'⟩ := hr
      exact ih (i + 1) b' s' (by omega) hI'
  have e : [:n].size = n := by simp [Std.Legacy.Range.size]
  rw [e]
  exact go n 0 init s (by simp) h0
end

noncomputable def bjoin (sep : List UInt8) : List (List UInt8) → List UInt8
  | [] => []
  | [x] => x
  | x :: y :: l => x ++ sep ++ bjoin sep (y :: l)
theorem joined_rest (sep : Array UInt8) : ∀ (l : List (Array UInt8)) (k : Nat) (out : Array UInt8), 0 < k → ((l.zipIdx k).foldl (fun out (x : Array UInt8 × Nat) => (if x.2 > 0 then out ++ sep else out) ++ x.1) out).toList = out.toList ++ (l.map fun x => sep.toList ++ x.toList).flatten
  | [], k, out, h => by simp
  | x :: l, k, out, h => by
    rw [List.zipIdx_cons, List.foldl_cons, joined_rest sep l (k + 1) _ (Nat.succ_pos _), if_pos h]
    simp [List.append_assoc]
theorem bjoin_flat (sep : List UInt8) : ∀ (x : List UInt8) (l : List (List UInt8)), bjoin sep (x :: l) = x ++ (l.map fun y => sep ++ y).flatten
  | x, [] => by simp [bjoin]
  | x, y :: l => by rw [bjoin, bjoin_flat sep y l]; simp [List.append_assoc]
theorem joined_eq (sep : Array UInt8) (l : List (Array UInt8)) : (Bytes.joined sep l).toList = bjoin sep.toList (l.map (·.toList)) := by
  unfold Bytes.joined
  cases l with
  | nil => rfl
  | cons x l =>
    rw [List.map_cons, bjoin_flat, List.zipIdx_cons, List.foldl_cons]
    have := joined_rest sep l (0 + 1) (#[] ++ x) (Nat.succ_pos _)
    simp only [Nat.lt_irrefl, gt_iff_lt, if_false]
    refine this.trans ?_
    simp [Function.comp_def]

/-- bytes values -/
noncomputable def BytesAll (vs : List Value) (bs : List (List UInt8)) : Prop := vs.length = bs.length ∧ ∀ i : Nat, ∀ b, bs[i]? = some b → ∃ t, vs[i]? = some (.bytes b.toArray t)

theorem takeQuiet_eq {id : String} {b : Array UInt8} {t : Tok} : Bytes.takeBufferQuiet? id (.bytes b t) 0 = pure (some (b, none)) := by
  unfold Bytes.takeBufferQuiet? Bytes.takeBuffer?
  rw [KBy.special_eq KBy.look_buffer, KBy.own_buffer]
  have e : Bytes.buffer? id (.bytes b t) (full := (0 == Bytes.fullReadOnly)) = pure (some b) := KBy.buffer_eq
  rw [e]
  kernel_rfl
theorem letGo_all {M : Model} {A : Around} {E : Value → Shared → Prop} {s : Shared} {keep : List Value} : ∀ (taken : List (Value × Option Value)), (∀ p ∈ taken, p.2 = none) → ∀ {Q : Unit → Shared → Prop}, Q () s → wpAny M A (Bytes.joinLetGo taken keep) Q E s
  | [], _, Q, h => wpAny_pure h
  | (x, w) :: r, hn, Q, h => by
    have : w = none := hn _ (.head _)
    subst this
    show wpAny M A (do letGo (x :: []) _; Bytes.joinLetGo r keep) Q E s
    exact wpAny_bind (wpAny_letGo (letGo_all r (fun p hp => hn p (.tail _ hp)) h))

theorem foldl_sizes : ∀ (bs : List (List UInt8)) (k : Nat), (bs.map (·.toArray)).foldl (fun x1 x2 => x1 + x2.size) k = k + (bs.map (·.length)).sum
  | [], k => by simp
  | c :: bs, k => by
    rw [List.map_cons, List.foldl_cons, foldl_sizes bs]
    simp [Nat.add_assoc]
theorem meets_join (b : Array UInt8) (t : Tok) (a : Addr) (vs : List Value) (bs : List (List UInt8)) (hv : BytesAll vs bs) (hz : (bjoin b.toList bs).length ≤ 1000000) (hz2 : (bs.map (·.length)).sum + b.size * bs.length ≤ 1000000) : Meets («bytes.join» ⟨[.bytes b t, .ref a], []⟩) (fun _ R s => s.heap.IsList a vs.toArray ∧ ∀ t' k, R (.ok (.ret (.bytes (bjoin b.toList bs).toArray t'))) { s with toks := k }) := by
  refine .of_wp fun prog w A R s hS => ?_
  obtain ⟨hL, h⟩ := hS
  show wpAny _ _ (Bytes.joinItems (.ref a) >>= fun r => _) _ _ s
  refine wpAny_bind ?_
  unfold Bytes.joinItems
  refine wpAny_bind (wpAny_typeOf hL.typeIs ?_)
  refine wpAny_ite_split (fun _ => wpAny_pure ?_) (fun hn => absurd rfl hn)
  obtain ⟨ol, hol, _, nl, hdl⟩ := hL
  refine wpAny_bind (wpAny_seqItems hol hdl ?_)
  dsimp only
  refine wpAny_ite_split (fun _ => ?_) (fun hn => absurd rfl hn)
  obtain ⟨hl, hv⟩ := hv
  rcases vs with _ | ⟨x, _ | ⟨y, r⟩⟩
  rotate_left
  · match bs, hl with
    | [c], _ =>
      obtain ⟨u, hu⟩ := hv 0 c rfl
      cases hu
      refine wpAny_bind (wpAny_typeOf (typeIs_bytes s _ u) ?_)
      refine wpAny_ite_split (fun _ => ?_) (fun hn => absurd rfl hn)
      refine wpAny_bind (wpAny_rule (wpAny_pure ⟨_, rfl, ?_⟩))
      exact h u s.toks
  all_goals refine wpAny_bind ?_
  all_goals
    refine wpAny_forRange _ (fun i (st : Array (Array UInt8) × List (Value × Option Value)) s' => s' = s ∧ st.1.toList = (bs.take i).map (·.toArray) ∧ ∀ p ∈ st.2, p.2 = none ∧ p.1.onHeap = false) ?_ ⟨rfl, rfl, fun p hp => nomatch hp⟩ ?_
  case nil.refine_1 =>
    rintro i ⟨parts, taken⟩ s' hi
    exact absurd hi (by simp)
  case cons.cons.refine_1 =>
    rintro i ⟨parts, taken⟩ s' hi ⟨rfl, hp, ht⟩
    refine wpAny_bind (wpAny_seqItems hol hdl ?_)
    dsimp only
    have hi' : i < bs.length := by rw [← hl]; simpa using hi
    obtain ⟨c, hc⟩ : ∃ c, bs[i]? = some c := ⟨_, List.getElem?_eq_getElem hi'⟩
    obtain ⟨u, hu⟩ := hv i c hc
    have hg : (x :: y :: r).toArray.getD i Value.none = .bytes c.toArray u := by
      rw [Array.getD_eq_getD_getElem?]
      simp only [List.getElem?_toArray, hu, Option.getD_some]
    rw [hg]
    have hany : (Bytes.Kind.bytes == Bytes.Kind.bytearray || taken.any fun x => x.fst.onHeap) = false := by
      rw [show (Bytes.Kind.bytes == Bytes.Kind.bytearray) = false from rfl, Bool.false_or, List.any_eq_false]
      exact fun p hp => by simp [(ht p hp).2]
    rw [hany, if_neg Bool.false_ne_true]
    refine wpAny_bind (wpAny_holding (wpAny_of_eq takeQuiet_eq ?_))
    refine wpAny_bind (wpAny_seqItems hol hdl ?_)
    dsimp only
    refine wpAny_ite_split (fun hn => absurd hn (by simp)) fun _ => wpAny_pure ⟨_, rfl, rfl, ?_, ?_⟩
    · rw [List.take_add_one, hc, List.map_append]
      simpa using hp
    · intro p hp
      rcases List.mem_append.mp hp with hp | hp
      · exact ht p hp
      · rw [List.mem_singleton.mp hp]; exact ⟨rfl, rfl⟩
  all_goals
    rintro ⟨parts, taken⟩ s' ⟨rfl, hp, ht⟩
    show wpAny _ _ (Bytes.payload (.bytes b t) >>= fun r => _) _ _ _
    refine wpAny_bind (wpAny_of_eq (a := b) rfl ?_)
    have hp' : parts.toList = bs.map (·.toArray) := by
      have e : bs.take bs.length = bs := List.take_length
      have : (parts, taken).fst.toList = _ := hp
      simpa [hl] using hp
    have e2 : Bytes.joined b parts.toList = (bjoin b.toList bs).toArray := by
      have := joined_eq b parts.toList
      rw [hp'] at this ⊢
      rw [List.map_map] at this
      have e3 : (List.map ((fun x => x.toList) ∘ fun x => x.toArray) bs) = bs := by simp [Function.comp_def]
      rw [e3] at this
      exact Array.ext' (by simpa using this)
    refine wpAny_ite_split (fun hn => absurd hn ?_) fun _ => ?_
    · have e4 : parts.foldl (fun x1 x2 => x1 + x2.size) (b.size * (parts.size - 1)) = b.size * (parts.size - 1) + (bs.map (·.length)).sum := by
        rw [← Array.foldl_toList, hp', foldl_sizes]
      have e5 : parts.size = bs.length := by
        have := congrArg List.length hp'
        simpa using this
      have e6 : b.size * (parts.size - 1) ≤ b.size * bs.length := Nat.mul_le_mul_left _ (by omega)
      show ¬ (Bytes.tooLong (parts.foldl (fun x1 x2 => x1 + x2.size) (b.size * (parts.size - 1))) = true)
      rw [e4, KBy.tooLong_not (by omega)]
      exact Bool.false_ne_true
    · refine wpAny_bind (wpAny_mkBytes ?_ ?_)
      · refine wpAny_bind (wpAny_holding (wpAny_point ?_))
        refine wpAny_bind (letGo_all taken (fun p hp => (ht p hp).1) (wpAny_pure ⟨_, rfl, ?_⟩))
        show R (Except.ok (Flow.ret (Value.bytes (Bytes.joined b parts.toList) _))) _
        rw [e2]
        exact h _ _
      · show (Bytes.joined b parts.toList).size ≤ sizeLine
        rw [e2, sizeLine_eq]; simp; omega
end Mine
namespace Mine
open PySem PySem.W PySem.Calls PyProof.Rows PyProof.Rows.LCg PySem.SeqAt Builtin
/-- the first place of a byte -/
noncomputable def findAt (b : List UInt8) (c : UInt8) (lo hi : Nat) : Option Nat := (List.range' lo (hi - lo)).find? fun k => b[k]? == some c
noncomputable def findInt (b : List UInt8) (c : UInt8) (lo hi : Nat) : Int := match findAt b c lo hi with | some k => (k : Int) | none => -1

theorem extract_one (b : List UInt8) (c : UInt8) (k : Nat) : (b.toArray.extract k (k + 1) == #[c]) = (b[k]? == some c) := by
  have e : b.toArray.extract k (k + 1) = ((b.drop k).take 1).toArray := by simp
  rw [e, Bool.eq_iff_iff]
  simp only [beq_iff_eq]
  constructor
  · intro h
    have h' := congrArg Array.toList h
    simp only at h'
    cases hd : b.drop k with
    | nil => rw [hd] at h'; simp at h'
    | cons x r =>
      rw [hd] at h'
      simp at h'
      have := List.getElem?_drop (xs := b) (i := k) (j := 0)
      rw [hd] at this
      simp at this
      rw [← this, h']
  · intro h
    have := List.getElem?_drop (xs := b) (i := k) (j := 0)
    cases hd : b.drop k with
    | nil =>
      have hl : b.length ≤ k := by simpa using hd
      rw [List.getElem?_eq_none hl] at h; cases h
    | cons x r =>
      rw [hd] at this
      simp at this
      rw [h] at this
      cases this
      simp
theorem find_eq (b : List UInt8) (c : UInt8) (lo hi : Nat) (h : lo ≤ hi) : Bytes.find? b.toArray #[c] lo hi = findAt b c lo hi := by
  unfold Bytes.find? findAt
  have e : hi + 1 - (lo + (#[c] : Array UInt8).size) = hi - lo := by simp <;> omega
  rw [e, List.range'_eq_map_range]
  have e2 : ((List.range (hi - lo)).map (· + lo)) = (List.range (hi - lo)).map (fun x => lo + x) := by
    refine List.map_congr_left fun x _ => ?_
    exact Nat.add_comm _ _
  rw [e2]
  congr 1
  funext k
  exact extract_one b c k

theorem meets_find (b : List UInt8) (c : UInt8) (t u v x : Tok) (lo hi : Nat) (h : lo ≤ hi) (hb : hi ≤ b.length) : Meets («bytes.find» ⟨[.bytes b.toArray t, .bytes #[c] u, .int (lo : Int) v, .int (hi : Int) x], []⟩) (fun _ R s => ∀ t' k, R (.ok (.ret (.int (findInt b c lo hi) t'))) { s with toks := k }) := by
  refine .of_wp fun prog w A R s hS => ?_
  unfold «bytes.find» Bytes.searchM Bytes.searchArgs
  refine wpAny_bind (wpAny_bind ?_)
  show wpAny _ _ (pure _) _ _ _
  refine wpAny_pure ?_
  dsimp only
  refine wpAny_bind ?_
  show wpAny _ _ (Bytes.bound? (some (.int (lo : Int) v))) _ _ _
  unfold Bytes.bound?
  refine wpAny_bind (wpAny_specialOf (T := "int") (typeIs_int _ _ _) F.slot_int_index.lookup ?_)
  refine wpAny_ite_split (fun hn => absurd hn (by simp)) fun _ => ?_
  refine wpAny_bind (wpAny_of_eq rfl (wpAny_pure ?_))
  refine wpAny_bind ?_
  show wpAny _ _ (Bytes.bound? (some (.int (hi : Int) x))) _ _ _
  unfold Bytes.bound?
  refine wpAny_bind (wpAny_specialOf (T := "int") (typeIs_int _ _ _) F.slot_int_index.lookup ?_)
  refine wpAny_ite_split (fun hn => absurd hn (by simp)) fun _ => ?_
  refine wpAny_bind (wpAny_of_eq rfl (wpAny_pure ?_))
  refine wpAny_bind (wpAny_of_eq (KBy.buffer_eq (b := #[c]) (t := u)) ?_)
  dsimp only
  refine wpAny_bind (wpAny_pure ?_)
  refine wpAny_bind (wpAny_of_eq (a := b.toArray) rfl ?_)
  have hw : Bytes.window b.toArray.size (some (lo : Int)) (some (hi : Int)) = ((lo : Int), (hi : Int)) := by
    unfold Bytes.window
    simp only [Option.getD_some, List.size_toArray]
    rw [if_neg (by omega), if_neg (by omega)]
    congr 1
    omega
  rw [hw]
  refine wpAny_pure ?_
  have hfin : ∀ r : Option Nat, (match r with | some k => (k : Int) | none => -1) = findInt b c lo hi →
      wpAny (model prog w) A.in1 (match r with | some i => retInt i | none => do rule (toString (toString Bytes.Kind.bytes.name ++ toString "." ++ toString "find" ++ toString ".not-found")); (if false = true then raiseError "ValueError" "subsection not found" else retInt (-1))) (fun fin s' => ∃ v, fin = Fin.done (Flow.ret v) ∧ R (Except.ok (Flow.ret v)) s') (fun e s' => R (Except.error e) s') s := fun r hr => by
    cases r with
    | some k =>
      exact wpAny_bind (wpAny_mkInt (wpAny_pure ⟨_, rfl, by rw [show ((k : Nat) : Int) = findInt b c lo hi from hr]; exact hS _ _⟩))
    | none =>
      exact wpAny_bind (wpAny_rule (wpAny_bind (wpAny_mkInt (wpAny_pure ⟨_, rfl, by rw [show (-1 : Int) = findInt b c lo hi from hr]; exact hS _ _⟩))))
  by_cases hlt : lo < hi
  · have : ¬ ((hi : Int) - (lo : Int) < ((#[c] : Array UInt8).size : Int)) := by simp; omega
    rw [if_neg this]
    show wpAny _ _ (match Bytes.find? b.toArray #[c] lo hi with | some i => _ | none => _) _ _ _
    rw [find_eq b c lo hi h]
    exact hfin _ rfl
  · have e : lo = hi := by omega
    subst e
    have : ((lo : Int) - (lo : Int) < ((#[c] : Array UInt8).size : Int)) := by simp
    rw [if_pos this]
    exact hfin none (by simp [findInt, findAt])

/-- white at both ends is cut -/
noncomputable def isW (c : UInt8) : Bool := c == 32 || c == 9
noncomputable def stripW (b : List UInt8) : List UInt8 := ((b.dropWhile isW).reverse.dropWhile isW).reverse
theorem meets_strip (b : List UInt8) (t u : Tok) (hb : b.length ≤ 1000000) : Meets («bytes.strip» ⟨[.bytes b.toArray t, .bytes #[32, 9] u], []⟩) (fun _ R s => ∀ t' k, R (.ok (.ret (.bytes (stripW b).toArray t'))) { s with toks := k }) := by
  refine .of_wp fun prog w A R s hS => ?_
  unfold «bytes.strip» Bytes.stripM
  refine wpAny_bind ?_
  show wpAny _ _ (pure _) _ _ _
  refine wpAny_pure ?_
  dsimp only
  refine wpAny_bind ?_
  refine wpAny_of_eq (KBd.like_eq (b := #[32, 9]) (t := u)) (wpAny_bind (wpAny_pure ?_))
  refine wpAny_bind (wpAny_of_eq (a := b.toArray) rfl ?_)
  dsimp only
  have hd : (fun c : UInt8 => (#[32, 9] : Array UInt8).contains c) = isW := by
    funext c
    have : (#[32, 9] : Array UInt8).contains c = ([32, 9] : List UInt8).contains c := by rw [← List.contains_toArray]
    rw [this]
    unfold isW
    rw [List.contains_cons, List.contains_cons, List.contains_nil, Bool.or_false]
  have hk : ((b.dropWhile (fun c : UInt8 => (#[32, 9] : Array UInt8).contains c)).reverse.dropWhile (fun c : UInt8 => (#[32, 9] : Array UInt8).contains c)).reverse = stripW b := by rw [hd]; rfl
  have hle : (stripW b).length ≤ b.length := by
    unfold stripW
    rw [List.length_reverse]
    have := (List.dropWhile_sublist isW (l := (b.dropWhile isW).reverse)).length_le
    have := (List.dropWhile_sublist isW (l := b)).length_le
    simp at *
    omega
  refine wpAny_ite_split (fun hn => ?_) fun hn => ?_
  · have hn' : (stripW b).length = b.length := by
      exact (congrArg List.length hk).symm.trans ((eq_of_beq hn).trans (by simp))
    have hs : stripW b = b := by
      have s1 : (stripW b).Sublist b := by
        unfold stripW
        have := (List.dropWhile_sublist isW (l := (b.dropWhile isW).reverse)).reverse
        rw [List.reverse_reverse] at this
        exact this.trans (List.dropWhile_sublist isW)
      exact s1.eq_of_length hn'
    refine wpAny_bind (wpAny_rule ?_)
    refine wpAny_bind ?_
    unfold Bytes.Kind.same
    refine wpAny_ite_split (fun _ => ?_) fun hn => absurd rfl hn
    refine wpAny_bind (wpAny_typeOf (typeIs_bytes s _ t) ?_)
    refine wpAny_ite_split (fun _ => ?_) fun hn => absurd rfl hn
    refine wpAny_pure (wpAny_pure ⟨_, rfl, ?_⟩)
    rw [hs] at hS
    exact hS t s.toks
  · refine wpAny_bind (wpAny_mkBytes (wpAny_pure ⟨_, rfl, ?_⟩) ?_)
    · have := hS s.toks (s.toks + 1)
      rw [← hk] at this
      exact this
    · show (Array.size _) ≤ sizeLine
      rw [sizeLine_eq]
      have e : (((b.dropWhile (fun c : UInt8 => (#[32, 9] : Array UInt8).contains c)).reverse.dropWhile (fun c : UInt8 => (#[32, 9] : Array UInt8).contains c)).reverse).toArray.size = (stripW b).length := by rw [hk]; simp
      exact Nat.le_trans (Nat.le_of_eq e) (by omega)
end Mine
namespace Mine
open PySem PySem.W PySem.Calls PyProof.Rows PyProof.Rows.LCg PySem.SeqAt Builtin
theorem slot_bytes_find : PySem.Slot "bytes" "find" "bytes.find" :=
  .of (owner := "bytes") (n := "find") (by rw [typeLookup_type, builtinLookup_eq_fast]; kernel_rfl) (by decide +kernel) (by decide +kernel) (by decide +kernel)
    (by first | exact .inl (by decide +kernel) | exact .inr (by decide +kernel)) (by rw [isSubtype_type]; kernel_rfl)
theorem type_bytes_find : typeOf (.builtin "bytes.find") = pure (.type "method_descriptor") := by show builtinType _ = _; rw [builtinType_eq_fast]; kernel_rfl
theorem entry_bytes_find : entryFor table "bytes.find" = some Builtin.«bytes.find» := entryFor_of_tree (by kernel_rfl)
theorem args_bytes_find (a b c d : Value) : argsOk "bytes.find" ⟨[a, b, c, d], []⟩ := by
  unfold argsOk; rw [signature?_of (id := "bytes.find") (n := ['d', 'n', 'i', 'f']) (o := ['s', 'e', 't', 'y', 'b']) (by kernel_rfl) FB.owner_bytes]; kernel_rfl
theorem slot_bytes_strip : PySem.Slot "bytes" "strip" "bytes.strip" :=
  .of (owner := "bytes") (n := "strip") (by rw [typeLookup_type, builtinLookup_eq_fast]; kernel_rfl) (by decide +kernel) (by decide +kernel) (by decide +kernel)
    (by first | exact .inl (by decide +kernel) | exact .inr (by decide +kernel)) (by rw [isSubtype_type]; kernel_rfl)
theorem type_bytes_strip : typeOf (.builtin "bytes.strip") = pure (.type "method_descriptor") := by show builtinType _ = _; rw [builtinType_eq_fast]; kernel_rfl
theorem entry_bytes_strip : entryFor table "bytes.strip" = some Builtin.«bytes.strip» := entryFor_of_tree (by kernel_rfl)
theorem args_bytes_strip (a b : Value) : argsOk "bytes.strip" ⟨[a, b], []⟩ := by
  unfold argsOk; rw [signature?_of (id := "bytes.strip") (n := ['p', 'i', 'r', 't', 's']) (o := ['s', 'e', 't', 'y', 'b']) (by kernel_rfl) FB.owner_bytes]; kernel_rfl
theorem slot_bytes_join : PySem.Slot "bytes" "join" "bytes.join" :=
  .of (owner := "bytes") (n := "join") (by rw [typeLookup_type, builtinLookup_eq_fast]; kernel_rfl) (by decide +kernel) (by decide +kernel) (by decide +kernel)
    (by first | exact .inl (by decide +kernel) | exact .inr (by decide +kernel)) (by rw [isSubtype_type]; kernel_rfl)
theorem type_bytes_join : typeOf (.builtin "bytes.join") = pure (.type "method_descriptor") := by show builtinType _ = _; rw [builtinType_eq_fast]; kernel_rfl
theorem entry_bytes_join : entryFor table "bytes.join" = some Builtin.«bytes.join» := entryFor_of_tree (by kernel_rfl)
theorem args_bytes_join (a b : Value) : argsOk "bytes.join" ⟨[a, b], []⟩ := by
  unfold argsOk; rw [signature?_of (id := "bytes.join") (n := ['n', 'i', 'o', 'j']) (o := ['s', 'e', 't', 'y', 'b']) (by kernel_rfl) FB.owner_bytes]; kernel_rfl

theorem flat_join : ∀ xs : List (List Nat), PySem.Txt.join (PySem.Str.ofString "") (xs.map fun x => PySem.Str.mk x.toArray) = PySem.Str.mk xs.flatten.toArray := by
  intro xs
  show Builtin.Str.glued _ _ = _
  rw [StrLaws.glued_eq_join]
  induction xs with
  | nil => rfl
  | cons x l ih =>
    cases l with
    | nil => simp [PySem.Str.join]
    | cons y l =>
      show PySem.Str.mk x.toArray ++ PySem.Str.ofString "" ++ PySem.Str.join (PySem.Str.ofString "") ((y :: l).map fun x => PySem.Str.mk x.toArray) = _
      rw [ih]
      have e : PySem.Str.ofString "" = PySem.Str.mk #[] := rfl
      rw [e]
      show PySem.Str.mk ((x.toArray ++ #[]) ++ (y :: l).flatten.toArray) = _
      simp

inductive MK where
  | find | strip | joinB | joinS
noncomputable def MK.name : MK → Str
  | .find => "find"
  | .strip => "strip"
  | .joinB => "join"
  | .joinS => "join"
noncomputable def MK.id : MK → String
  | .find => "bytes.find"
  | .strip => "bytes.strip"
  | .joinB => "bytes.join"
  | .joinS => "str.join"
noncomputable def MK.fits : MK → AV → Prop
  | .joinS, .str x => x = []
  | .joinS, _ => False
  | _, .bytes _ => True
  | _, _ => False
/-- methods of bytes and texts: what they give -/
inductive MethR : MK → AV → List AV → AV → Prop
  | find (b : List UInt8) (c : UInt8) (lo hi : Nat) (h : lo ≤ hi) (hb : hi ≤ b.length) : MethR .find (.bytes b) [.bytes [c], .int (lo : Int), .int (hi : Int)] (.int (findInt b c lo hi))
  | strip (b : List UInt8) (hb : b.length ≤ 1000000) : MethR .strip (.bytes b) [.bytes [32, 9]] (.bytes (stripW b))
  | joinB (b : List UInt8) (bs : List (List UInt8)) (hz : (bjoin b bs).length ≤ 1000000) (hz2 : (bs.map (·.length)).sum + b.length * bs.length ≤ 1000000) : MethR .joinB (.bytes b) [.lst (bs.map .bytes)] (.bytes (bjoin b bs))
  | joinS (xs : List (List Nat)) (hz : (xs.map (·.length)).sum ≤ 1000000) : MethR .joinS (.str []) [.lst (xs.map .str)] (.str xs.flatten)

theorem bytesAll_of {h₀ : Heap} {T : Addr} {sl : Led} : ∀ {bs : List (List UInt8)} {vs : List Value}, RepAll h₀ T sl vs (bs.map .bytes) → BytesAll vs bs := by
  intro bs vs r
  refine ⟨by simpa using r.length, fun i b hb => ?_⟩
  obtain ⟨v, hv, rv⟩ := r.get (k := i) (d := .bytes b) (by rw [List.getElem?_map, hb]; rfl)
  cases rv
  exact ⟨_, hv⟩
theorem strsAre_of {h₀ : Heap} {T : Addr} {sl : Led} : ∀ {xs : List (List Nat)} {vs : List Value}, RepAll h₀ T sl vs (xs.map .str) → StrsAre vs (xs.map fun x => PySem.Str.mk x.toArray)
  | [], vs, h => by cases h; exact .nil
  | x :: xs, vs, h => by
    cases h with
    | cons a r => cases a; exact .cons _ _ (strsAre_of r)

section
variable {c : Cx} {σ : Sg} {n : Nat} {sl : Led} {s : Shared}
theorem gm_bytes {name : Str} {id : String} {b : List UInt8} {t : Tok} {pl : Sem Bool} {M : Model} {A : Around} {E : Value → Shared → Prop} {Q : Value × List Value → Shared → Prop} (slot : PySem.Slot "bytes" name id) (hty : typeOf (.builtin id) = pure (.type "method_descriptor"))
    (h : Q (.builtin id, [.bytes b.toArray t]) s) : wpAny M A (getMethod (.bytes b.toArray t) name pl) Q E s :=
  getMethod_builtin (typeIs_bytes s _ _) FB.plainAttrs_bytes slot hty (fun _ e => nomatch e) h
theorem MK.fits_bytes {k : MK} (hk : k ≠ .joinS) {a : AV} {v : Value} (h : k.fits a) (r : Rep c.h₀ c.T sl v a) : ∃ (b : List UInt8) (t : Tok), v = .bytes b.toArray t := by
  cases r with
  | bytes b t => exact ⟨b, t, rfl⟩
  | _ => cases k <;> first | exact h.elim | exact absurd rfl hk
theorem MK.get {k : MK} {a : AV} {v : Value} {pl : Sem Bool} {E : Value → Shared → Prop} {Q : Value × List Value → Shared → Prop} (hk : k.fits a) (r : Rep c.h₀ c.T sl v a) (h : Q (.builtin k.id, [v]) s) : wpAny (model c.prog c.w) c.A (getMethod v k.name pl) Q E s := by
  cases k with
  | find => obtain ⟨b, t, rfl⟩ := MK.fits_bytes (by intro e; cases e) hk r; simp only [MK.name, MK.id] at h ⊢; with_reducible exact gm_bytes slot_bytes_find type_bytes_find h
  | strip => obtain ⟨b, t, rfl⟩ := MK.fits_bytes (by intro e; cases e) hk r; simp only [MK.name, MK.id] at h ⊢; with_reducible exact gm_bytes slot_bytes_strip type_bytes_strip h
  | joinB => obtain ⟨b, t, rfl⟩ := MK.fits_bytes (by intro e; cases e) hk r; simp only [MK.name, MK.id] at h ⊢; with_reducible exact gm_bytes slot_bytes_join type_bytes_join h
  | joinS =>
    cases r with
    | str x t => simp only [MK.name, MK.id] at h ⊢; with_reducible exact GM.join h
    | _ => exact hk.elim
theorem MethR.ok {k : MK} {a d : AV} {as : List AV} {v : Value} {vs : List Value} {E : Value → Shared → Prop} {Q : Value → Shared → Prop} (B : MethR k a as d) (S : St c σ sl s.heap) (r : Rep c.h₀ c.T sl v a) (rs : RepAll c.h₀ c.T sl vs as)
    (hQ : ∀ v tk, Rep c.h₀ c.T sl v d → Q v { s with toks := tk }) : wpAny (model c.prog c.w) c.A (call (.builtin k.id) (v :: vs)) Q E s := by
  obtain ⟨l, H⟩ := S.hp
  have hs : ∀ p ∈ sl, p ∈ sl ++ l := fun p hp => List.mem_append_left _ hp
  cases B with
  | find b c lo hi h hb =>
    cases r
    cases rs with | cons r1 rs => cases rs with | cons r2 rs => cases rs with | cons r3 rs =>
    cases rs; cases r1; cases r2; cases r3
    exact call_meets slot_bytes_find (typeIs_bytes s _ _) entry_bytes_find (args_bytes_find _ _ _ _) (meets_find b c _ _ _ _ lo hi h hb) (fun t' k => hQ _ _ (.int _ _))
  | strip b hb =>
    cases r
    cases rs with | cons r1 rs =>
    cases rs; cases r1
    exact call_meets slot_bytes_strip (typeIs_bytes s _ _) entry_bytes_strip (args_bytes_strip _ _) (meets_strip b _ _ hb) (fun t' k => hQ _ _ (.bytes _ _))
  | joinB b bs hz hz2 =>
    cases r
    cases rs with | cons r1 rs =>
    cases rs
    cases r1 with
    | lst i c1 d1 r1 =>
      exact call_meets slot_bytes_join (typeIs_bytes s _ _) entry_bytes_join (args_bytes_join _ _) (meets_join b.toArray _ _ _ bs (bytesAll_of r1) (by simpa using hz) (by simpa using hz2)) ⟨i.list H hs c1 d1, fun t' k => hQ _ _ (.bytes _ _)⟩
  | joinS xs hz =>
    cases r
    cases rs with | cons r1 rs =>
    cases rs
    cases r1 with
    | lst i c1 d1 r1 =>
      refine join_list (x := PySem.Str.ofString "") (i.list H hs c1 d1) (by simpa using strsAre_of r1) ?_ fun t' k => ?_
      · have e0 : (PySem.Str.ofString "").length = 0 := rfl
        have e1 : (List.map (fun x : PySem.Str => x.length) (xs.map fun x => PySem.Str.mk x.toArray)) = xs.map (·.length) := by
          rw [List.map_map]; exact List.map_congr_left fun x _ => by simp [Function.comp_def, PySem.Str.length]
        rw [e0, e1]; omega
      · rw [flat_join]; exact hQ _ _ (.str _ _)

variable {Φ : AV → Sg → Prop} {pos : Pos}
@[reducible] noncomputable def vmK2 (k : MK) (a : AV) (Φ : AV → Sg → Prop) : List AV → Sg → Prop := fun as σ2 => ExR (MethR k a as) Φ σ2
@[reducible] noncomputable def vmK (c : Cx) (k : MK) (pos : Pos) (es : List Expr) (Φ : AV → Sg → Prop) : AV → Sg → Prop := fun a σ1 => k.fits a ∧ EVS c pos es σ1 (vmK2 k a Φ)
theorem EV.vmeth (k : MK) {o e : Expr} {es : List Expr} {name : Str} {apos : Pos} {pl : Sem Bool}
    (h : EV c o σ (vmK c k pos (e :: es) Φ)) (hn : name = k.name := by rfl)
    (he : eval (.Call (.Attribute o name apos) (e :: es) [] pos) c.env = (do
      let ov ← eval o c.env
      standAt apos.atName
      let (f, first) ← holding [ov] (getMethod ov name pl)
      callWith pos f first (backTo pos (starEach (e :: es) c.env)) []) := by with_unfolding_all rfl)
    (hst : starEach (e :: es) c.env = (false, eval e c.env) :: starEach es c.env := by rfl) (hpl : (backTo pos (starEach (e :: es) c.env)).any (·.1) = false := by rfl) : EV c (.Call (.Attribute o name apos) (e :: es) [] pos) σ Φ := by
  intro sl s S Q hQ
  subst hn
  refine MethodCall_ (h sl s S _ fun v a σ1 sl1 h1 tk1 s1 S1 r k => ?_) he
  refine MK.get (s := { s with heap := h1, toks := tk1 }) k.1 r ?_
  have h' := k.2 sl1 { s with heap := h1, toks := tk1 } S1
  rw [hst] at h' hpl ⊢
  refine callWith_builtin hpl (evalArgs_plain (h' _ fun vs as σ2 sl2 h2 tk2 s2 S2 rs k => ?_))
  obtain ⟨d, B, k⟩ := k
  exact B.ok (s := { s with heap := h2, toks := tk2 }) S2 (r.mono s2) rs fun v tk rv => hQ v d σ2 sl2 h2 tk (fun p hp => s2 p (s1 p hp)) S2 rv k
end
end Mine
namespace Mine
open PySem PySem.W PySem.Calls PyProof.Rows PyProof.Rows.LCg PySem.SeqAt Builtin
section
variable {c : Cx} {σ : Sg} {n : Nat} {Φ : AV → Sg → Prop} {Φf : Fl → Sg → Prop} {pos : Pos}
@[reducible] noncomputable def newK (Φ : AV → Sg → Prop) : List AV → Sg → Prop := fun as σ' => as.length ≤ 1000 ∧ Φ (.new as) σ'
theorem EV.lstN {es : List Expr} (h : EVS c pos es σ (newK Φ)) : EV c (.List es pos) σ Φ := by
  intro sl s S Q hQ
  refine wpAny_List_spliced (h sl s S _ fun vs as σ' sl' h' tk' s' S' rs k => ⟨?_, ?_⟩)
  · have := rs.length; have := k.1; rw [sizeLine_eq]; omega
  · have hsub : ∀ p ∈ sl', p ∈ (h'.objs.size, listOf vs.toArray 0) :: sl' := fun p hp => List.mem_cons_of_mem _ hp
    exact hQ _ (.new as) σ' ((h'.objs.size, listOf vs.toArray 0) :: sl') _ tk' (fun p hp => hsub p (s' p hp)) (S'.push _) (.new List.mem_cons_self rfl (rs.mono hsub)) k.2

/-- «x[i] += e», x an open list's name -/
theorem EX.augO {x : Str} {p ip : Pos} {i e : Expr} {l : List AV} (K : CxOk c n) (hx : σ.ev x = some (.opn l))
    (h : ∀ D hid, EV (c.withHid hid) i (σ.set x (.pin D)) (fun k σ1 => ∃ (j : Nat) (a : Int), k = .int (j : Int) ∧ j < 1000000 ∧ l[j]? = some (.int a) ∧
      EV (c.withHid hid) e σ1 (fun b σ2 => ∃ d : Int, b = .int d ∧ σ2.ev x = some (.pin D) ∧ Φf .nxt (σ2.set x (.opn (l.set j (.int (a + d))))))))
    (hi : ∀ ov iv new, augStore i ov iv new = (do holding [new, ov, iv] (setItem ov iv new); release [new, ov, iv] []; pure .next) := by intros; rfl)
    (hd : (x == ("__debug__" : Str)) = false := by decide) : EX c (.AugAssign (.Subscript (.Name x p) i ip) .Add e pos) σ Φf := by
  intro sl s S Q hQ
  obtain ⟨D, o, ws, mm, hl, r, hk, hns, hm, ho, S1⟩ := S.pin hx
  refine wpAny_AugAssign_SubscriptAny (wpAny_Name (wpAny_loadName_local K.kind hk hns hm ?_) hd) hi
  refine h D ((D, o) :: c.hid) sl s S1 _ fun v b σ' sl' h' tk' s' S' rv kk => ?_
  obtain ⟨j, a, rfl, hj, hg, k⟩ := kk
  cases rv
  obtain ⟨k0, rfl⟩ := hl.eq
  have hlst : h'.IsList D ws.toArray := ⟨_, S'.hidGet, rfl, k0, rfl⟩
  have hlen := r.length
  obtain ⟨v, hv, rv⟩ := r.get hg
  have hjl : j < ws.length := by
    rcases Nat.lt_or_ge j ws.length with h | h'
    · exact h
    · rw [List.getElem?_eq_none h'] at hv; cases hv
  cases rv
  refine wpAny_getItem_list (s := { s with heap := h', toks := tk' }) hlst (by omega) (by omega) (by simpa using hv) ?_
  refine k sl' { s with heap := h', toks := tk' } S' _ fun vd b σ2 sl2 h2 tk2 s2 S2 rd kk => ?_
  obtain ⟨d, rfl, hpin, hΦ⟩ := kk
  cases rd
  refine wpAny_iadd_int (s := { s with heap := h2, toks := tk2 }) ?_
  have fin : ∀ (kk : Nat) (u : Tok), kk = j → Q .next { s with heap := h2.update D (Obj.mapSeq (·.setIfInBounds kk (.int (a + d) u))), toks := tk2 + 1 } := by
    rintro kk u rfl
    obtain ⟨n', hg⟩ := setL_get (v := .int (a + d) u) (kk := kk) S2.hidGet hl
    exact hQ .next .nxt (σ2.set x (.opn (l.set kk (.int (a + d))))) sl2 _ (tk2 + 1) (fun p hp => s2 p (s' p hp)) ((S2.hidSet hl.noCell (Heap.SameBut.update ..) hg).unpin hpin ⟨rfl, _, rfl, rfl, rfl⟩ ((r.mono fun p hp => s2 p (s' p hp)).set _ (.int _ u))) .nxt hΦ
  refine ki_setAt (s := { s with heap := h2, toks := tk2 + 1 }) S2.hidGet (by omega) (by omega) (by simp; omega) (fin _ _ (by simp))
end

theorem enter {prog : Program} {w : World} {A : Around} {R : Result → Shared → Prop} {s : Shared} {f : Addr} {args : Args} {binds : List (Str × Value)}
    {oc : Value} {od : Option Addr} {osl : Array (Option Value)} {name qual : Str} {params : Arguments} {body : List Stmt} {scope : Scope} {dV kV doc pm cdv ct : Value} {an : Option Addr}
    (X : (hd.heap_39 w.params).In s.heap) (Lm : s.heap.NoLimit) (hr : A.depth < recursionLimit)
    (ho : (hd.heap_39 w.params).lookup f = some ⟨oc, od, .func (fnOf name qual params body scope dV kV doc pm an cdv ct), osl⟩) (hcd : codeIn (hd.heap_39 w.params) cdv qual = true)
    (hb : BindsTo s (fnOf name qual params body scope dV kV doc pm an cdv ct) args binds) (hlk : ∀ x ∈ binds, scope.names.lookup x.1 = some .local)
    (h : ∀ h₁ tk, (∀ b o, s.heap.get? b = some o → h₁.get? b = some o) → h₁.Ns s.heap.objs.size (bindL (envOfC qual scope s.heap.objs.size f cdv).kindOf binds fun _ => none) → s.heap.get? s.heap.objs.size = none →
      wpAny (model prog w) (A.deeper (envOfC qual scope s.heap.objs.size f cdv)) (execs body (envOfC qual scope s.heap.objs.size f cdv)) (fun fl s'' => R (.ok (.ret (match fl with | .ret v => v | _ => .none))) s'') (fun _ _ => False) { s with heap := h₁, toks := tk })
    (hco : scope.isCoroutine = false := by rfl) (hgen : scope.isGenerator = false := by rfl) (hk : scope.kind = .function := by rfl) : codeAny (model prog w) A (.call (.ref f) args) R s := by
  refine codeAny_call_function hr (X _ _ ho) rfl hco hgen rfl (codeRec_of X hcd) (hb _ _ _ _ ?_)
  refine wpAny_newFunctionEnv_cells hk (fun x hx => .inl (hlk x hx)) fun env' he s' x => ?_
  subst he
  refine ⟨Lm.keeps x.toInCall.keep, codeAny_func ?_⟩
  obtain ⟨h₁, tk, rfl, hk₁⟩ := x.done
  exact wpAny_mono (h h₁ tk hk₁ x.toInCall.ns (Hp.none_size _)) (fun _ _ z => z) fun _ _ z => z.elim

/-- a Field is made -/
theorem field_call {prog : Program} {w : World} {A : Around} {s : Shared} {n r : List UInt8} {t u : Tok} {l : Led} {h₀ : Heap} {Q : Value → Shared → Prop} {m : Nat} (B : Bs w h₀) (H : Hp h₀ s.heap l) (R : Room A (m + 1))
    (hQ : ∀ a d o h' tk', FldDict o n r → Hp h₀ h' (l ++ [(a, instObj 96 d), (d, o)]) → Q (.ref a) { s with heap := h', toks := tk' }) : wpAny (model prog w) A (call (.ref 96) [.bytes n.toArray t, .bytes r.toArray u]) Q (fun _ _ => False) s := by
  have X : (hd.heap_39 w.params).In s.heap := fun a o e => H.keep a o (B.K a o e)
  obtain ⟨h, g, d, tk, os⟩ := s
  refine wpAny_call (make_core (makes_of X (by rfl)) (looks_findIn X (by rfl)) (fun self => bind_fn X self (by rfl)) (.inl rfl) ?_)
  have kk : ∀ b o, h.get? b = some o → ((h.push emptyDict).push (instObj 96 h.objs.size)).get? b = some o := fun b o e => Heap.get?_push_of_some _ (Heap.get?_push_of_some _ e)
  have X2 : (hd.heap_39 w.params).In ((h.push emptyDict).push (instObj 96 h.objs.size)) := fun a o e => kk _ _ (X a o e)
  have hz : ((h.push emptyDict).push (instObj 96 h.objs.size)).objs.size = h.objs.size + 2 := by simp [Heap.size_push]
  refine enter (binds := [(("self" : Str), Value.ref (h.objs.size + 1)), ("name", .bytes n.toArray t), ("raw", .bytes r.toArray u)]) X2 ((B.lim.keeps H.keep).keeps kk) ?_ (by rfl) (by rfl) (BindsTo.of_eq rfl) (fun x hx => ?_) fun h₁ tk1 hk1 hns hnone => ?_
  · have := R.hd; simp only [recursionLimit]; show A.depth + 1 < 1000; omega
  · simp only [List.mem_cons, List.not_mem_nil, or_false] at hx
    rcases hx with rfl | rfl | rfl <;> rfl
  generalize hA : (A.under (Code.builtin "type.__call__" ⟨[Value.ref 96, Value.bytes n.toArray t, Value.bytes r.toArray u], []⟩)).deeper _ = A2
  clear hA
  dsimp only at hk1 hns hnone ⊢
  rw [hz] at hns hnone ⊢
  have hx : h₁.get? (h.objs.size + 1) = some (instObj 96 h.objs.size) := hk1 _ _ (by heap_get)
  have hd0 : h₁.get? h.objs.size = some (dictOf [] 0) := hk1 _ _ (Heap.get?_push_of_some _ (Heap.get?_push_size _ rfl))
  have F : Fr h (h.objs.size + 2) h₁ _ := ⟨hns, fun b o e => hk1 _ _ (kk b o e), by omega⟩
  have N : News h (h.objs.size + 2) h₁ [(h.objs.size + 1, instObj 96 h.objs.size), (h.objs.size, dictOf [] 0)] := fun p hp => by
    simp only [List.mem_cons, List.not_mem_nil, or_false] at hp
    rcases hp with rfl | rfl
    · exact ⟨hx, by simp, Heap.get?_none_of_le (by simp)⟩
    · exact ⟨hd0, by simp, Heap.get?_none_of_le (by simp)⟩
  refine wpAny_execs_cons (plainObj_wpAny_Assign_Attribute (wpAny_Name (wpAny_loadName_local rfl rfl F.ns (by rfl) (wpAny_Name (wpAny_loadName_local rfl rfl F.ns (by rfl) ?_)))))
  refine set_dict (x := h.objs.size + 1) (ox := instObj 96 h.objs.size) F X N (InstAt.of_news N (.head _) (.tail _ (.head _))) rfl (by rfl) (by rfl) (by rfl) (by rfl) (by rfl) rfl (.tail (by simp) (.head (by simp))) (by show (1 : Nat) ≤ 1000; decide) fun h2 F2 N2 => ?_
  refine wpAny_execs_cons (plainObj_wpAny_Assign_Attribute (wpAny_Name (wpAny_loadName_local rfl rfl F2.ns (by rfl) (wpAny_Name (wpAny_loadName_local rfl rfl F2.ns (by rfl) ?_)))))
  refine set_dict (x := h.objs.size + 1) (ox := instObj 96 h.objs.size) F2 X N2 (InstAt.of_news N2 (.head _) (.tail _ (.head _))) rfl (by rfl) (by rfl) (by rfl) (by rfl) (by rfl) rfl (.tail (by simp) (.head (by simp))) (by show (2 : Nat) ≤ 1000; decide) fun h3 F3 N3 => ?_
  refine wpAny_execs_nil ⟨rfl, ?_⟩
  have e3 := N3 _ (.tail _ (.head _))
  have e2 := N3 _ (.head _)
  obtain ⟨o, ho, hfd⟩ : ∃ o, h3.get? h.objs.size = some o ∧ FldDict o n r := ⟨_, e3.1, _, _, _, _, _, _, _, rfl⟩
  refine hQ (h.objs.size + 1) h.objs.size o h3 _ hfd (H.addAll F3.keep (fun p hp => ?_) (by simp))
  simp only [List.mem_cons, List.not_mem_nil, or_false] at hp
  rcases hp with rfl | rfl
  · exact ⟨e2.1, Heap.get?_none_of_le (by simp)⟩
  · exact ⟨ho, Heap.get?_none_of_le (by simp)⟩

section
variable {c : Cx} {σ : Sg} {n : Nat} {Φ : AV → Sg → Prop} {Φf : Fl → Sg → Prop} {pos : Pos}
inductive FieldE (as : List AV) (Φ : AV → Sg → Prop) (σ : Sg) : Prop
  | mk (n r : List UInt8) (e : as = [.bytes n, .bytes r]) (h : Φ (.fld n r) σ) : FieldE as Φ σ
@[reducible] noncomputable def fieldK (Φ : AV → Sg → Prop) : List AV → Sg → Prop := fun as σ1 => FieldE as Φ σ1
/-- «Field(a, b)» -/
theorem EV.field {x : Str} {p : Pos} {e1 e2 : Expr} (K : CxOk c (n + 1)) (g : nsIn (hd.heap_39 c.w.params) mainGlobals x = some (some (.ref 96))) (hk : c.env.kindOf x = some .globalImplicit)
    (h : EVS c pos [e1, e2] σ (fieldK Φ))
    (he : starEach [e1, e2] c.env = (false, eval e1 c.env) :: starEach [e2] c.env := by rfl) (hpl : (backTo pos (starEach [e2] c.env)).any (·.1) = false := by rfl) (hx : (x == ("__debug__" : Str)) = false := by decide) : EV c (.Call (.Name x p) [e1, e2] [] pos) σ Φ := by
  intro sl s S Q hQ
  have X : (hd.heap_39 c.w.params).In s.heap := by
    obtain ⟨l, H⟩ := S.hp
    exact fun a o e => H.keep a o (K.bs.K a o e)
  refine wpAny_Call_Name_kw (fname K S g hk ?_ hx)
  show wpAny _ _ (callWith pos (.ref 96) [] (backTo pos (starEach [e1, e2] c.env)) []) _ _ s
  refine callWith_K (K := hd.heap_39 c.w.params) (h₀ := s.heap) X (by rfl) (h sl s S _ fun vs as σ1 sl1 h1 tk1 s1 S1 rs k => ?_) he hpl
  obtain ⟨n, r, rfl, k⟩ := k
  cases rs with | cons r1 rs => cases rs with | cons r2 rs =>
  cases rs; cases r1; cases r2
  obtain ⟨tl, oD, op, mm, H, t1, n1, R1⟩ := S1
  refine ⟨fun a o e => H.keep a o (K.bs.K a o e), field_call (s := { s with heap := h1, toks := tk1 }) K.bs H K.room fun a d o h' tk' hf H' => ?_⟩
  have hsub : ∀ p ∈ sl1, p ∈ [(a, instObj 96 d), (d, o)] ++ sl1 := fun p hp => List.mem_append_right _ hp
  have hp : ((sl1 ++ (c.hid ++ (op ++ ((c.env.locals, oD) :: tl)))) ++ [(a, instObj 96 d), (d, o)]).Perm (([(a, instObj 96 d), (d, o)] ++ sl1) ++ (c.hid ++ (op ++ ((c.env.locals, oD) :: tl)))) := by
    refine List.perm_append_comm.trans ?_
    rw [List.append_assoc]
  exact hQ (.ref a) (.fld n r) σ1 ([(a, instObj 96 d), (d, o)] ++ sl1) h' tk' (fun p hp => hsub p (s1 p hp)) ⟨tl, oD, op, mm, H'.perm hp, t1, n1, R1.mono hsub⟩ (.fld (d := d) (o := o) (List.mem_append_left _ (.head _)) (List.mem_append_left _ (.tail _ (.head _))) hf) k
end
end Mine
namespace Mine
open PySem PySem.W PySem.Calls PyProof.Rows PyProof.Rows.LCg PySem.SeqAt Builtin
section
variable {c : Cx} {σ : Sg} {n : Nat}
theorem ASG.mono {tgt : Expr} {a : AV} {Ψ Ψ' : Sg → Prop} (h : ASG c tgt a σ Ψ) (hi : ∀ σ', Ψ σ' → Ψ' σ') : ASG c tgt a σ Ψ' :=
  fun sl s v S r Q E hQ => h sl s v S r Q E fun σ' sl' h' tk' s' S' k => hQ σ' sl' h' tk' s' S' (hi _ k)
@[reducible] noncomputable def loopK (I : List AV → Sg → Prop) (l : List AV) (Φ : Fl → Sg → Prop) : Fl → Sg → Prop := fun f σ2 => match f with
  | .nxt => I l σ2
  | .cnt => I l σ2
  | .brk => Φ .nxt σ2
  | .ret a => Φ (.ret a) σ2
/-- a loop by an invariant over the items that are left -/
theorem FORL.inv {tgt : Expr} {body : List Stmt} {Φ : Fl → Sg → Prop} (I : List AV → Sg → Prop)
    (step : ∀ hid d l σ, I (d :: l) σ → ASG (c.withHid hid) tgt d σ (bodyK (c.withHid hid) body (loopK I l Φ)))
    (fin : ∀ σ, I [] σ → Φ .nxt σ) : ∀ (items : List AV) (σ : Sg), I items σ → FORL c tgt body items σ Φ
  | [], σ, h => fin σ h
  | d :: l, σ, h => fun hid => (step hid d l σ h).mono fun σ1 k => k.mono fun f σ2 k2 => by
    cases f with
    | nxt => exact FORL.inv I step fin l σ2 k2
    | cnt => exact FORL.inv I step fin l σ2 k2
    | brk => exact k2
    | ret a => exact k2
theorem TST.mono {ifs : List Expr} {Ψ Ψ' : Bool → Sg → Prop} (h : TST c ifs σ Ψ) (hi : ∀ b σ', Ψ b σ' → Ψ' b σ') : TST c ifs σ Ψ' := by
  match ifs, h with
  | [], h => exact hi _ _ h
  | [t], h => exact fun sl s S Q hQ => (show IT c t σ Ψ from h) sl s S Q fun b σ' sl' h' tk' s' S' k => hQ b σ' sl' h' tk' s' S' (hi _ _ k)
/-- a comprehension by an invariant -/
theorem COMPL.inv {scope : Scope} {fs : List Str} {tgt elt : Expr} {ifs : List Expr} {Φ : List AV → Sg → Prop} (I : List AV → List AV → Sg → Prop)
    (step : ∀ C hid d l acc σ, I (d :: l) acc σ → ASG (cCx c scope fs C hid) tgt d σ (fun σ1 => TST (cCx c scope fs C hid) ifs σ1 (fun b σ2 =>
      if b then EV (cCx c scope fs C hid) elt σ2 (fun a σ3 => I l (acc ++ [a]) σ3) else I l acc σ2)))
    (fin : ∀ acc σ, I [] acc σ → Φ acc σ) : ∀ (items acc : List AV) (σ : Sg), I items acc σ → COMPL c scope fs tgt ifs elt items acc σ Φ
  | [], acc, σ, h => fin acc σ h
  | d :: l, acc, σ, h => fun C hid => (step C hid d l acc σ h).mono fun σ1 k => k.mono fun b σ2 k2 => by
    cases b with
    | true => exact (show EV _ _ _ _ from k2).mono fun a σ3 k3 => COMPL.inv I step fin l _ σ3 k3
    | false => exact COMPL.inv I step fin l acc σ2 k2
@[reducible] noncomputable def tstK (c : Cx) (ifs : List Expr) (Ψ : Bool → Sg → Prop) : Sg → Prop := fun σ1 => TST c ifs σ1 Ψ
@[reducible] noncomputable def isK (v : AV) (J : Sg → Prop) : AV → Sg → Prop := fun a σ3 => a = v ∧ J σ3
@[reducible] noncomputable def pickK (c : Cx) (elt : Expr) (px : Bool) (fx : AV) (J : Sg → Prop) : Bool → Sg → Prop := fun b σ2 => px = b ∧ if b then EV c elt σ2 (isK fx J) else J σ2
/-- a comprehension that keeps the items p, and tells f of each -/
theorem COMPL.fm {α : Type} {scope : Scope} {fs : List Str} {tgt elt : Expr} {ifs : List Expr} {Φ : List AV → Sg → Prop} (J : Sg → Prop) (e : α → AV) (p : α → Bool) (f : α → AV) (items : List α)
    (step : ∀ C hid x σ, x ∈ items → J σ → ASG (cCx c scope fs C hid) tgt (e x) σ (tstK (cCx c scope fs C hid) ifs (pickK (cCx c scope fs C hid) elt (p x) (f x) J)))
    (fin : ∀ σ, J σ → Φ ((items.filter p).map f) σ) (hJ : J σ) : COMPL c scope fs tgt ifs elt (items.map e) [] σ Φ := by
  refine COMPL.inv (fun l acc σ => ∃ pre post, items = pre ++ post ∧ l = post.map e ∧ acc = (pre.filter p).map f ∧ J σ) ?_ ?_ _ [] σ ⟨[], items, rfl, rfl, rfl, hJ⟩
  · rintro C hid d l acc σ ⟨pre, post, h1, h2, h3, h4⟩
    cases post with
    | nil => cases h2
    | cons x post =>
      simp only [List.map_cons, List.cons.injEq] at h2
      obtain ⟨rfl, rfl⟩ := h2
      refine (step C hid x σ (by rw [h1]; simp) h4).mono fun σ1 k => k.mono fun b σ2 k2 => ?_
      obtain ⟨k1, k2⟩ := k2
      cases b with
      | true =>
        refine (show EV _ _ _ _ from k2).mono fun a σ3 k3 => ?_
        obtain ⟨rfl, k3⟩ := k3
        exact ⟨pre ++ [x], post, by rw [h1]; simp, rfl, by rw [h3, List.filter_append, List.map_append]; simp [k1], k3⟩
      | false => exact ⟨pre ++ [x], post, by rw [h1]; simp, rfl, by rw [h3, List.filter_append, List.map_append]; simp [k1], k2⟩
  · rintro acc σ ⟨pre, post, h1, h2, h3, h4⟩
    have : post = [] := by
      cases post with
      | nil => rfl
      | cons _ _ => cases h2
    subst this
    rw [List.append_nil] at h1
    subst h1
    rw [h3]; exact fin σ h4
end
theorem Sg.same {σ : Sg} {x : Str} {v : Slot} : (σ.set x v).ev x = some v := if_pos rfl
theorem Sg.other {σ : Sg} {x y : Str} {v : Slot} {r : Option Slot} (h : y ≠ x) (e : σ.ev y = r) : (σ.set x v).ev y = r := (if_neg h).trans e
theorem Sg.settp {σ : Sg} {x : Str} {v : Slot} : (σ.set x v).tp = σ.tp := rfl
end Mine
namespace Mine
open PySem PySem.W PySem.Calls PyProof.Rows PyProof.Rows.LCg PySem.SeqAt Builtin
theorem ite_yes {b : Prop} [Decidable b] {P Q : Prop} (h : b) (k : P) : if b then P else Q := by rw [if_pos h]; exact k
theorem ite_cases {b : Prop} [Decidable b] {P Q : Prop} (h1 : b → P) (h2 : ¬ b → Q) : if b then P else Q := if h : b then ite_yes h (h1 h) else by rw [if_neg h]; exact h2 h
theorem ite_no {b : Prop} [Decidable b] {P Q : Prop} (h : ¬ b) (k : Q) : if b then P else Q := by rw [if_neg h]; exact k
section
variable {c : Cx} {σ : Sg} {n : Nat} {Φ : AV → Sg → Prop} {pos p : Pos} {e : Expr}
theorem IT.mono {Ψ Ψ' : Bool → Sg → Prop} (h : IT c e σ Ψ) (hi : ∀ b σ', Ψ b σ' → Ψ' b σ') : IT c e σ Ψ' :=
  fun sl s S Q hQ => h sl s S Q fun b σ' sl' h' tk' s' S' k => hQ b σ' sl' h' tk' s' S' (hi _ _ k)
theorem EX.mono {st : Stmt} {Φ Φ' : Fl → Sg → Prop} (h : EX c st σ Φ) (hi : ∀ a σ', Φ a σ' → Φ' a σ') : EX c st σ Φ' :=
  fun sl s S Q hQ => h sl s S Q fun f g σ' sl' h' tk' s' S' r k => hQ f g σ' sl' h' tk' s' S' r (hi _ _ k)
theorem TST.no {Ψ : Bool → Sg → Prop} (h : Ψ true σ) : TST c [] σ Ψ := h
theorem TST.one {t : Expr} {Ψ : Bool → Sg → Prop} (h : IT c t σ Ψ) : TST c [t] σ Ψ := h
theorem EV.len (K : CxOk c n) (hk : c.env.kindOf "len" = some .globalImplicit) (h : EV c e σ (bfnK (.builtin "len") Φ)) (he : starEach [e] c.env = [(false, eval e c.env)] := by rfl) : EV c (.Call (.Name "len" p) [e] [] pos) σ Φ :=
  EV.bcall K (by rfl) (by boot_by_name) hk (by rfl) h he
theorem EV.range (K : CxOk c n) (hk : c.env.kindOf "range" = some .globalImplicit) (h : EV c e σ (bfnK (.type "range") Φ)) (he : starEach [e] c.env = [(false, eval e c.env)] := by rfl) : EV c (.Call (.Name "range" p) [e] [] pos) σ Φ :=
  EV.bcall K (by rfl) (by boot_by_name) hk (by rfl) h he
theorem EV.chr (K : CxOk c n) (hk : c.env.kindOf "chr" = some .globalImplicit) (h : EV c e σ (bfnK (.builtin "chr") Φ)) (he : starEach [e] c.env = [(false, eval e c.env)] := by rfl) : EV c (.Call (.Name "chr" p) [e] [] pos) σ Φ :=
  EV.bcall K (by rfl) (by boot_by_name) hk (by rfl) h he
theorem EV.ord (K : CxOk c n) (hk : c.env.kindOf "ord" = some .globalImplicit) (h : EV c e σ (bfnK (.builtin "ord") Φ)) (he : starEach [e] c.env = [(false, eval e c.env)] := by rfl) : EV c (.Call (.Name "ord" p) [e] [] pos) σ Φ :=
  EV.bcall K (by rfl) (by boot_by_name) hk (by rfl) h he
theorem EV.abs (K : CxOk c n) (hk : c.env.kindOf "abs" = some .globalImplicit) (h : EV c e σ (bfnK (.builtin "abs") Φ)) (he : starEach [e] c.env = [(false, eval e c.env)] := by rfl) : EV c (.Call (.Name "abs" p) [e] [] pos) σ Φ :=
  EV.bcall K (by rfl) (by boot_by_name) hk (by rfl) h he
theorem EV.intc (K : CxOk c n) (hk : c.env.kindOf "int" = some .globalImplicit) (h : EV c e σ (bfnK (.type "int") Φ)) (he : starEach [e] c.env = [(false, eval e c.env)] := by rfl) : EV c (.Call (.Name "int" p) [e] [] pos) σ Φ :=
  EV.bcall K (by rfl) (by boot_by_name) hk (by rfl) h he
theorem EV.bytesc (K : CxOk c n) (hk : c.env.kindOf "bytes" = some .globalImplicit) (h : EV c e σ (bfnK (.type "bytes") Φ)) (he : starEach [e] c.env = [(false, eval e c.env)] := by rfl) : EV c (.Call (.Name "bytes" p) [e] [] pos) σ Φ :=
  EV.bcall K (by rfl) (by boot_by_name) hk (by rfl) h he
theorem ITR.enumc {k1 : Nat} {elts : List Expr} {tp : Pos} {Φ : List AV → Sg → Prop} (K : CxOk c n) (hk : c.env.kindOf "enumerate" = some .globalImplicit)
    (h : EV c e σ (fun a σ' => (∃ l, a = .lst l ∧ Φ (enumed l) σ') ∨ (∃ b : List UInt8, a = .bytes b ∧ Φ (enumed (b.map fun c => .int (c.toNat : Int))) σ'))) (he : starEach [e] c.env = [(false, eval e c.env)] := by rfl) : ITR c (.Call (.Name "enumerate" p) [e] [] pos) (.Tuple elts k1 tp) σ Φ :=
  ITR.enum K (by rfl) (by boot_by_name) hk (by rfl) h he
theorem EV.white (K : CxOk c n) (hk : c.env.kindOf "WHITE" = some .globalImplicit) (h : Φ (.tup [.int 32, .int 9]) σ) : EV c (.Name "WHITE" p) σ Φ :=
  EV.glob (v := .ref 67) K (by rfl) hk (fun sl => .tup (.inr (K.bs.K 67 _ (gwt _))) (.cons (.int _ _) (.cons (.int _ _) .nil))) h
theorem EV.crlf (K : CxOk c n) (hk : c.env.kindOf "CRLF" = some .globalImplicit) (h : Φ (.bytes [13, 10]) σ) : EV c (.Name "CRLF" p) σ Φ :=
  EV.glob (v := .bytes [13, 10].toArray 247) K (by rfl) hk (fun sl => .bytes [13, 10] _) h
@[reducible] noncomputable def nameF (Φ : AV → Sg → Prop) : List UInt8 → List UInt8 → Sg → Prop := fun x _ σ1 => Φ (.bytes x) σ1
@[reducible] noncomputable def rawF (Φ : AV → Sg → Prop) : List UInt8 → List UInt8 → Sg → Prop := fun _ y σ1 => Φ (.bytes y) σ1
theorem EV.nameA {o : Expr} (K : CxOk c n) (h : EV c o σ (fldK (nameF Φ)))
    (he : eval (.Attribute o "name" pos) c.env = (do
      let ov ← eval o c.env
      standAt pos.atName
      let r ← holding [ov] (getAttr ov "name" true)
      letTemporaryGo o ov r
      pure r) := by with_unfolding_all rfl)
    (hl : ∀ ov r, letTemporaryGo o ov r = pure () := by intro _ _; rfl) : EV c (.Attribute o "name" pos) σ Φ :=
  EV.attr K (.inl rfl) (h.mono fun a σ' ⟨x, y, e, k⟩ => ⟨x, y, e, by unfold attrF; rw [if_pos rfl]; exact k⟩) he hl
theorem EV.rawA {o : Expr} (K : CxOk c n) (h : EV c o σ (fldK (rawF Φ)))
    (he : eval (.Attribute o "raw" pos) c.env = (do
      let ov ← eval o c.env
      standAt pos.atName
      let r ← holding [ov] (getAttr ov "raw" true)
      letTemporaryGo o ov r
      pure r) := by with_unfolding_all rfl)
    (hl : ∀ ov r, letTemporaryGo o ov r = pure () := by intro _ _; rfl) : EV c (.Attribute o "raw" pos) σ Φ :=
  EV.attr K (.inr rfl) (h.mono fun a σ' ⟨x, y, e, k⟩ => ⟨x, y, e, by unfold attrF; rw [if_neg (by decide)]; exact k⟩) he hl
noncomputable def OwnL (c : Cx) : List Str → Prop
  | [] => True
  | x :: xs => Own c x ∧ OwnL c xs
theorem OwnL.all {c : Cx} : ∀ {xs : List Str}, OwnL c xs → ∀ x ∈ xs, Own c x
  | x :: xs, h, y, hy => by
    rcases List.mem_cons.mp hy with rfl | hy
    · exact h.1
    · exact OwnL.all h.2 y hy
theorem ASG.tupL {es : List Expr} {x1} {tp : Pos} {as : List AV} {Ψ : Sg → Prop} (K : CxOk c n) (hn : (namesOf es).length = es.length) (hl : es.length = as.length) (ho : OwnL c (namesOf es)) (h : Ψ (stores σ (namesOf es) as))
    (he : (assignEach es c.env).map (·.2) = es.map fun e => assign e c.env) (hs : (assignEach es c.env).findIdx? (·.1) = Option.none) : ASG c (.Tuple es x1 tp) (.tup as) σ Ψ := ASG.tup K hn hl ho.all h he hs
theorem EVO.some {Φ : Option Int → Sg → Prop} (h : EV c e σ (someK Φ)) : EVO c (Option.some e) σ Φ := h
theorem EVO.none {Φ : Option Int → Sg → Prop} (h : Φ Option.none σ) : EVO c Option.none σ Φ := h
theorem gnt : ∀ P : Params, ∃ t0 t1 t2 t3 t4 n, (hd.heap_39 P).lookup 202 = some (tupOf [.bytes [116, 111].toArray t0, .bytes [116, 111, 101].toArray t1, .bytes [120, 91].toArray t2, .bytes [120, 123].toArray t3, .bytes [99, 99, 45, 49].toArray t4].toArray n) := by
  intro P
  exact ⟨_, _, _, _, _, _, rfl⟩
theorem EV.names (K : CxOk c n) (hk : c.env.kindOf "_law_names" = some .globalImplicit) (h : Φ (.tup [.bytes [116, 111], .bytes [116, 111, 101], .bytes [120, 91], .bytes [120, 123], .bytes [99, 99, 45, 49]]) σ) : EV c (.Name "_law_names" p) σ Φ := by
  obtain ⟨t0, t1, t2, t3, t4, n, e⟩ := gnt c.w.params
  exact EV.glob (v := .ref 202) K (by rfl) hk (fun sl => .tup (.inr (K.bs.K 202 _ e)) (.cons (.bytes _ _) (.cons (.bytes _ _) (.cons (.bytes _ _) (.cons (.bytes _ _) (.cons (.bytes _ _) .nil)))))) h
end
end Mine
namespace Mine
open PySem PySem.W PySem.Calls PyProof.Rows PyProof.Rows.LCg PySem.SeqAt Builtin
/-- a row of the walk, told short: the rule, then what closes each of its asks ('_': the walk goes on there) -/
def goShut (c : String) : Lean.MacroM (Lean.TSyntax `tactic) :=
  if c == "K" then `(tactic| walk_at "K") else if c == "r" then `(tactic| rfl) else if c == "u" then `(tactic| with_unfolding_all rfl) else if c == "v" then `(tactic| walk_at "ev") else if c == "d" then `(tactic| decide) else if c == "O" then `(tactic| walk_at "own") else if c == "U" then `(tactic| (intro _ _; with_unfolding_all rfl)) else if c == "R" then `(tactic| (intro _ _; rfl)) else `(tactic| first | omega | (simp; omega) | (simp; done))
def goRow (x : String) : Lean.MacroM (Lean.TSyntax `tactic) := do
  let ws := x.splitOn " "
  let f := Lean.mkIdent ws.head!.toName
  let mut as : Array Lean.Term := #[]
  let mut ts : Array (Lean.TSyntax `tactic) := #[]
  for w in ws.tail! do
    if w == "_" then as := as.push (← `(?_))
    else if w == "*" then as := as.push (← `(_))
    else if w == "!" || w == "^" then
      if w == "!" then ts := ts.push (← `(tactic| intro _))
      ts := ts.push (← `(tactic| (intro hid'; (have Kh := CxOk.hide (by assumption) hid'))))
    else if w.startsWith "=" then as := as.push (Lean.mkIdent (w.drop 1).toName)
    else
      let h := Lean.mkIdent (Lean.Name.mkSimple s!"gh{as.size}")
      as := as.push (← `(?$h:ident))
      ts := ts.push (← `(tactic| (case $h:ident => $(← goShut w):tactic)))
  if ts.isEmpty then `(tactic| (with_reducible refine $f $as*)) else `(tactic| ((with_reducible refine' $f $as*); $[$ts];*))
def goRows (x : String) : Lean.MacroM (Lean.TSyntax `tactic) := do
  let ts ← (x.splitOn "; ").toArray.mapM goRow
  `(tactic| first $[| $ts:tactic]*)
def goCmp (x : String) : Lean.MacroM (Lean.TSyntax `tactic) := do
  let ts ← (x.splitOn " ").toArray.mapM fun w => `(tactic| refine ⟨_, $(Lean.mkIdent (`CmpR ++ w.toName)) _ _, ?_⟩)
  `(tactic| first $[| $ts:tactic]*)
theorem ret_of {Ψ : AV → Option (Int × Int × Int) → Prop} {x : AV} {y : Option (Int × Int × Int)} (h : Ψ x y) : ∀ a t, a = x ∧ t = y → Ψ a t := fun _ _ k => k.1.symm ▸ k.2.symm ▸ h
end Mine
namespace Mine
open PySem PySem.W PySem.Calls PyProof.Rows PyProof.Rows.LCg PySem.SeqAt Builtin
local macro_rules | `(tactic| walk_at "K") => `(tactic| assumption)
local macro_rules | `(tactic| walk_at "own") => `(tactic| first | exact Or.inl rfl | exact Or.inr ⟨rfl, rfl, rfl⟩)
local macro_rules | `(tactic| walk_at "ev") => `(tactic| first
  | (with_reducible assumption)
  | (with_reducible exact Sg.same)
  | ((with_reducible refine' Sg.other ?h ?_); (case h => decide); walk_at "ev")
  | rfl
  | assumption)
local macro_rules | `(tactic| walk_at "evs") => `(tactic| first
  | ((with_reducible refine' And.intro ?u ?_); (case u => walk_at "ev"); walk_at "evs")
  | walk_at "ev")
local macro_rules | `(tactic| walk_at "go") => do
  let t0 ← goRows "EXS.cons _; EXS.nil _; EX.ret _; EX.ite _; EX.asgL K r _; EX.asg K O _ r; EX.asgD K _ r r r r r; EX.asgS K _ r r; EX.asgT K _ r r; ASG.name K O _"
  let t2 ← goRows "EX.app K v z _ u r d !"
  let t4 ← goRows "EVT.consL _ r ^; EVT.cons _ r ^"
  let t6 ← goRows "EV.int _; EV.str _; EV.bytes _; EV.bool _; EV.none _; EV.name K v _ d; EV.nameO K v _ d; EV.bin _; EV.tup _; EV.lst _; EVS.nil _; EVS.cons _ r; EV.neg _; EV.and2 _; EV.ifx _; IT.not _; IT.and2 _; IT.or2 _; IT.or3 _; IT.cmp K _ u; IT.chain K _ u; EV.cmp K _ u; EV.sub _ U; EV.cut _"
  let t8 ← goRows "EV.vmeth =MK.find _ r u r r; EV.vmeth =MK.strip _ r u r r; EV.len K r _ r; EV.range K r _ r; EV.chr K r _ r; EV.ord K r _ r; EV.abs K r _ r; EV.intc K r _ r; EV.bytesc K r _ r; EV.white K r _; EV.crlf K r _; EV.names K r _; EV.nameA K _ u R; EV.rawA K _ u R; EVO.some _; EVO.none _"
  let t10 ← goRows "ExR.mk * =rfl _; FldE.mk * * =rfl _; FieldE.mk * * =rfl _; DrawE.mk * =rfl _; IT.val _ r; EV.field K r r _ r r d; TST.one _"
  let t12 ← goRows "EV.word K _ u; EV.told K _ u; EV.call K r r r _ r d"
  `(tactic| first
  | $t0:tactic
  | ((with_reducible refine' ASG.tupL ?K ?n ?l ?o ?_ ?e ?s); (case K => walk_at "K"); (case n => rfl); (case l => rfl); (case o => (repeat (first | exact trivial | (refine And.intro (by first | exact Or.inl rfl | exact Or.inr ⟨rfl, rfl, rfl⟩) ?_)))); (case e => rfl); (case s => rfl); (dsimp only [stores, namesOf]))
  | $t2:tactic
  | ((with_reducible refine' And.intro (a := Sg.ev _ _ = some (Slot.pin _)) ?u ?_); (case u => walk_at "ev"))
  | $t4:tactic
  | ((with_reducible refine EVT.nil ?_); (with_reducible refine' And.intro ?u (And.intro ?v (And.intro ?o ?_))); (case u => simp); (case v => rfl); (case o => (repeat (first | exact trivial | (refine And.intro (by first | rfl | exact Or.inl rfl | exact Or.inr ⟨rfl, rfl, rfl⟩) ?_)))); (dsimp only [setAll, namesOf, List.reverse_cons, List.reverse_nil, List.nil_append, List.cons_append]))
  | $t6:tactic
  | ((with_reducible refine' And.intro (a := List.length _ ≤ 1000) ?u ?_); (case u => simp))
  | ((with_reducible refine' And.intro (a := MK.fits _ _) ?u ?_); (case u => first | exact trivial | rfl))
  | $t8:tactic
  | (with_reducible refine Exists.intro _ (And.intro rfl ?_))
  | (with_reducible refine Exists.intro _ (Exists.intro _ (And.intro rfl ?_)))
  | $t10:tactic
  | ((with_reducible refine TST.no ?_); refine And.intro rfl (ite_yes rfl ?_))
  | $t12:tactic)
local macro_rules | `(tactic| walk_at "gs") => `(tactic| repeat walk_at "go")
local macro_rules | `(tactic| walk_at "cmp") => goCmp "eqI neI ltI leI gtI geI eqT"
local macro_rules | `(tactic| walk_at "dec") => `(tactic| first | (with_reducible assumption) | (simp only [decide_eq_true_eq, beq_iff_eq, bne_iff_ne, Bool.not_eq_true', decide_eq_false_iff_not] <;> omega) | decide)
local macro_rules | `(tactic| walk_at "yes") => `(tactic| ((with_reducible refine' ite_yes ?h ?_); (case h => first | (with_reducible rfl) | walk_at "dec")))
local macro_rules | `(tactic| walk_at "no") => `(tactic| ((with_reducible refine' ite_no ?h ?_); (case h => first | (with_reducible exact Bool.false_ne_true) | walk_at "dec")))
local macro_rules | `(tactic| walk_at "ret") => `(tactic| refine ret_of ?_)
local macro_rules | `(tactic| walk_at "sz") => `(tactic| first | omega | (simp only [List.length_append, List.length_cons, List.length_nil, List.length_map]; omega) | (simp <;> omega))

noncomputable def lowerI (i : Int) : Int := if 65 ≤ i ∧ i ≤ 90 then i + 32 else i
theorem lower_code_ok {prog : Program} {w : World} {h₀ : Heap} {T : Addr} {tp : Option (Int × Int × Int)} {n : Nat} (i : Int) : CALL prog w h₀ T 61 (n + 1) [.int i] tp (fun a t => a = .int (lowerI i) ∧ t = tp) := by
  refine CALL.intro (das := []) ["code"] (by rfl) (by rfl) (fun s X => ?_) (by rfl) (by decide) (fun A L hid K => ?_)
  · exact fun _ => ⟨[], BindsTo.of_eq rfl, fun _ => .nil⟩
  · refine EXS.cons (EX.ret (EV.ifx (IT.chain K (EV.int (EV.name (a := .int i) K (by rfl) ⟨_, .leI _ _, ?_⟩)))))
    refine ite_cases (fun h1 => ?_) (fun h1 => ?_)
    · refine EV.int ⟨_, .leI _ _, ?_⟩
      refine ite_cases (fun h2 => ?_) (fun h2 => ?_)
      · refine EV.bin (EV.name (a := .int i) K (by rfl) (EV.int ⟨_, .addI _ _, ?_, rfl⟩))
        simp_all [lowerI]
      · refine EV.name (a := .int i) K (by rfl) ⟨?_, rfl⟩
        simp_all [lowerI]
        omega
    · refine ite_no Bool.false_ne_true ?_
      refine EV.name (a := .int i) K (by rfl) ⟨?_, rfl⟩
      simp_all [lowerI]
      omega

noncomputable def lineAt (b : List UInt8) (lo hi : Nat) : Nat × Nat := match findAt b 10 lo hi with
  | none => (hi, hi)
  | some k => if lo < k ∧ b.getD (k - 1) 0 = 13 then (k - 1, k + 1) else (k, k + 1)
theorem findAt_some {b : List UInt8} {c : UInt8} {lo hi k : Nat} (h : findAt b c lo hi = some k) : lo ≤ k ∧ k < hi ∧ b[k]? = some c := by
  unfold findAt at h
  have h1 := List.find?_some h
  have h2 := List.mem_of_find?_eq_some h
  rw [List.mem_range'_1] at h2
  exact ⟨h2.1, by omega, by simpa using h1⟩
theorem line_at_ok {prog : Program} {w : World} {h₀ : Heap} {T : Addr} {tp : Option (Int × Int × Int)} {n : Nat} (b : List UInt8) (lo hi : Nat) (h : lo ≤ hi) (hb : hi ≤ b.length) (hz : b.length ≤ 1000000) :
    CALL prog w h₀ T 107 (n + 1) [.bytes b, .int lo, .int hi] tp (fun a t => a = .tup [.int (lineAt b lo hi).1, .int (lineAt b lo hi).2] ∧ t = tp) := by
  refine CALL.intro (das := []) ["data", "at", "end"] (by rfl) (by rfl) (fun s X => ?_) (by rfl) (by decide) (fun A L hid K => ?_)
  · exact fun _ _ _ => ⟨[], BindsTo.of_eq rfl, fun _ => .nil⟩
  · walk_at "gs"
    refine ⟨_, .find b 10 lo hi h hb, ?_⟩
    walk_at "gs"
    walk_at "cmp"
    cases hf : findAt b 10 lo hi with
    | none =>
      have e : findInt b 10 lo hi = -1 := by unfold findInt; rw [hf]
      have e2 : lineAt b lo hi = (hi, hi) := by unfold lineAt; rw [hf]
      rw [e, e2]
      walk_at "yes"
      walk_at "gs"
      exact ⟨rfl, rfl⟩
    | some k =>
      have e : findInt b 10 lo hi = k := by unfold findInt; rw [hf]
      have hk := findAt_some hf
      rw [e]
      walk_at "no"
      walk_at "gs"
      walk_at "cmp"
      by_cases h1 : lo < k
      · walk_at "yes"
        walk_at "gs"
        refine ⟨_, .subI _ _, ?_⟩
        have e1 : (k : Int) - 1 = ((k - 1 : Nat) : Int) := by omega
        rw [e1]
        refine ⟨_, .bytes b _ (by omega) (by omega) (by omega), ?_⟩
        walk_at "gs"
        walk_at "cmp"
        rw [Int.toNat_natCast]
        by_cases h2 : b.getD (k - 1) 0 = 13
        · have e2 : lineAt b lo hi = (k - 1, k + 1) := by unfold lineAt; rw [hf]; exact if_pos ⟨h1, h2⟩
          rw [e2, h2]
          refine ite_yes (by rfl) ?_
          walk_at "gs"
          refine ⟨_, .subI _ _, ?_⟩
          walk_at "gs"
          refine ⟨_, .addI _ _, ?_⟩
          walk_at "gs"
          refine ⟨?_, rfl⟩
          simp; omega
        · have e2 : lineAt b lo hi = (k, k + 1) := by unfold lineAt; rw [hf]; exact if_neg fun h => h2 h.2
          have h3 : ¬ (((b.getD (k - 1) 0).toNat : Int) == 13) = true := by
            intro h
            refine h2 (UInt8.toNat_inj.mp ?_)
            have := eq_of_beq h
            show _ = 13
            omega
          rw [e2]
          refine ite_no h3 ?_
          walk_at "gs"
          refine ⟨_, .addI _ _, ?_⟩
          walk_at "gs"
          refine ⟨?_, rfl⟩
          simp
      · have e2 : lineAt b lo hi = (k, k + 1) := by unfold lineAt; rw [hf]; exact if_neg fun h => h1 h.1
        rw [e2]
        walk_at "no"
        walk_at "no"
        walk_at "gs"
        refine ⟨_, .addI _ _, ?_⟩
        walk_at "gs"
        refine ⟨?_, rfl⟩
        simp
noncomputable def okB (c : UInt8) : Bool := !(decide (c < 33) || decide (126 < c) || c == 58)
noncomputable def isName (b : List UInt8) : Bool := b.all okB && !b.isEmpty
theorem u8_lt (c : UInt8) (k : Nat) (hk : k < 256) : ((c.toNat : Int) < (k : Int)) ↔ c < k.toUInt8 := by
  rw [UInt8.lt_iff_toNat_lt]
  have : k.toUInt8.toNat = k := by simp; omega
  omega
theorem u8_gt (c : UInt8) (k : Nat) (hk : k < 256) : ((k : Int) < (c.toNat : Int)) ↔ k.toUInt8 < c := by
  rw [UInt8.lt_iff_toNat_lt]
  have : k.toUInt8.toNat = k := by simp; omega
  omega
theorem u8_eq (c : UInt8) (k : Nat) (hk : k < 256) : ((c.toNat : Int) = (k : Int)) ↔ c = k.toUInt8 := by
  rw [← UInt8.toNat_inj]
  have : k.toUInt8.toNat = k := by simp; omega
  omega
theorem is_name_ok {prog : Program} {w : World} {h₀ : Heap} {T : Addr} {tp : Option (Int × Int × Int)} {n : Nat} (b : List UInt8) (hz : b.length ≤ 1000000) :
    CALL prog w h₀ T 114 (n + 1) [.bytes b] tp (fun a t => a = .bool (isName b) ∧ t = tp) := by
  refine CALL.intro (das := []) ["octets"] (by rfl) (by rfl) (fun s X => ?_) (by rfl) (by decide) (fun A L hid K => ?_)
  · exact fun _ => ⟨[], BindsTo.of_eq rfl, fun _ => .nil⟩
  · refine EXS.cons (EX.for K (ITR.of K (EV.name (a := .bytes b) K (by rfl) ⟨rfl, _, .bytes b, ?_⟩)))
    refine FORL.inv (fun l σ' => ∃ pre post : List UInt8, b = pre ++ post ∧ l = post.map (fun c => .int (c.toNat : Int)) ∧ pre.all okB = true ∧ σ'.tp = tp ∧ σ'.ev "octets" = some (.val (.bytes b))) ?_ ?_ _ _ ⟨[], b, rfl, rfl, rfl, rfl, rfl⟩
    · rintro hid d l σ ⟨pre, post, h1, h2, h3, h4, h5⟩
      have Kh := K.hide hid
      cases post with
      | nil => cases h2
      | cons x post =>
        simp only [List.map_cons, List.cons.injEq] at h2
        obtain ⟨rfl, rfl⟩ := h2
        have e1 := u8_lt x 33 (by decide)
        have e2 := u8_gt x 126 (by decide)
        have e3 := u8_eq x 58 (by decide)
        refine ASG.name Kh (.inl rfl) ?_
        walk_at "gs"
        walk_at "cmp"
        have hx : (okB x = true) ↔ ¬ ((x.toNat : Int) < 33 ∨ (126 : Int) < x.toNat ∨ (x.toNat : Int) = 58) := by
          unfold okB
          have e1' : ((x.toNat : Int) < 33) ↔ x < 33 := e1
          have e2' : ((126 : Int) < x.toNat) ↔ 126 < x := e2
          have e3' : ((x.toNat : Int) = 58) ↔ x = 58 := e3
          rw [e1', e2', e3']
          simp only [Bool.not_eq_true', Bool.or_eq_false_iff, decide_eq_false_iff_not, beq_eq_false_iff_ne, not_or, ne_eq, and_assoc]
        have hno : okB x = false → isName b = false := fun hf => by
          unfold isName
          rw [h1, List.all_append, List.all_cons, hf]
          simp
        have hstop : okB x = false → AV.bool false = AV.bool (isName b) ∧ σ.tp = tp := fun hf => ⟨by rw [hno hf], h4⟩
        by_cases g1 : (x.toNat : Int) < 33
        · walk_at "yes"
          walk_at "yes"
          walk_at "gs"
          exact hstop (by rw [Bool.eq_false_iff]; intro hh; exact hx.mp hh (.inl g1))
        · walk_at "no"
          walk_at "gs"
          walk_at "cmp"
          by_cases g2 : (126 : Int) < x.toNat
          · walk_at "yes"
            walk_at "yes"
            walk_at "gs"
            exact hstop (by rw [Bool.eq_false_iff]; intro hh; exact hx.mp hh (.inr (.inl g2)))
          · walk_at "no"
            walk_at "gs"
            walk_at "cmp"
            by_cases g3 : (x.toNat : Int) = 58
            · walk_at "yes"
              walk_at "gs"
              exact hstop (by rw [Bool.eq_false_iff]; intro hh; exact hx.mp hh (.inr (.inr g3)))
            · walk_at "no"
              walk_at "gs"
              refine ⟨pre ++ [x], post, by rw [h1]; simp, rfl, ?_, h4, by walk_at "ev"⟩
              rw [List.all_append, h3]
              simp only [List.all_cons, List.all_nil, Bool.and_true, Bool.true_and]
              exact hx.mpr fun hh => by rcases hh with hh | hh | hh <;> contradiction
    · rintro σ ⟨pre, post, h1, h2, h3, h4, h5⟩
      have : post = [] := by
        cases post with
        | nil => rfl
        | cons _ _ => cases h2
      subst this
      rw [List.append_nil] at h1
      subst h1
      walk_at "gs"
      refine ⟨_, .lenB b (by omega), ?_⟩
      walk_at "gs"
      walk_at "cmp"
      walk_at "gs"
      refine ⟨?_, h4⟩
      unfold isName
      rw [h3]
      cases b <;> simp
theorem clip_nat (n k : Nat) : clipAt n (k : Int) = min k n := by
  unfold clipAt
  split <;> omega
theorem cut_nat (b : List UInt8) (lo hi : Nat) (h : lo ≤ hi) (hb : hi ≤ b.length) : ((b.drop (clipAt b.length (lo : Int))).take (clipAt b.length (hi : Int) - clipAt b.length (lo : Int))) = (b.drop lo).take (hi - lo) := by
  rw [clip_nat, clip_nat, Nat.min_eq_left (by omega), Nat.min_eq_left (by omega)]
noncomputable def sliceB (b : List UInt8) (lo hi : Nat) : List UInt8 := (b.drop lo).take (hi - lo)
/-- a cut between two places -/
theorem CutR.nat {b : List UInt8} {lo hi : Nat} (h : lo ≤ b.length) (hb : hi ≤ b.length) (hz : b.length ≤ 16777216) : CutR (.bytes b) (some (lo : Int)) (some (hi : Int)) (.bytes (sliceB b lo hi)) := by
  have := CutR.bytes b (some (lo : Int)) (some (hi : Int)) hz
  simp only [Option.elim, clip_nat, Nat.min_eq_left h, Nat.min_eq_left hb] at this
  exact this
noncomputable def colonIn (b : List UInt8) (lo hi : Nat) : Int := match findAt b 58 lo hi with
  | some k => if isName (sliceB b lo k) then (k : Int) else -1
  | none => -1
theorem colon_in_ok {prog : Program} {w : World} {h₀ : Heap} {T : Addr} {tp : Option (Int × Int × Int)} {n : Nat} (b : List UInt8) (lo hi : Nat) (h : lo ≤ hi) (hb : hi ≤ b.length) (hz : b.length ≤ 1000000) :
    CALL prog w h₀ T 121 (n + 2) [.bytes b, .int lo, .int hi] tp (fun a t => a = .int (colonIn b lo hi) ∧ t = tp) := by
  refine CALL.intro (das := []) ["data", "at", "end"] (by rfl) (by rfl) (fun s X => ?_) (by rfl) (by decide) (fun A L hid K => ?_)
  · exact fun _ _ _ => ⟨[], BindsTo.of_eq rfl, fun _ => .nil⟩
  · walk_at "gs"
    refine ⟨_, .find b 58 lo hi h hb, ?_⟩
    walk_at "gs"
    walk_at "cmp"
    cases hf : findAt b 58 lo hi with
    | none =>
      have e : findInt b 58 lo hi = -1 := by unfold findInt; rw [hf]
      have e2 : colonIn b lo hi = -1 := by unfold colonIn; rw [hf]
      rw [e, e2]
      walk_at "no"
      walk_at "no"
      walk_at "gs"
      exact ⟨rfl, rfl⟩
    | some k =>
      have e : findInt b 58 lo hi = k := by unfold findInt; rw [hf]
      have e2 : colonIn b lo hi = if isName (sliceB b lo k) then (k : Int) else -1 := by unfold colonIn; rw [hf]
      have hk := findAt_some hf
      rw [e, e2]
      walk_at "yes"
      walk_at "gs"
      refine ⟨_, CutR.nat (by omega) (by omega) (by omega), ?_⟩
      walk_at "gs"
      refine ⟨_, Nat.le_refl _, (is_name_ok _ (by unfold sliceB; simp; omega)).mono ?_⟩
      rintro _ _ ⟨rfl, rfl⟩
      walk_at "gs"
      split
      · walk_at "gs"
        exact ⟨rfl, rfl⟩
      · walk_at "gs"
        exact ⟨rfl, rfl⟩

theorem lineAt_bounds {b : List UInt8} {lo hi : Nat} (h : lo ≤ hi) : lo ≤ (lineAt b lo hi).1 ∧ (lineAt b lo hi).1 ≤ hi ∧ (lineAt b lo hi).1 ≤ (lineAt b lo hi).2 ∧ (lineAt b lo hi).2 ≤ hi ∧ (lo < hi → lo < (lineAt b lo hi).2) := by
  unfold lineAt
  cases hf : findAt b 10 lo hi with
  | none => simp only; omega
  | some k =>
    have := findAt_some hf
    simp only
    split <;> simp only <;> omega

/-- the rows that belong to the one before -/
inductive Cont (b : List UInt8) (stop : Nat) : Nat → Nat → Nat → Nat → Nat → Prop
  | done {last later : Nat} (h : ¬ (later < stop ∧ isW (b.getD later 0) = true)) : Cont b stop 0 last later last later
  | more {k last later l' r' : Nat} (h1 : later < stop) (h2 : isW (b.getD later 0) = true) (h3 : Cont b stop k (lineAt b later stop).1 (lineAt b later stop).2 l' r') : Cont b stop (k + 1) last later l' r'
/-- what read_spans tells -/
inductive Spans (b : List UInt8) (stop : Nat) : Nat → List (List UInt8 × List UInt8 × Nat × Nat) → Nat → Prop
  | stop : Spans b stop stop [] stop
  | empty {here later : Nat} (h : here < stop) (hl : lineAt b here stop = (here, later)) : Spans b stop here [] later
  | field {here k last later colon l' r' body : Nat} {rows : List (List UInt8 × List UInt8 × Nat × Nat)} (h : here < stop) (hl : lineAt b here stop = (last, later)) (hne : last ≠ here) (hc : colonIn b here last = (colon : Int)) (hk : Cont b stop k last later l' r') (hr : Spans b stop r' rows body) :
      Spans b stop here ((sliceB b here colon, sliceB b (colon + 1) l', here, r') :: rows) body
noncomputable def spanAV (r : List UInt8 × List UInt8 × Nat × Nat) : AV := .tup [.fld r.1 r.2.1, .int (r.2.2.1 : Int), .int (r.2.2.2 : Int)]
theorem Cont.inv {b : List UInt8} {stop k last later l' r' : Nat} (h : Cont b stop k last later l' r') : (l' = last ∧ r' = later ∧ ¬ (later < stop ∧ isW (b.getD later 0) = true)) ∨ ∃ j, k = j + 1 ∧ later < stop ∧ isW (b.getD later 0) = true ∧ Cont b stop j (lineAt b later stop).1 (lineAt b later stop).2 l' r' := by
  cases h with
  | done h => exact .inl ⟨rfl, rfl, h⟩
  | more h1 h2 h3 => exact .inr ⟨_, rfl, h1, h2, h3⟩
theorem Cont.le {b : List UInt8} {stop k last later l' r' : Nat} (h : Cont b stop k last later l' r') (h1 : last ≤ stop) (h2 : later ≤ stop) : l' ≤ stop ∧ r' ≤ stop := by
  induction h with
  | done _ => exact ⟨h1, h2⟩
  | more a _ _ ih =>
    have := lineAt_bounds (b := b) (Nat.le_of_lt a)
    exact ih (by omega) (by omega)
theorem Spans.le {b : List UInt8} {stop here body : Nat} {rows} (h : Spans b stop here rows body) : here ≤ stop := by
  cases h with
  | stop => exact Nat.le_refl _
  | empty h _ => exact Nat.le_of_lt h
  | field h _ _ _ _ _ => exact Nat.le_of_lt h
theorem colonIn_lt {b : List UInt8} {lo hi k : Nat} (h : colonIn b lo hi = (k : Int)) : lo ≤ k ∧ k < hi := by
  unfold colonIn at h
  cases hf : findAt b 58 lo hi with
  | none => rw [hf] at h; simp at h
  | some j =>
    rw [hf] at h
    have := findAt_some hf
    simp only at h
    split at h
    · have : j = k := by exact_mod_cast h
      omega
    · exact absurd h (by omega)
theorem isW_in (c : UInt8) : ([32, 9] : List Int).contains (c.toNat : Int) = isW c := by
  unfold isW
  have h1 := u8_eq c 32 (by decide)
  have h2 := u8_eq c 9 (by decide)
  rw [Bool.eq_iff_iff]
  simp only [List.contains_cons, List.contains_nil, Bool.or_false, Bool.or_eq_true, beq_iff_eq]
  exact or_congr h1 h2
theorem read_spans_ok {prog : Program} {w : World} {h₀ : Heap} {T : Addr} {tp : Option (Int × Int × Int)} {n : Nat} (b : List UInt8) (lo stop : Nat) (e : Int) (rows : List (List UInt8 × List UInt8 × Nat × Nat)) (body : Nat)
    (hs : (stop : Int) = if e < 0 then (b.length : Int) else e) (hb : stop ≤ b.length) (hz : b.length ≤ 1000000) (hR : Spans b stop lo rows body) (hn : rows.length ≤ 1000) :
    CALL prog w h₀ T 129 (n + 3) [.bytes b, .int lo, .int e] tp (fun a t => a = .tup [.lst (rows.map spanAV), .int body] ∧ t = tp) := by
  refine CALL.intro (das := []) ["data", "at", "end"] (by rfl) (by rfl) (fun s X => ?_) (by rfl) (by decide) (fun A L hid K => ?_)
  · exact fun _ _ _ => ⟨[], binds_K X rfl (by rfl) rfl rfl rfl, fun _ => .nil⟩
  · walk_at "go"
    walk_at "go"
    refine EV.mono (Φ := fun a σ' => a = AV.int stop ∧ σ' = ⟨tp, evOf ["data", "at", "end"] [.bytes b, .int lo, .int e]⟩) ?_ ?_
    · walk_at "gs"
      walk_at "cmp"
      by_cases he : e < 0
      · rw [if_pos he] at hs
        walk_at "yes"
        walk_at "gs"
        refine ⟨_, .lenB b (by omega), ?_⟩
        rw [← hs]
        exact ⟨rfl, rfl⟩
      · rw [if_neg he] at hs
        subst hs
        walk_at "no"
        walk_at "gs"
        exact ⟨rfl, rfl⟩
    rintro _ _ ⟨rfl, rfl⟩
    walk_at "gs"
    refine EX.while (fun k σ' => ∃ done left here, k = left.length ∧ Spans b stop here left body ∧ rows = done ++ left ∧ σ'.tp = tp ∧ σ'.ev "data" = some (.val (.bytes b)) ∧ σ'.ev "stop" = some (.val (.int stop)) ∧ σ'.ev "here" = some (.val (.int (here : Nat))) ∧ σ'.ev "rows" = some (.opn (done.map spanAV)))
      ?_ rows.length ⟨[], rows, lo, rfl, hR, rfl, rfl, rfl, rfl, rfl, rfl⟩
    rintro k σ ⟨done, left, here, rfl, hS, hrows, t1, e1, e2, e3, e4⟩
    walk_at "gs"
    walk_at "cmp"
    cases hS with
    | stop =>
      walk_at "no"
      walk_at "gs"
      refine ⟨?_, t1⟩
      rw [hrows, List.append_nil]
    | empty h hl =>
      walk_at "yes"
      walk_at "gs"
      refine ⟨_, Nat.le_add_left _ _, (line_at_ok b here stop (by omega) hb hz).mono ?_⟩
      rintro _ _ ⟨rfl, rfl⟩
      rw [hl]
      walk_at "gs"
      walk_at "cmp"
      walk_at "yes"
      walk_at "gs"
      refine ⟨?_, t1⟩
      rw [hrows, List.append_nil]
    | field h hl hne hc hk hr =>
      walk_at "yes"
      walk_at "gs"
      refine ⟨_, Nat.le_add_left _ _, (line_at_ok b here stop (by omega) hb hz).mono ?_⟩
      rintro _ _ ⟨rfl, rfl⟩
      rw [hl]
      walk_at "gs"
      walk_at "cmp"
      walk_at "no"
      walk_at "gs"
      have hb1 := lineAt_bounds (b := b) (Nat.le_of_lt h)
      rw [hl] at hb1
      refine ⟨_, Nat.le_refl _, (colon_in_ok b here _ (by omega) (by omega) hz).mono ?_⟩
      rintro _ _ ⟨rfl, rfl⟩
      rw [hc]
      walk_at "gs"
      walk_at "cmp"
      walk_at "no"
      walk_at "gs"
      rename_i j last later colon l' r' left
      have hle := hk.le (by omega) (by omega)
      refine EX.while (fun j σ' => ∃ last later, Cont b stop j last later l' r' ∧ last ≤ stop ∧ later ≤ stop ∧ σ'.tp = tp ∧ σ'.ev "data" = some (.val (.bytes b)) ∧ σ'.ev "stop" = some (.val (.int stop)) ∧ σ'.ev "here" = some (.val (.int (here : Nat))) ∧ σ'.ev "rows" = some (.opn (done.map spanAV))
        ∧ σ'.ev "colon" = some (.val (.int (colon : Nat))) ∧ σ'.ev "last" = some (.val (.int (last : Nat))) ∧ σ'.ev "later" = some (.val (.int (later : Nat))))
        ?_ _ ⟨last, later, hk, by omega, by omega, ?_⟩
      · rintro k σ ⟨last, later, hk, hl1, hl2, t1, e1, e2, e3, e4, e5, e6, e7⟩
        refine IT.mono (Ψ := fun t σ1 => (t = true ↔ later < stop ∧ isW (b.getD later 0) = true) ∧ σ1 = σ) ?_ ?_
        · walk_at "gs"
          walk_at "cmp"
          by_cases hlt : later < stop
          · walk_at "yes"
            walk_at "gs"
            refine ⟨_, .bytes b _ (by omega) (by omega) (by omega), ?_⟩
            walk_at "gs"
            refine ⟨_, .inP _ [32, 9], ?_⟩
            rw [Int.toNat_natCast, isW_in]
            exact ⟨⟨fun hh => ⟨hlt, hh⟩, fun hh => hh.2⟩, rfl⟩
          · walk_at "no"
            exact ⟨⟨fun hh => (nomatch hh), fun hh => absurd hh.1 hlt⟩, rfl⟩
        rintro t _ ⟨ht, rfl⟩
        rcases hk.inv with ⟨rfl, rfl, hno⟩ | ⟨j, rfl, h1, h2, h3⟩
        · refine ite_no (fun hh => hno (ht.mp hh)) ?_
          have hdl : done.length ≤ 1000 := by have := congrArg List.length hrows; simp at this; omega
          walk_at "gs"
          have hcl := colonIn_lt hc
          refine ⟨_, CutR.nat (by omega) (by omega) (by omega), ?_⟩
          walk_at "gs"
          refine ⟨_, .addI _ _, ?_⟩
          rw [show (colon : Int) + 1 = ((colon + 1 : Nat) : Int) from by omega]
          walk_at "gs"
          refine ⟨_, CutR.nat (by omega) (by omega) (by omega), ?_⟩
          walk_at "gs"
          refine ⟨left.length, by simp, done ++ [(sliceB b here colon, sliceB b (colon + 1) l', here, r')], left, r', rfl, hr, by rw [hrows]; simp, ?_⟩
          rw [List.map_append]
          walk_at "evs"
        · refine ite_yes (ht.mpr ⟨h1, h2⟩) ?_
          walk_at "gs"
          refine ⟨_, Nat.le_add_left _ _, (line_at_ok b later stop (by omega) hb hz).mono ?_⟩
          rintro _ _ ⟨rfl, rfl⟩
          walk_at "gs"
          have := lineAt_bounds (b := b) (Nat.le_of_lt h1)
          exact ⟨j, Nat.lt_succ_self _, _, _, h3, by omega, by omega, by walk_at "evs"⟩
      · walk_at "evs"
section
variable {c : Cx} {σ : Sg} {n : Nat} {α : Type} {scope : Scope} {elt iter tgt : Expr} {ifs : List Expr} {pos : Pos}
/-- what a comprehension does with each item -/
noncomputable def STEP (c : Cx) (n : Nat) (scope : Scope) (fs : List Str) (tgt elt : Expr) (ifs : List Expr) (J : Sg → Prop) (e : α → AV) (p : α → Bool) (f : α → AV) (items : List α) : Prop :=
  ∀ C hid x σ, CxOk (cCx c scope fs C hid) n → x ∈ items → J σ → ASG (cCx c scope fs C hid) tgt (e x) σ (tstK (cCx c scope fs C hid) ifs (pickK (cCx c scope fs C hid) elt (p x) (f x) J))
inductive CompE {α : Type} (J : Sg → Prop) (e : α → AV) (p : α → Bool) (f : α → AV) (items : List α) (fs : List Str) (Φ : AV → Sg → Prop) (its : List AV) (σ1 : Sg) : Prop
  | mk (a : its = items.map e) (b : items.length ≤ 1000000) (j : J ⟨σ1.tp, evC fs σ1.ev⟩) (k : ∀ σ2, J σ2 → Φ (.lst ((items.filter p).map f)) ⟨σ2.tp, σ1.ev⟩) : CompE J e p f items fs Φ its σ1
theorem EV.compK {Φ : AV → Sg → Prop} (fs : List Str) (J : Sg → Prop) (e : α → AV) (p : α → Bool) (f : α → AV) (items : List α) (K : CxOk c n) (O : CompOk c scope fs)
    (h : ITR c iter tgt σ (CompE J e p f items fs Φ))
    (step : STEP c n scope fs tgt elt ifs J e p f items)
    (hs : ∀ x, foldedSetIterable iter c.env x = pure x := by intro _; rfl) : EV c (.ListComp elt [⟨tgt, iter, ifs, 0⟩] scope pos) σ Φ := by
  refine EV.comp fs K O (fun sl s S Q hQ => h sl s S Q fun it W its σ' sl' h' tk' h1 h2 h3 h4 h5 h6 => hQ it W its σ' sl' h' tk' h1 h2 h3 h4 h5 ?_) hs
  obtain ⟨rfl, k1, k2, k3⟩ := h6
  exact ⟨by simpa using k1, COMPL.fm J e p f items (fun C hid x σ hx hj => step C hid x σ (K.comp O C hid) hx hj) k3 k2⟩
theorem EX.asgCK {Φ : Fl → Sg → Prop} {x : Str} {xp spos : Pos} (fs : List Str) (J : Sg → Prop) (e : α → AV) (p : α → Bool) (f : α → AV) (items : List α) (K : CxOk c n) (O : CompOk c scope fs) (hx : c.env.kindOf x = some .local)
    (h : ITR c iter tgt σ (CompE J e p f items fs (asgK x Φ)))
    (step : STEP c n scope fs tgt elt ifs J e p f items)
    (hsw : swapsWith (.ListComp elt [⟨tgt, iter, ifs, 0⟩] scope pos) (some (.Name x xp)) spos.line c.env = pure true := by rfl)
    (hs : ∀ x, foldedSetIterable iter c.env x = pure x := by intro _; rfl) : EX c (.Assign [.Name x xp] (.ListComp elt [⟨tgt, iter, ifs, 0⟩] scope pos) spos) σ Φ := by
  refine EX.asgC fs K O hx (fun sl s S Q hQ => h sl s S Q fun it W its σ' sl' h' tk' h1 h2 h3 h4 h5 h6 => hQ it W its σ' sl' h' tk' h1 h2 h3 h4 h5 ?_) hsw hs
  obtain ⟨rfl, k1, k2, k3⟩ := h6
  exact ⟨by simpa using k1, COMPL.fm J e p f items (fun C hid x σ hx hj => step C hid x σ (K.comp O C hid) hx hj) k3 k2⟩
end
noncomputable def yes {α : Type} : α → Bool := fun _ => true
theorem filter_yes {α : Type} (l : List α) : l.filter yes = l := List.filter_eq_self.mpr fun _ _ => rfl

noncomputable def lowerN (k : Nat) : Nat := if 65 ≤ k ∧ k ≤ 90 then k + 32 else k
theorem lowerI_nat (k : Nat) : lowerI (k : Int) = (lowerN k : Int) := by
  unfold lowerI lowerN
  by_cases h : 65 ≤ k ∧ k ≤ 90
  · rw [if_pos h, if_pos (by omega)]; omega
  · rw [if_neg h, if_neg (by omega)]
theorem lowerN_le {k : Nat} (h : k ≤ 1000) : lowerN k ≤ 1000 := by unfold lowerN; split <;> omega
theorem sum_ones {α : Type} (l : List α) (f : α → List Nat) (h : ∀ a ∈ l, (f a).length = 1) : ((l.map f).map (·.length)).sum = l.length := by
  induction l with
  | nil => rfl
  | cons a l ih =>
    simp only [List.map_cons, List.sum_cons, List.length_cons]
    rw [ih fun b hb => h b (.tail _ hb), h a (.head _)]
    omega
theorem flat_ones {α : Type} (l : List α) (g : α → Nat) : (l.map fun a => [g a]).flatten = l.map g := by
  induction l with
  | nil => rfl
  | cons a l ih => simp [ih]
theorem lower_text_ok {prog : Program} {w : World} {h₀ : Heap} {T : Addr} {tp : Option (Int × Int × Int)} {n : Nat} (x : List Nat) (hx : ∀ k ∈ x, k ≤ 1000) (hl : x.length ≤ 1000) :
    CALL prog w h₀ T 66 (n + 2) [.str x] tp (fun a t => a = .str (x.map lowerN) ∧ t = tp) := by
  refine CALL.intro (das := []) ["text"] (by rfl) (by rfl) (fun s X => ?_) (by rfl) (by decide) (fun A L hid K => ?_)
  · exact fun _ => ⟨[], BindsTo.of_eq rfl, fun _ => .nil⟩
  · walk_at "go"
    walk_at "go"
    refine EV.vmeth .joinS ?_
    walk_at "gs"
    refine EV.compK [] (fun σ => σ.tp = tp) (fun k => .str [k]) yes (fun k => .str [lowerN k]) x K ⟨rfl, by decide, by decide, rfl, by decide, rfl⟩ (ITR.of K ?_) ?_
    · walk_at "gs"
      refine ⟨rfl, _, .str x, rfl, by omega, rfl, fun σ2 ht => ?_⟩
      rw [filter_yes]
      walk_at "gs"
      have e : x.map (fun k => AV.str [lowerN k]) = (x.map fun k => [lowerN k]).map .str := by rw [List.map_map]; rfl
      rw [e]
      refine ⟨_, .joinS _ (by rw [sum_ones _ _ (fun _ _ => rfl)]; omega), ?_⟩
      rw [flat_ones]
      exact ⟨rfl, ht⟩
    · intro C hid k σ Kc hk ht
      walk_at "gs"
      refine ⟨_, .ord k, ?_⟩
      walk_at "gs"
      refine ⟨_, Nat.le_refl _, (lower_code_ok (k : Int)).mono ?_⟩
      rintro _ _ ⟨rfl, rfl⟩
      rw [lowerI_nat]
      walk_at "gs"
      have := lowerN_le (hx k hk)
      refine ⟨_, .chr _ (by omega) (by omega), ?_⟩
      exact ⟨rfl, ht⟩
noncomputable def smallB (b : List UInt8) : List Nat := b.map fun c => lowerN c.toNat
theorem word_ok {prog : Program} {w : World} {h₀ : Heap} {T : Addr} {tp : Option (Int × Int × Int)} {n : Nat} (x y : List UInt8) (hl : x.length ≤ 1000) :
    CALL prog w h₀ T 86 (n + 3) [.fld x y] tp (fun a t => a = .str (smallB x) ∧ t = tp) := by
  refine CALL.intro (das := []) ["self"] (by rfl) (by rfl) (fun s X => ?_) (by rfl) (by decide) (fun A L hid K => ?_)
  · exact fun _ => ⟨[], BindsTo.of_eq rfl, fun _ => .nil⟩
  · walk_at "gs"
    refine EV.vmeth .joinS ?_
    walk_at "gs"
    refine EV.compK [] (fun σ => σ.tp = tp) (fun c : UInt8 => .int (c.toNat : Int)) yes (fun c => .str [c.toNat]) x K ⟨rfl, by decide, by decide, rfl, by decide, rfl⟩ (ITR.of K ?_) ?_
    · walk_at "gs"
      refine ⟨rfl, _, .bytes x, rfl, by omega, rfl, fun σ2 ht => ?_⟩
      rw [filter_yes]
      walk_at "gs"
      have e : x.map (fun k => AV.str [k.toNat]) = (x.map fun k => [k.toNat]).map .str := by rw [List.map_map]; rfl
      rw [e]
      refine ⟨_, .joinS _ (by rw [sum_ones _ _ (fun _ _ => rfl)]; omega), ?_⟩
      rw [flat_ones]
      walk_at "gs"
      refine ⟨_, Nat.le_refl _, (lower_text_ok _ (fun k hk => ?_) (by simpa using hl)).mono ?_⟩
      · obtain ⟨c, _, rfl⟩ := List.mem_map.mp hk
        have := c.toNat_lt
        omega
      rintro _ _ ⟨rfl, rfl⟩
      refine ⟨?_, ht⟩
      rw [List.map_map]; rfl
    · intro C hid k σ Kc hk ht
      walk_at "gs"
      have := k.toNat_lt
      refine ⟨_, .chr _ (by omega) (by omega), ?_⟩
      exact ⟨rfl, ht⟩
theorem told_ok {prog : Program} {w : World} {h₀ : Heap} {T : Addr} {tp : Option (Int × Int × Int)} {n : Nat} (x y : List UInt8) :
    CALL prog w h₀ T 93 (n + 1) [.fld x y] tp (fun a t => a = .tup [.bytes x, .bytes y] ∧ t = tp) := by
  refine CALL.intro (das := []) ["self"] (by rfl) (by rfl) (fun s X => ?_) (by rfl) (by decide) (fun A L hid K => ?_)
  · exact fun _ => ⟨[], BindsTo.of_eq rfl, fun _ => .nil⟩
  · walk_at "gs"
    exact ⟨rfl, rfl⟩
section
variable {c : Cx} {σ : Sg} {m : Nat} {Φ : AV → Sg → Prop} {o : Expr} {apos pos : Pos}
@[reducible] noncomputable def wordF (Φ : AV → Sg → Prop) : List UInt8 → List UInt8 → Sg → Prop := fun x _ σ1 => x.length ≤ 1000 ∧ Φ (.str (smallB x)) σ1
@[reducible] noncomputable def toldF (Φ : AV → Sg → Prop) : List UInt8 → List UInt8 → Sg → Prop := fun x y σ1 => Φ (.tup [.bytes x, .bytes y]) σ1
/-- «x.word()» -/
theorem EV.word (K : CxOk c (m + 3)) (h : EV c o σ (fldK (wordF Φ))) {pl : Sem Bool}
    (he : eval (.Call (.Attribute o "word" apos) [] [] pos) c.env = (do
      let ov ← eval o c.env
      standAt apos.atName
      let (f, first) ← holding [ov] (getMethod ov "word" pl)
      callWith pos f first (backTo pos (starEach [] c.env)) []) := by with_unfolding_all rfl) : EV c (.Call (.Attribute o "word" apos) [] [] pos) σ Φ :=
  EV.meth K (f := 86) (by rfl) (fun _ _ _ _ _ _ _ _ _ => by rfl) (by rfl) (by rfl) (h.mono fun a σ' ⟨x, y, e, hl, k⟩ => ⟨x, y, m + 3, e, Nat.le_refl _, (word_ok x y hl).mono fun a t ⟨h1, h2⟩ => by rw [h1, h2]; exact k⟩) he
theorem EV.told (K : CxOk c (m + 1)) (h : EV c o σ (fldK (toldF Φ))) {pl : Sem Bool}
    (he : eval (.Call (.Attribute o "told" apos) [] [] pos) c.env = (do
      let ov ← eval o c.env
      standAt apos.atName
      let (f, first) ← holding [ov] (getMethod ov "told" pl)
      callWith pos f first (backTo pos (starEach [] c.env)) []) := by with_unfolding_all rfl) : EV c (.Call (.Attribute o "told" apos) [] [] pos) σ Φ :=
  EV.meth K (f := 93) (by rfl) (fun _ _ _ _ _ _ _ _ _ => by rfl) (by rfl) (by rfl) (h.mono fun a σ' ⟨x, y, e, k⟩ => ⟨x, y, m + 1, e, Nat.le_refl _, (told_ok x y).mono fun a t ⟨h1, h2⟩ => by rw [h1, h2]; exact k⟩) he
end
/-- what rows_of tells -/
inductive RowsOf (b : List UInt8) : Nat → List (List UInt8) → Prop
  | last {a last later : Nat} (ha : a ≤ b.length) (hl : lineAt b a b.length = (last, later)) (he : last = b.length) : RowsOf b a [sliceB b a last]
  | more {a last later : Nat} {rows : List (List UInt8)} (ha : a ≤ b.length) (hl : lineAt b a b.length = (last, later)) (he : last ≠ b.length) (hr : RowsOf b later rows) : RowsOf b a (sliceB b a last :: rows)
theorem rows_of_ok {prog : Program} {w : World} {h₀ : Heap} {T : Addr} {tp : Option (Int × Int × Int)} {n : Nat} (b : List UInt8) (rows : List (List UInt8)) (hz : b.length ≤ 1000000) (hR : RowsOf b 0 rows) (hn : rows.length ≤ 1000) :
    CALL prog w h₀ T 142 (n + 2) [.bytes b] tp (fun a t => a = .lst (rows.map .bytes) ∧ t = tp) := by
  refine CALL.intro (das := []) ["raw"] (by rfl) (by rfl) (fun s X => ?_) (by rfl) (by decide) (fun A L hid K => ?_)
  · exact fun _ => ⟨[], BindsTo.of_eq rfl, fun _ => .nil⟩
  · walk_at "gs"
    refine EX.while (fun k σ' => ∃ done left a, k = left.length ∧ RowsOf b a left ∧ rows = done ++ left ∧ σ'.tp = tp ∧ σ'.ev "raw" = some (.val (.bytes b)) ∧ σ'.ev "at" = some (.val (.int (a : Nat))) ∧ σ'.ev "rows" = some (.opn (done.map .bytes)))
      ?_ rows.length ⟨[], rows, 0, rfl, hR, rfl, rfl, rfl, rfl, rfl⟩
    rintro k σ ⟨done, left, a, rfl, hS, hrows, t1, e1, e2, e3⟩
    have hdl : done.length ≤ 1000 := by have := congrArg List.length hrows; simp at this; omega
    walk_at "gs"
    walk_at "yes"
    walk_at "gs"
    refine ⟨_, .lenB b (by omega), ?_⟩
    walk_at "gs"
    cases hS with
    | last ha hl he =>
      refine ⟨_, Nat.le_refl _, (line_at_ok b a b.length ha (Nat.le_refl _) hz).mono ?_⟩
      walk_at "ret"
      have hb := lineAt_bounds (b := b) ha
      rw [hl] at hb ⊢
      walk_at "gs"
      refine ⟨_, CutR.nat (by omega) (by omega) (by omega), ?_⟩
      walk_at "gs"
      refine ⟨_, .lenB b (by omega), ?_⟩
      walk_at "gs"
      walk_at "cmp"
      walk_at "yes"
      walk_at "gs"
      refine ⟨?_, t1⟩
      rw [hrows, List.map_append]; rfl
    | more ha hl he hr =>
      rename_i last later left'
      refine ⟨_, Nat.le_refl _, (line_at_ok b a b.length ha (Nat.le_refl _) hz).mono ?_⟩
      walk_at "ret"
      have hb := lineAt_bounds (b := b) ha
      rw [hl] at hb ⊢
      walk_at "gs"
      refine ⟨_, CutR.nat (by omega) (by omega) (by omega), ?_⟩
      walk_at "gs"
      refine ⟨_, .lenB b (by omega), ?_⟩
      walk_at "gs"
      walk_at "cmp"
      walk_at "no"
      walk_at "gs"
      refine ⟨left'.length, by simp, done ++ [sliceB b a last], left', later, rfl, hr, by rw [hrows]; simp, ?_⟩
      rw [List.map_append]
      walk_at "evs"
theorem CutR.tail {l : List AV} (hz : l.length ≤ 1000000) : CutR (.lst l) (some 1) none (.lst l.tail) := by
  have := CutR.lst l (some 1) none (by omega)
  simp only [Option.elim] at this
  have e : clipAt l.length 1 = min 1 l.length := clip_nat l.length 1
  rw [e] at this
  cases l with
  | nil => simpa using this
  | cons a l =>
    simp only [List.length_cons] at this
    rw [show min 1 (l.length + 1) = 1 from by omega] at this
    simpa using this
noncomputable def okRow (r : List UInt8) : Bool := match r with
  | [] => false
  | c :: _ => isW c
theorem is_sound_ok {prog : Program} {w : World} {h₀ : Heap} {T : Addr} {tp : Option (Int × Int × Int)} {n : Nat} (x y : List UInt8) (rows : List (List UInt8)) (hx : x.length ≤ 1000000) (hz : y.length ≤ 1000000) (hR : RowsOf y 0 rows) (hn : rows.length ≤ 1000)
    (h1 : isName x = true) (h2 : rows.tail.all okRow = true) (h3 : ∀ r ∈ rows, r.length ≤ 1000000) :
    CALL prog w h₀ T 196 (n + 3) [.fld x y] tp (fun a t => a = .bool true ∧ t = tp) := by
  refine CALL.intro (das := []) ["field"] (by rfl) (by rfl) (fun s X => ?_) (by rfl) (by decide) (fun A L hid K => ?_)
  · exact fun _ => ⟨[], BindsTo.of_eq rfl, fun _ => .nil⟩
  · walk_at "gs"
    refine ⟨_, Nat.le_add_left _ _, (is_name_ok x hx).mono ?_⟩
    walk_at "ret"
    rw [h1]
    walk_at "gs"
    walk_at "no"
    walk_at "gs"
    refine EX.for K (ITR.of K ?_)
    walk_at "gs"
    refine ⟨_, Nat.le_refl _, (rows_of_ok y rows hz hR hn).mono ?_⟩
    walk_at "ret"
    walk_at "gs"
    refine ⟨_, CutR.tail (by simpa using Nat.le_trans hn (by decide)), rfl, _, .lst _, ?_⟩
    refine FORL.inv (fun l σ' => ∃ post : List (List UInt8), (∀ r ∈ post, okRow r = true ∧ r.length ≤ 1000000) ∧ l = post.map .bytes ∧ σ'.tp = tp) ?_ ?_ _ _ ⟨rows.tail, fun r hr => ⟨List.all_eq_true.mp h2 r hr, h3 r (List.mem_of_mem_tail hr)⟩, by rw [List.map_tail], rfl⟩
    · rintro hid d l σ ⟨post, q1, q2, q3⟩
      have Kh := K.hide hid
      cases post with
      | nil => cases q2
      | cons r post =>
        simp only [List.map_cons, List.cons.injEq] at q2
        obtain ⟨rfl, rfl⟩ := q2
        obtain ⟨g1, g2⟩ := q1 r (.head _)
        cases r with
        | nil => cases g1
        | cons x0 r0 =>
          walk_at "gs"
          refine ⟨_, .lenB _ (by omega), ?_⟩
          walk_at "gs"
          walk_at "cmp"
          refine ite_no ?_ ?_
          · simp; omega
          walk_at "gs"
          refine ⟨_, .bytes _ _ (by omega) (by simp <;> omega) (by omega), ?_⟩
          walk_at "gs"
          refine ⟨_, .ninP _ [32, 9], ?_⟩
          have e : ((x0 :: r0).getD (Int.toNat 0) 0) = x0 := rfl
          rw [e, isW_in, show isW x0 = true from g1]
          walk_at "no"
          walk_at "gs"
          exact ⟨post, fun r hr => q1 r (.tail _ hr), rfl, q3⟩
    · rintro σ ⟨post, q1, q2, q3⟩
      walk_at "gs"
      exact ⟨rfl, q3⟩
noncomputable def fldAV (r : List UInt8 × List UInt8) : AV := .fld r.1 r.2
noncomputable def pairAV (r : List UInt8 × List UInt8) : AV := .tup [.bytes r.1, .bytes r.2]
theorem sum_bound {α : Type} {k : Nat} : ∀ (l : List α) (f : α → Nat), (∀ a ∈ l, f a ≤ k) → (l.map f).sum ≤ k * l.length
  | [], _, _ => by simp
  | a :: l, f, h => by
    rw [List.map_cons, List.sum_cons, List.length_cons, Nat.mul_add]
    have := sum_bound l f fun b hb => h b (.tail _ hb)
    have := h a (.head _)
    omega
/-- a field that can stand -/
noncomputable def Sound (r : List UInt8 × List UInt8) : Prop := isName r.1 = true ∧ r.1.length ≤ 1000 ∧ r.2.length ≤ 1000 ∧ ∃ rows, RowsOf r.2 0 rows ∧ rows.length ≤ 1000 ∧ rows.tail.all okRow = true ∧ ∀ s ∈ rows, s.length ≤ 1000000
noncomputable def octB (r : List UInt8 × List UInt8) : List UInt8 := r.1 ++ [58] ++ r.2 ++ [13, 10]
theorem bjoin_nil : ∀ l : List (List UInt8), bjoin [] l = l.flatten
  | [] => rfl
  | [x] => by simp [bjoin]
  | x :: y :: l => by rw [bjoin, bjoin_nil (y :: l)]; simp
theorem write_fields_ok {prog : Program} {w : World} {h₀ : Heap} {T : Addr} {tp : Option (Int × Int × Int)} {n : Nat} (rows : List (List UInt8 × List UInt8)) (hS : ∀ r ∈ rows, Sound r) (hn : rows.length ≤ 100) :
    CALL prog w h₀ T 201 (n + 4) [.lst (rows.map fldAV)] tp (fun a t => a = .bytes (rows.map octB).flatten ∧ t = tp) := by
  refine CALL.intro (das := []) ["fields"] (by rfl) (by rfl) (fun s X => ?_) (by rfl) (by decide) (fun A L hid K => ?_)
  · exact fun _ => ⟨[], BindsTo.of_eq rfl, fun _ => .nil⟩
  · refine EXS.cons (EX.for K (ITR.of K ?_))
    walk_at "gs"
    refine ⟨rfl, _, .lst _, ?_⟩
    refine FORL.inv (fun l σ' => ∃ post : List (List UInt8 × List UInt8), (∀ r ∈ post, Sound r) ∧ l = post.map fldAV ∧ σ'.tp = tp ∧ σ'.ev "fields" = some (.val (.lst (rows.map fldAV)))) ?_ ?_ _ _ ⟨rows, hS, rfl, rfl, rfl⟩
    · rintro hid d l σ ⟨post, q1, q2, q3, q4⟩
      have Kh := K.hide hid
      cases post with
      | nil => cases q2
      | cons r post =>
        simp only [List.map_cons, List.cons.injEq] at q2
        obtain ⟨rfl, rfl⟩ := q2
        obtain ⟨s1, s2, s3, rs, s4, s5, s6, s7⟩ := q1 r (.head _)
        walk_at "gs"
        refine ⟨_, Nat.le_refl _, (is_sound_ok r.1 r.2 rs (by omega) (by omega) s4 s5 s1 s6 s7).mono ?_⟩
        walk_at "ret"
        walk_at "gs"
        walk_at "no"
        walk_at "gs"
        refine ⟨post, fun r hr => q1 r (.tail _ hr), rfl, q3, ?_⟩
        walk_at "evs"
    · rintro σ ⟨post, q1, q2, q3, q4⟩
      walk_at "gs"
      refine EV.vmeth .joinB ?_
      walk_at "gs"
      refine EV.compK [] (fun σ => σ.tp = tp) fldAV yes (fun r => .bytes (octB r)) rows K ⟨rfl, by decide, by decide, rfl, by decide, rfl⟩ (ITR.of K ?_) ?_
      · walk_at "gs"
        refine ⟨rfl, _, .lst _, rfl, by omega, q3, fun σ2 ht => ?_⟩
        rw [filter_yes]
        walk_at "gs"
        have e : rows.map (fun k => AV.bytes (octB k)) = (rows.map octB).map .bytes := by rw [List.map_map]; rfl
        have hlen : ((rows.map octB).map (·.length)).sum ≤ 2003 * rows.length := by
          rw [List.map_map]
          exact sum_bound rows _ fun r hr => by
            obtain ⟨s1, s2, s3, _⟩ := hS r hr
            show (octB r).length ≤ 2003
            unfold octB; simp; omega
        rw [e]
        have hj := bjoin_nil (rows.map octB)
        refine ⟨_, .joinB [] _ (by rw [hj, List.length_flatten]; exact Nat.le_trans hlen (by omega)) (by simp only [List.length_nil]; omega), ?_⟩
        rw [hj]
        exact ⟨rfl, ht⟩
      · intro C hid r σ Kc hk ht
        obtain ⟨s1, s2, s3, _⟩ := hS r hk
        walk_at "gs"
        refine ⟨_, .addB _ _ (by simp; omega), ?_⟩
        walk_at "gs"
        refine ⟨_, .addB _ _ (by simp; omega), ?_⟩
        walk_at "gs"
        refine ⟨_, .addB _ _ (by simp; omega), ?_⟩
        exact ⟨rfl, ht⟩
/-- read_fields, from a place to the end -/
theorem read_fields_ok {prog : Program} {w : World} {h₀ : Heap} {T : Addr} {tp : Option (Int × Int × Int)} {n : Nat} (b : List UInt8) (lo : Nat) (rows : List (List UInt8 × List UInt8 × Nat × Nat)) (body : Nat)
    (hz : b.length ≤ 1000000) (hR : Spans b b.length lo rows body) (hn : rows.length ≤ 1000) :
    CALL prog w h₀ T 135 (n + 4) [.bytes b, .int lo] tp (fun a t => a = .tup [.lst (rows.map fun r => .fld r.1 r.2.1), .int body] ∧ t = tp) := by
  refine CALL.intro (das := [.int (-1)]) ["data", "at", "end"] (by rfl) (by rfl) (fun s X => ?_) (by rfl) (by decide) (fun A L hid K => ?_)
  · exact fun _ _ => ⟨[_], binds_K X rfl (by rfl) rfl rfl rfl, fun _ => .one (.int _ _)⟩
  · walk_at "gs"
    refine ⟨_, Nat.le_refl _, (read_spans_ok b lo b.length (-1) rows body (by simp) (Nat.le_refl _) hz hR hn).mono ?_⟩
    walk_at "ret"
    walk_at "gs"
    refine EV.compK [] (fun σ => σ.tp = tp) spanAV yes (fun r => .fld r.1 r.2.1) rows K ⟨rfl, by decide, by decide, rfl, by decide, rfl⟩ (ITR.of K ?_) ?_
    · walk_at "gs"
      refine ⟨rfl, _, .lst _, rfl, by omega, rfl, fun σ2 ht => ?_⟩
      rw [filter_yes]
      walk_at "gs"
      exact ⟨rfl, ht⟩
    · intro C hid r σ Kc hk ht
      walk_at "gs"
      refine ⟨_, .tup _ _ _ (by decide) (by decide) rfl, ?_⟩
      exact ⟨rfl, ht⟩
/-- a run of octets that p takes, as long as it goes -/
noncomputable def Run (b : List UInt8) (p : UInt8 → Bool) (a m : Nat) : Prop := a ≤ m ∧ m ≤ b.length ∧ (∀ i, a ≤ i → i < m → p (b.getD i 0) = true) ∧ (m = b.length ∨ p (b.getD m 0) = false)
theorem Run.at {b : List UInt8} {p : UInt8 → Bool} {a m i : Nat} (h : Run b p a m) (h1 : a ≤ i) (h2 : i ≤ m) : (i < b.length ∧ p (b.getD i 0) = true) ↔ i < m := by
  obtain ⟨g1, g2, g3, g4⟩ := h
  constructor
  · rintro ⟨q1, q2⟩
    rcases Nat.lt_or_ge i m with h | h
    · exact h
    · have : i = m := by omega
      subst this
      rcases g4 with g4 | g4
      · omega
      · rw [g4] at q2; cases q2
  · exact fun h => ⟨by omega, g3 i h1 h⟩
/-- what pieces_of tells -/
inductive Pieces (b : List UInt8) : Nat → List (List UInt8) → Prop
  | nil : Pieces b b.length []
  | cons {a m e : Nat} {ps : List (List UInt8)} (ha : a < b.length) (h1 : Run b isW a m) (h2 : Run b (fun c => !isW c) m e) (hp : Pieces b e ps) : Pieces b a (sliceB b a e :: ps)
theorem Pieces.le {b : List UInt8} {a : Nat} {ps : List (List UInt8)} (h : Pieces b a ps) : a ≤ b.length := by
  cases h with
  | nil => exact Nat.le_refl _
  | cons h _ _ _ => exact Nat.le_of_lt h
theorem pieces_of_ok {prog : Program} {w : World} {h₀ : Heap} {T : Addr} {tp : Option (Int × Int × Int)} {n : Nat} (b : List UInt8) (ps : List (List UInt8)) (hz : b.length ≤ 1000000) (hP : Pieces b 0 ps) (hn : ps.length ≤ 1000) :
    CALL prog w h₀ T 149 (n + 1) [.bytes b] tp (fun a t => a = .lst (ps.map .bytes) ∧ t = tp) := by
  refine CALL.intro (das := []) ["body"] (by rfl) (by rfl) (fun s X => ?_) (by rfl) (by decide) (fun A L hid K => ?_)
  · exact fun _ => ⟨[], BindsTo.of_eq rfl, fun _ => .nil⟩
  · walk_at "gs"
    refine EX.while (fun k σ' => ∃ done left a, k = left.length ∧ Pieces b a left ∧ ps = done ++ left ∧ σ'.tp = tp ∧ σ'.ev "body" = some (.val (.bytes b)) ∧ σ'.ev "at" = some (.val (.int (a : Nat))) ∧ σ'.ev "pieces" = some (.opn (done.map .bytes)))
      ?_ ps.length ⟨[], ps, 0, rfl, hP, rfl, rfl, rfl, rfl, rfl⟩
    rintro k σ ⟨done, left, a, rfl, hS, hrows, t1, e1, e2, e3⟩
    have hdl : done.length ≤ 1000 := by have := congrArg List.length hrows; simp at this; omega
    walk_at "gs"
    refine ⟨_, .lenB b (by omega), ?_⟩
    walk_at "gs"
    walk_at "cmp"
    cases hS with
    | nil =>
      walk_at "no"
      walk_at "gs"
      refine ⟨?_, t1⟩
      rw [hrows, List.append_nil]
    | cons ha h1 h2 hp =>
      rename_i m e left'
      walk_at "yes"
      walk_at "gs"
      refine EX.while (fun k σ' => ∃ i : Nat, k = m - i ∧ a ≤ i ∧ i ≤ m ∧ σ'.tp = tp ∧ σ'.ev "body" = some (.val (.bytes b)) ∧ σ'.ev "begun" = some (.val (.int (a : Nat))) ∧ σ'.ev "at" = some (.val (.int (i : Nat))) ∧ σ'.ev "pieces" = some (.opn (done.map .bytes)))
        ?_ (m - a) ⟨a, rfl, Nat.le_refl _, h1.1, by walk_at "evs"⟩
      rintro k σ ⟨i, rfl, i1, i2, t1, e1, e2, e3, e4⟩
      refine IT.mono (Ψ := fun t σ1 => (t = true ↔ i < m) ∧ σ1 = σ) ?_ ?_
      · rw [← h1.at i1 i2]
        walk_at "gs"
        refine ⟨_, .lenB b (by omega), ?_⟩
        walk_at "gs"
        walk_at "cmp"
        by_cases hlt : i < b.length
        · walk_at "yes"
          walk_at "gs"
          refine ⟨_, .bytes b _ (by omega) (by omega) (by omega), ?_⟩
          walk_at "gs"
          refine ⟨_, .inP _ [32, 9], ?_⟩
          rw [Int.toNat_natCast, isW_in]
          exact ⟨⟨fun hh => ⟨hlt, hh⟩, fun hh => hh.2⟩, rfl⟩
        · walk_at "no"
          exact ⟨⟨fun hh => (nomatch hh), fun hh => absurd hh.1 hlt⟩, rfl⟩
      rintro t _ ⟨ht, rfl⟩
      by_cases him : i < m
      · refine ite_yes (ht.mpr him) ?_
        walk_at "gs"
        refine ⟨_, .addI _ _, ?_⟩
        walk_at "gs"
        exact ⟨m - (i + 1), by omega, i + 1, rfl, by omega, by omega, by walk_at "evs"⟩
      refine ite_no (fun hh => him (ht.mp hh)) ?_
      have : i = m := by omega
      subst this
      walk_at "gs"
      refine EX.while (fun k σ' => ∃ j : Nat, k = e - j ∧ i ≤ j ∧ j ≤ e ∧ σ'.tp = tp ∧ σ'.ev "body" = some (.val (.bytes b)) ∧ σ'.ev "begun" = some (.val (.int (a : Nat))) ∧ σ'.ev "at" = some (.val (.int (j : Nat))) ∧ σ'.ev "pieces" = some (.opn (done.map .bytes)))
        ?_ (e - i) ⟨i, rfl, Nat.le_refl _, h2.1, by walk_at "evs"⟩
      rintro k σ ⟨j, rfl, j1, j2, t1, e1, e2, e3, e4⟩
      refine IT.mono (Ψ := fun t σ1 => (t = true ↔ j < e) ∧ σ1 = σ) ?_ ?_
      · rw [← h2.at j1 j2]
        walk_at "gs"
        refine ⟨_, .lenB b (by omega), ?_⟩
        walk_at "gs"
        walk_at "cmp"
        by_cases hlt : j < b.length
        · walk_at "yes"
          walk_at "gs"
          refine ⟨_, .bytes b _ (by omega) (by omega) (by omega), ?_⟩
          walk_at "gs"
          refine ⟨_, .ninP _ [32, 9], ?_⟩
          rw [Int.toNat_natCast, isW_in]
          exact ⟨⟨fun hh => ⟨hlt, hh⟩, fun hh => hh.2⟩, rfl⟩
        · walk_at "no"
          exact ⟨⟨fun hh => (nomatch hh), fun hh => absurd hh.1 hlt⟩, rfl⟩
      rintro t _ ⟨ht, rfl⟩
      by_cases him : j < e
      · refine ite_yes (ht.mpr him) ?_
        walk_at "gs"
        refine ⟨_, .addI _ _, ?_⟩
        walk_at "gs"
        exact ⟨e - (j + 1), by omega, j + 1, rfl, by omega, by omega, by walk_at "evs"⟩
      refine ite_no (fun hh => him (ht.mp hh)) ?_
      have : j = e := by omega
      subst this
      walk_at "gs"
      have := hp.le
      refine ⟨_, CutR.nat (by omega) (by omega) (by omega), ?_⟩
      walk_at "gs"
      refine ⟨left'.length, by simp, done ++ [sliceB b a j], left', j, rfl, hp, by rw [hrows]; simp, ?_⟩
      rw [List.map_append]
      walk_at "evs"
theorem check_name_ok {prog : Program} {w : World} {h₀ : Heap} {T : Addr} {tp : Option (Int × Int × Int)} {n : Nat} (b : List UInt8) (hz : b.length ≤ 1000000) (h : isName b = true) :
    CALL prog w h₀ T 156 (n + 2) [.bytes b] tp (fun a t => a = .none ∧ t = tp) := by
  refine CALL.intro (das := []) ["name"] (by rfl) (by rfl) (fun s X => ?_) (by rfl) (by decide) (fun A L hid K => ?_)
  · exact fun _ => ⟨[], BindsTo.of_eq rfl, fun _ => .nil⟩
  · walk_at "gs"
    refine ⟨_, Nat.le_refl _, (is_name_ok b hz).mono ?_⟩
    walk_at "ret"
    rw [h]
    walk_at "gs"
    walk_at "no"
    walk_at "gs"
    exact ⟨rfl, rfl⟩
theorem EV.same {c : Cx} {σ : Sg} {Φ : AV → Sg → Prop} {e : Expr} (v : AV) (h : EV c e σ (fun a σ' => a = v ∧ σ' = σ)) (k : Φ v σ) : EV c e σ Φ := h.mono fun a σ' ⟨h1, h2⟩ => by rw [h1, h2]; exact k
theorem IT.same {c : Cx} {σ : Sg} {Φ : Bool → Sg → Prop} {e : Expr} (v : Bool) (h : IT c e σ (fun a σ' => a = v ∧ σ' = σ)) (k : Φ v σ) : IT c e σ Φ := h.mono fun a σ' ⟨h1, h2⟩ => by rw [h1, h2]; exact k
@[reducible] noncomputable def exprK (Φ : Fl → Sg → Prop) : AV → Sg → Prop := fun a σ' => a = .none ∧ Φ .nxt σ'
theorem EX.expr {c : Cx} {σ : Sg} {n : Nat} {Φ : Fl → Sg → Prop} {e : Expr} {pos : Pos} (K : CxOk c n) (h : EV c e σ (exprK Φ)) (hs : swapsWith e Option.none pos.line c.env = pure false := by rfl) : EX c (.Expr e pos) σ Φ := by
  intro sl s S Q hQ
  refine Expr_of (h sl s S _ fun v a σ' sl' h' tk' s' S' r k => ?_) K.kind hs
  obtain ⟨rfl, k⟩ := k
  cases r
  exact hQ .next .nxt σ' sl' h' tk' s' S' .nxt k
noncomputable def foldStep (width : Nat) (st : List (List UInt8) × List UInt8) (more : List UInt8) : List (List UInt8) × List UInt8 := if st.2.length + more.length > width then (st.1 ++ [st.2], more) else (st.1, st.2 ++ more)
noncomputable def mores : List (List UInt8) → List (List UInt8)
  | [] => []
  | p :: r => (32 :: p) :: r
theorem mores_snoc (pre : List (List UInt8)) (x : List UInt8) : mores (pre ++ [x]) = mores pre ++ [if pre.length > 0 then x else 32 :: x] := by
  cases pre with
  | nil => rfl
  | cons p r => simp [mores]
noncomputable def foldedB (name : List UInt8) (ps : List (List UInt8)) (width : Nat) : List (List UInt8) :=
  let st := (mores ps).foldl (foldStep width) ([], name ++ [58])
  st.1 ++ [st.2]
noncomputable def sumL (l : List (List UInt8)) : Nat := (l.map (·.length)).sum
theorem sumL_append (l m : List (List UInt8)) : sumL (l ++ m) = sumL l + sumL m := by simp [sumL]
theorem sumL_one (x : List UInt8) : sumL [x] = x.length := by simp [sumL]
theorem foldStep_sum (width : Nat) (st : List (List UInt8) × List UInt8) (x : List UInt8) : sumL (foldStep width st x).1 + (foldStep width st x).2.length = sumL st.1 + st.2.length + x.length := by
  unfold foldStep
  split
  · simp only [sumL_append, sumL_one]
  · simp only [List.length_append]; omega
theorem foldStep_len (width : Nat) (st : List (List UInt8) × List UInt8) (x : List UInt8) : (foldStep width st x).1.length ≤ st.1.length + 1 := by
  unfold foldStep
  split <;> simp
theorem foldl_sum (width : Nat) : ∀ (l : List (List UInt8)) (st : List (List UInt8) × List UInt8), sumL (l.foldl (foldStep width) st).1 + (l.foldl (foldStep width) st).2.length = sumL st.1 + st.2.length + sumL l ∧ (l.foldl (foldStep width) st).1.length ≤ st.1.length + l.length
  | [], st => by simp [sumL]
  | x :: l, st => by
    have h1 := foldl_sum width l (foldStep width st x)
    have h2 := foldStep_sum width st x
    have h3 := foldStep_len width st x
    have h4 : sumL (x :: l) = x.length + sumL l := by simp [sumL]
    rw [List.foldl_cons, List.length_cons]
    omega
theorem bjoin_len (sep : List UInt8) : ∀ l : List (List UInt8), (bjoin sep l).length ≤ sumL l + sep.length * l.length
  | [] => by simp [bjoin]
  | [x] => by simp [bjoin, sumL]
  | x :: y :: l => by
    have := bjoin_len sep (y :: l)
    have e : sumL (x :: y :: l) = x.length + sumL (y :: l) := by simp [sumL]
    simp only [bjoin, List.length_append, List.length_cons] at *
    rw [e, Nat.mul_add sep.length (l.length + 1) 1]
    omega
theorem sumL_mores (ps : List (List UInt8)) : sumL (mores ps) ≤ sumL ps + 1 ∧ (mores ps).length = ps.length := by
  cases ps with
  | nil => simp [mores, sumL]
  | cons p r => simp [mores, sumL]; omega
theorem mem10 {b : List UInt8} (h : (10 : UInt8) ∉ b) : b.contains (Int.toNat 10).toUInt8 = false := by
  have e : (Int.toNat 10).toUInt8 = 10 := rfl
  rw [e]; simpa using h
theorem mem13 {b : List UInt8} (h : (13 : UInt8) ∉ b) : b.contains (Int.toNat 13).toUInt8 = false := by
  have e : (Int.toNat 13).toUInt8 = 13 := rfl
  rw [e]; simpa using h
theorem folded_ok {prog : Program} {w : World} {h₀ : Heap} {T : Addr} {tp : Option (Int × Int × Int)} {n : Nat} (name body : List UInt8) (width : Nat) (ps : List (List UInt8)) (h1 : isName name = true) (hz1 : name.length ≤ 1000) (hz2 : body.length ≤ 1000)
    (h10 : (10 : UInt8) ∉ body) (h13 : (13 : UInt8) ∉ body) (hP : Pieces (stripW body) 0 ps) (hn : ps.length ≤ 100) (hs : sumL ps ≤ 1000) (hz3 : (stripW body).length ≤ 1000) :
    CALL prog w h₀ T 164 (n + 3) [.bytes name, .bytes body, .int width] tp (fun a t => a = .bytes (bjoin [13, 10] (foldedB name ps width) ++ [13, 10]) ∧ t = tp) := by
  refine CALL.intro (das := []) ["name", "body", "width"] (by rfl) (by rfl) (fun s X => ?_) (by rfl) (by decide) (fun A L hid K => ?_)
  · exact fun _ _ _ => ⟨[], binds_K X rfl (by rfl) rfl rfl rfl, fun _ => .nil⟩
  · refine EXS.cons (EX.expr K ?_)
    walk_at "gs"
    refine ⟨_, Nat.le_refl _, (check_name_ok name (by omega) h1).mono ?_⟩
    walk_at "ret"
    refine ⟨rfl, ?_⟩
    refine EXS.cons (EX.for K (ITR.of K ?_))
    walk_at "gs"
    refine ⟨rfl, _, .tup _, ?_⟩
    intro hid1
    have K1 := K.hide hid1
    walk_at "gs"
    refine ⟨_, .inB 10 body (by decide) (by decide), ?_⟩
    rw [mem10 h10]
    walk_at "no"
    walk_at "gs"
    intro hid2
    have K2 := K.hide hid2
    walk_at "gs"
    refine ⟨_, .inB 13 body (by decide) (by decide), ?_⟩
    rw [mem13 h13]
    walk_at "no"
    walk_at "gs"
    show EXS _ _ _ _
    walk_at "gs"
    refine ⟨_, .addB _ _ (by walk_at "sz"), ?_⟩
    walk_at "gs"
    refine EX.for K (ITR.enumc K (by rfl) ?_)
    walk_at "gs"
    refine ⟨_, .strip body (by omega), ?_⟩
    walk_at "gs"
    refine ⟨_, Nat.le_add_left _ _, (pieces_of_ok _ ps (by omega) hP (by omega)).mono ?_⟩
    walk_at "ret"
    refine .inl ⟨_, rfl, ?_⟩
    refine FORL.inv (fun l σ' => ∃ pre post : List (List UInt8), ps = pre ++ post ∧ l = ((post.map AV.bytes).zipIdx pre.length).map (fun p => .tup [.int (p.2 : Int), p.1]) ∧ σ'.tp = tp ∧ σ'.ev "width" = some (.val (.int width))
      ∧ σ'.ev "rows" = some (.opn (((mores pre).foldl (foldStep width) ([], name ++ [58])).1.map .bytes)) ∧ σ'.ev "row" = some (.val (.bytes ((mores pre).foldl (foldStep width) ([], name ++ [58])).2))) ?_ ?_ _ _ ⟨[], ps, rfl, rfl, by walk_at "evs"⟩
    · rintro hid d l σ ⟨pre, post, q1, q2, t1, e1, e2, e3⟩
      have Kh := K.hide hid
      cases post with
      | nil => cases q2
      | cons x post =>
        simp only [List.map_cons, List.zipIdx_cons, List.cons.injEq] at q2
        obtain ⟨rfl, rfl⟩ := q2
        have hsum := foldl_sum width (mores pre) ([], name ++ [58])
        have hm := sumL_mores pre
        have hps : sumL ps = sumL pre + (x.length + sumL post) := by rw [q1, sumL_append]; simp [sumL]
        have hpl : ps.length = pre.length + (post.length + 1) := by rw [q1]; simp
        have hms := mores_snoc pre x
        generalize hst : (mores pre).foldl (foldStep width) ([], name ++ [58]) = st at hsum e2 e3
        have e0 : sumL (([] : List (List UInt8)), name ++ [58]).1 + (([] : List (List UInt8)), name ++ [58]).2.length = name.length + 1 := by simp [sumL]
        have e0' : (([] : List (List UInt8)), name ++ [58]).1.length = 0 := rfl
        rw [e0, e0'] at hsum
        have hst2 : (mores (pre ++ [x])).foldl (foldStep width) ([], name ++ [58]) = foldStep width st (if pre.length > 0 then x else 32 :: x) := by
          rw [hms, List.foldl_append, hst]; rfl
        have hl : (if pre.length > 0 then x else 32 :: x).length ≤ x.length + 1 := by split <;> simp
        have hfin : ∀ σ : Sg, σ.tp = tp → σ.ev "width" = some (.val (.int width)) → σ.ev "rows" = some (.opn ((foldStep width st (if pre.length > 0 then x else 32 :: x)).1.map .bytes)) → σ.ev "row" = some (.val (.bytes (foldStep width st (if pre.length > 0 then x else 32 :: x)).2)) →
            ∃ pre' post', ps = pre' ++ post' ∧ ((post.map AV.bytes).zipIdx (pre.length + 1)).map (fun p => AV.tup [.int (p.2 : Int), p.1]) = ((post'.map AV.bytes).zipIdx pre'.length).map (fun p => .tup [.int (p.2 : Int), p.1]) ∧ σ.tp = tp ∧ σ.ev "width" = some (.val (.int width))
              ∧ σ.ev "rows" = some (.opn (((mores pre').foldl (foldStep width) ([], name ++ [58])).1.map .bytes)) ∧ σ.ev "row" = some (.val (.bytes ((mores pre').foldl (foldStep width) ([], name ++ [58])).2)) := by
          intro σ g1 g2 g3 g4
          exact ⟨pre ++ [x], post, by rw [q1]; simp, by simp, g1, g2, by rw [hst2]; exact g3, by rw [hst2]; exact g4⟩
        generalize hmo : (if pre.length > 0 then x else 32 :: x) = mo at hl hfin
        walk_at "go"
        walk_at "go"
        walk_at "go"
        refine EV.same (.bytes mo) ?_ ?_
        · walk_at "gs"
          walk_at "cmp"
          subst hmo
          by_cases hp : pre.length > 0
          · rw [if_pos hp]
            walk_at "yes"
            walk_at "gs"
            exact ⟨rfl, rfl⟩
          · rw [if_neg hp]
            walk_at "no"
            walk_at "gs"
            refine ⟨_, .addB _ _ (by walk_at "sz"), ?_⟩
            exact ⟨rfl, rfl⟩
        have hl2 : st.2.length ≤ 3000 := by omega
        have hl3 : st.1.length ≤ 1000 := by omega
        walk_at "gs"
        refine ⟨_, .lenB _ (by omega), ?_⟩
        walk_at "gs"
        refine ⟨_, .lenB _ (by omega), ?_⟩
        refine ⟨_, .addI _ _, ?_⟩
        walk_at "gs"
        walk_at "cmp"
        by_cases hw : st.2.length + mo.length > width
        · have e : foldStep width st mo = (st.1 ++ [st.2], mo) := if_pos hw
          rw [e] at hfin
          walk_at "yes"
          walk_at "gs"
          refine ⟨_, .addB _ _ (by walk_at "sz"), ?_⟩
          walk_at "gs"
          refine hfin _ ?_ ?_ ?_ ?_
          · walk_at "ev"
          · walk_at "ev"
          · rw [List.map_append]; walk_at "ev"
          · walk_at "ev"
        · have e : foldStep width st mo = (st.1, st.2 ++ mo) := if_neg hw
          rw [e] at hfin
          walk_at "no"
          walk_at "gs"
          refine ⟨_, .addB _ _ (by walk_at "sz"), ?_⟩
          walk_at "gs"
          refine hfin _ ?_ ?_ ?_ ?_ <;> walk_at "ev"
    · rintro σ ⟨pre, post, q1, q2, t1, e1, e2, e3⟩
      have : post = [] := by
        cases post with
        | nil => rfl
        | cons _ _ => cases q2
      subst this
      rw [List.append_nil] at q1
      subst q1
      have hsum := foldl_sum width (mores ps) ([], name ++ [58])
      have hm := sumL_mores ps
      have hdef : foldedB name ps width = ((mores ps).foldl (foldStep width) ([], name ++ [58])).1 ++ [((mores ps).foldl (foldStep width) ([], name ++ [58])).2] := rfl
      generalize hst : (mores ps).foldl (foldStep width) ([], name ++ [58]) = st at hsum e2 e3 hdef
      have e0 : sumL (([] : List (List UInt8)), name ++ [58]).1 + (([] : List (List UInt8)), name ++ [58]).2.length = name.length + 1 := by simp [sumL]
      have e0' : (([] : List (List UInt8)), name ++ [58]).1.length = 0 := rfl
      rw [e0, e0'] at hsum
      have hbl := bjoin_len [13, 10] (foldedB name ps width)
      have hfl : (foldedB name ps width).length = st.1.length + 1 := by rw [hdef]; simp
      have hfs : sumL (foldedB name ps width) = sumL st.1 + st.2.length := by rw [hdef, sumL_append, sumL_one]
      walk_at "go"
      walk_at "go"
      walk_at "go"
      refine EV.vmeth .joinB ?_
      walk_at "gs"
      refine ⟨_, .addL _ _ (by walk_at "sz"), ?_⟩
      walk_at "gs"
      have e : (st.1.map AV.bytes ++ [AV.bytes st.2]) = (foldedB name ps width).map .bytes := by rw [hdef]; simp
      rw [e]
      have e2 : [(13 : UInt8), 10].length = 2 := rfl
      rw [e2] at hbl
      refine ⟨_, .joinB _ _ (by omega) (by show sumL _ + _ ≤ _; simp only [e2]; omega), ?_⟩
      walk_at "gs"
      refine ⟨_, .addB _ _ (by walk_at "sz"), ?_⟩
      exact ⟨rfl, t1⟩
theorem slice_mid (a b c : List UInt8) : sliceB (a ++ b ++ c) a.length (a.length + b.length) = b := by
  unfold sliceB
  rw [List.append_assoc, List.drop_left, Nat.add_sub_cancel_left, List.take_left]
theorem made_field_ok {prog : Program} {w : World} {h₀ : Heap} {T : Addr} {tp : Option (Int × Int × Int)} {n : Nat} (name body raw : List UInt8) (width : Nat) (ps : List (List UInt8)) (h1 : isName name = true) (hz1 : name.length ≤ 1000) (hz2 : body.length ≤ 1000)
    (h10 : (10 : UInt8) ∉ body) (h13 : (13 : UInt8) ∉ body) (hP : Pieces (stripW body) 0 ps) (hn : ps.length ≤ 100) (hs : sumL ps ≤ 1000) (hz3 : (stripW body).length ≤ 1000) (hX : bjoin [13, 10] (foldedB name ps width) = name ++ [58] ++ raw) (hr : raw.length ≤ 10000) :
    CALL prog w h₀ T 182 (n + 4) [.bytes name, .bytes body, .int width] tp (fun a t => a = .fld name raw ∧ t = tp) := by
  refine CALL.intro (das := []) ["name", "body", "width"] (by rfl) (by rfl) (fun s X => ?_) (by rfl) (by decide) (fun A L hid K => ?_)
  · exact fun _ _ _ => ⟨[], binds_K X rfl (by rfl) rfl rfl rfl, fun _ => .nil⟩
  · walk_at "gs"
    refine ⟨_, Nat.le_refl _, (folded_ok name body width ps h1 hz1 hz2 h10 h13 hP hn hs hz3).mono ?_⟩
    walk_at "ret"
    rw [hX]
    walk_at "gs"
    refine ⟨_, .lenB _ (by omega), ?_⟩
    walk_at "gs"
    refine ⟨_, .addI _ _, ?_⟩
    walk_at "gs"
    refine ⟨_, .lenB _ (by walk_at "sz"), ?_⟩
    walk_at "gs"
    refine ⟨_, .subI _ _, ?_⟩
    walk_at "gs"
    have e1 : (name.length : Int) + 1 = ((name.length + 1 : Nat) : Int) := by omega
    have e2 : ((name ++ [58] ++ raw ++ [13, 10]).length : Int) - 2 = ((name.length + 1 + raw.length : Nat) : Int) := by simp; omega
    rw [e1, e2]
    refine ⟨_, CutR.nat (by walk_at "sz") (by walk_at "sz") (by walk_at "sz"), ?_⟩
    have e3 := slice_mid (name ++ [58]) raw [13, 10]
    have e4 : (name ++ [58]).length = name.length + 1 := List.length_append
    rw [e4] at e3
    rw [e3]
    walk_at "gs"
    exact ⟨rfl, rfl⟩

theorem evC_at {fs : List Str} {ev : Str → Option Slot} {y : Str} {a : AV} (h : fs.contains y = true) (e : ev y = some (.val a)) : evC fs ev y = some (.val a) := by
  unfold evC
  rw [if_pos h, e]
noncomputable def WordsOk (ws : List (List Nat)) : Prop := ws.length ≤ 100 ∧ ∀ x ∈ ws, x.length ≤ 1000 ∧ ∀ k ∈ x, k ≤ 1000
theorem only_words_ok {prog : Program} {w : World} {h₀ : Heap} {T : Addr} {tp : Option (Int × Int × Int)} {n : Nat} (rows : List (List UInt8 × List UInt8)) (ws : List (List Nat)) (hr : ∀ r ∈ rows, r.1.length ≤ 1000) (hn : rows.length ≤ 1000) (hw : WordsOk ws) :
    CALL prog w h₀ T 169 (n + 4) [.lst (rows.map fldAV), .lst (ws.map .str)] tp (fun a t => a = .lst ((rows.filter fun r => (ws.map fun x => x.map lowerN).contains (smallB r.1)).map fldAV) ∧ t = tp) := by
  refine CALL.intro (das := []) ["fields", "words"] (by rfl) (by rfl) (fun s X => ?_) (by rfl) (by decide) (fun A L hid K => ?_)
  · exact fun _ _ => ⟨[], BindsTo.of_eq rfl, fun _ => .nil⟩
  · walk_at "gs"
    refine EV.compK [] (fun σ => σ.tp = tp) (fun x : List Nat => .str x) yes (fun x => .str (x.map lowerN)) ws K ⟨rfl, by decide, by decide, rfl, by decide, rfl⟩ (ITR.of K ?_) ?_
    · walk_at "gs"
      refine ⟨rfl, _, .lst _, rfl, by have := hw.1; omega, rfl, fun σ2 ht => ?_⟩
      rw [filter_yes]
      have e : ws.map (fun x => AV.str (x.map lowerN)) = (ws.map fun x => x.map lowerN).map .str := by rw [List.map_map]; rfl
      rw [e]
      generalize hW : (ws.map fun x => x.map lowerN) = W
      walk_at "gs"
      refine EV.compK ["wanted"] (fun σ => σ.tp = tp ∧ σ.ev "wanted" = some (.val (.lst (W.map .str)))) fldAV (fun r => (W.contains (smallB r.1))) fldAV rows K ⟨rfl, by decide, by decide, rfl, by decide, rfl⟩ (ITR.of K ?_) ?_
      · walk_at "gs"
        refine ⟨rfl, _, .lst _, rfl, by omega, ⟨ht, ?_⟩, fun σ2 ht => ?_⟩
        · rfl
        exact ⟨rfl, ht.1⟩
      · rintro C hid r σ Kc hk ⟨ht, hev⟩
        have := hr r hk
        walk_at "gs"
        refine ⟨by omega, ?_⟩
        walk_at "gs"
        refine ⟨_, .inS _ _, rfl, ?_⟩
        by_cases hc : (W.contains (smallB r.1)) = true
        · refine ite_yes hc ?_
          walk_at "gs"
          exact ⟨rfl, ht, by walk_at "evs"⟩
        · refine ite_no hc ?_
          exact ⟨ht, by walk_at "evs"⟩
    · intro C hid x σ Kc hk ht
      have := hw.2 x hk
      walk_at "gs"
      refine ⟨_, Nat.le_add_left _ _, (lower_text_ok x this.2 this.1).mono ?_⟩
      walk_at "ret"
      exact ⟨rfl, ht⟩
theorem without_words_ok {prog : Program} {w : World} {h₀ : Heap} {T : Addr} {tp : Option (Int × Int × Int)} {n : Nat} (rows : List (List UInt8 × List UInt8)) (ws : List (List Nat)) (hr : ∀ r ∈ rows, r.1.length ≤ 1000) (hn : rows.length ≤ 1000) (hw : WordsOk ws) :
    CALL prog w h₀ T 174 (n + 4) [.lst (rows.map fldAV), .lst (ws.map .str)] tp (fun a t => a = .lst ((rows.filter fun r => !(ws.map fun x => x.map lowerN).contains (smallB r.1)).map fldAV) ∧ t = tp) := by
  refine CALL.intro (das := []) ["fields", "words"] (by rfl) (by rfl) (fun s X => ?_) (by rfl) (by decide) (fun A L hid K => ?_)
  · exact fun _ _ => ⟨[], BindsTo.of_eq rfl, fun _ => .nil⟩
  · walk_at "gs"
    refine EV.compK [] (fun σ => σ.tp = tp) (fun x : List Nat => .str x) yes (fun x => .str (x.map lowerN)) ws K ⟨rfl, by decide, by decide, rfl, by decide, rfl⟩ (ITR.of K ?_) ?_
    · walk_at "gs"
      refine ⟨rfl, _, .lst _, rfl, by have := hw.1; omega, rfl, fun σ2 ht => ?_⟩
      rw [filter_yes]
      have e : ws.map (fun x => AV.str (x.map lowerN)) = (ws.map fun x => x.map lowerN).map .str := by rw [List.map_map]; rfl
      rw [e]
      generalize hW : (ws.map fun x => x.map lowerN) = W
      walk_at "gs"
      refine EV.compK ["barred"] (fun σ => σ.tp = tp ∧ σ.ev "barred" = some (.val (.lst (W.map .str)))) fldAV (fun r => (!W.contains (smallB r.1))) fldAV rows K ⟨rfl, by decide, by decide, rfl, by decide, rfl⟩ (ITR.of K ?_) ?_
      · walk_at "gs"
        refine ⟨rfl, _, .lst _, rfl, by omega, ⟨ht, ?_⟩, fun σ2 ht => ?_⟩
        · rfl
        exact ⟨rfl, ht.1⟩
      · rintro C hid r σ Kc hk ⟨ht, hev⟩
        have := hr r hk
        walk_at "gs"
        refine ⟨by omega, ?_⟩
        walk_at "gs"
        refine ⟨_, .ninS _ _, rfl, ?_⟩
        by_cases hc : (!W.contains (smallB r.1)) = true
        · refine ite_yes hc ?_
          walk_at "gs"
          exact ⟨rfl, ht, by walk_at "evs"⟩
        · refine ite_no hc ?_
          exact ⟨ht, by walk_at "evs"⟩
    · intro C hid x σ Kc hk ht
      have := hw.2 x hk
      walk_at "gs"
      refine ⟨_, Nat.le_add_left _ _, (lower_text_ok x this.2 this.1).mono ?_⟩
      walk_at "ret"
      exact ⟨rfl, ht⟩
noncomputable def withStep (nr : List UInt8 × List UInt8) (st : List (List UInt8 × List UInt8) × Bool) (q : List UInt8 × List UInt8) : List (List UInt8 × List UInt8) × Bool :=
  if smallB q.1 ≠ smallB nr.1 then (st.1 ++ [q], st.2) else if st.2 = false then (st.1 ++ [nr], true) else st
noncomputable def withF (rows : List (List UInt8 × List UInt8)) (nr : List UInt8 × List UInt8) : List (List UInt8 × List UInt8) :=
  let st := rows.foldl (withStep nr) ([], false)
  if st.2 then st.1 else st.1 ++ [nr]
theorem withStep_len (nr st q) : (withStep nr st q).1.length ≤ st.1.length + 1 := by
  unfold withStep
  split
  · simp
  · split <;> simp
theorem withFold_len (nr) : ∀ (rows : List (List UInt8 × List UInt8)) (st), (rows.foldl (withStep nr) st).1.length ≤ st.1.length + rows.length
  | [], st => by simp
  | q :: rows, st => by
    have := withFold_len nr rows (withStep nr st q)
    have := withStep_len nr st q
    rw [List.foldl_cons, List.length_cons]; omega
theorem with_field_ok {prog : Program} {w : World} {h₀ : Heap} {T : Addr} {tp : Option (Int × Int × Int)} {n : Nat} (rows : List (List UInt8 × List UInt8)) (nr : List UInt8 × List UInt8) (hr : ∀ r ∈ rows, r.1.length ≤ 1000) (hn : rows.length ≤ 1000) (hnr : nr.1.length ≤ 1000) :
    CALL prog w h₀ T 189 (n + 4) [.lst (rows.map fldAV), fldAV nr] tp (fun a t => a = .lst ((withF rows nr).map fldAV) ∧ t = tp) := by
  refine CALL.intro (das := []) ["fields", "field"] (by rfl) (by rfl) (fun s X => ?_) (by rfl) (by decide) (fun A L hid K => ?_)
  · exact fun _ _ => ⟨[], BindsTo.of_eq rfl, fun _ => .nil⟩
  · walk_at "gs"
    refine ⟨by omega, ?_⟩
    walk_at "gs"
    refine EX.for K (ITR.of K ?_)
    walk_at "gs"
    refine ⟨rfl, _, .lst _, ?_⟩
    refine FORL.inv (fun l σ' => ∃ pre post : List (List UInt8 × List UInt8), rows = pre ++ post ∧ l = post.map fldAV ∧ σ'.tp = tp ∧ σ'.ev "word" = some (.val (.str (smallB nr.1))) ∧ σ'.ev "field" = some (.val (fldAV nr))
      ∧ σ'.ev "found" = some (.opn ((pre.foldl (withStep nr) ([], false)).1.map fldAV)) ∧ σ'.ev "is_put" = some (.val (.bool (pre.foldl (withStep nr) ([], false)).2))) ?_ ?_ _ _ ⟨[], rows, rfl, rfl, by walk_at "evs"⟩
    · rintro hid d l σ ⟨pre, post, q1, q2, t1, e1, e2, e3, e4⟩
      have Kh := K.hide hid
      cases post with
      | nil => cases q2
      | cons q post =>
        simp only [List.map_cons, List.cons.injEq] at q2
        obtain ⟨rfl, rfl⟩ := q2
        have hq : q.1.length ≤ 1000 := hr q (by rw [q1]; simp)
        have hpl : rows.length = pre.length + (post.length + 1) := by rw [q1]; simp
        have hst2 : (pre ++ [q]).foldl (withStep nr) ([], false) = withStep nr (pre.foldl (withStep nr) ([], false)) q := by rw [List.foldl_append]; rfl
        have hlen := withFold_len nr pre ([], false)
        generalize hst : pre.foldl (withStep nr) ([], false) = st at hlen e3 e4 hst2
        have e0 : (([] : List (List UInt8 × List UInt8)), false).1.length = 0 := rfl
        rw [e0] at hlen
        have hfin : ∀ σ : Sg, σ.tp = tp → σ.ev "word" = some (.val (.str (smallB nr.1))) → σ.ev "field" = some (.val (fldAV nr)) → σ.ev "found" = some (.opn ((withStep nr st q).1.map fldAV)) → σ.ev "is_put" = some (.val (.bool (withStep nr st q).2)) →
            ∃ pre' post' : List (List UInt8 × List UInt8), rows = pre' ++ post' ∧ post.map fldAV = post'.map fldAV ∧ σ.tp = tp ∧ σ.ev "word" = some (.val (.str (smallB nr.1))) ∧ σ.ev "field" = some (.val (fldAV nr))
              ∧ σ.ev "found" = some (.opn ((pre'.foldl (withStep nr) ([], false)).1.map fldAV)) ∧ σ.ev "is_put" = some (.val (.bool (pre'.foldl (withStep nr) ([], false)).2)) := by
          intro σ g1 g2 g3 g4 g5
          exact ⟨pre ++ [q], post, by rw [q1]; simp, rfl, g1, g2, g3, by rw [hst2]; exact g4, by rw [hst2]; exact g5⟩
        walk_at "gs"
        refine ⟨hq, ?_⟩
        walk_at "gs"
        refine ⟨_, .neS _ _, ?_⟩
        by_cases hw : smallB q.1 = smallB nr.1
        · refine ite_no (by simp [hw]) ?_
          by_cases hp : st.2 = false
          · have e : withStep nr st q = (st.1 ++ [nr], true) := by unfold withStep; rw [if_neg (by simpa using hw), if_pos hp]
            rw [e] at hfin
            walk_at "gs"
            rw [hp]
            walk_at "yes"
            walk_at "gs"
            refine hfin _ ?_ ?_ ?_ ?_ ?_
            · walk_at "ev"
            · walk_at "ev"
            · walk_at "ev"
            · rw [List.map_append]; walk_at "ev"
            · walk_at "ev"
          · have hp' : st.2 = true := by simpa using hp
            have e : withStep nr st q = st := by unfold withStep; rw [if_neg (by simpa using hw), if_neg hp]
            rw [e] at hfin
            walk_at "gs"
            rw [hp']
            walk_at "no"
            walk_at "gs"
            refine hfin _ ?_ ?_ ?_ ?_ ?_ <;> walk_at "ev"
        · refine ite_yes (by simp [hw]) ?_
          have e : withStep nr st q = (st.1 ++ [q], st.2) := by unfold withStep; rw [if_pos hw]
          rw [e] at hfin
          walk_at "gs"
          refine hfin _ ?_ ?_ ?_ ?_ ?_
          · walk_at "ev"
          · walk_at "ev"
          · walk_at "ev"
          · rw [List.map_append]; walk_at "ev"
          · walk_at "ev"
    · rintro σ ⟨pre, post, q1, q2, t1, e1, e2, e3, e4⟩
      have : post = [] := by
        cases post with
        | nil => rfl
        | cons _ _ => cases q2
      subst this
      rw [List.append_nil] at q1
      subst q1
      have hlen := withFold_len nr rows ([], false)
      have e0 : (([] : List (List UInt8 × List UInt8)), false).1.length = 0 := rfl
      rw [e0] at hlen
      walk_at "gs"
      unfold withF
      generalize hst : rows.foldl (withStep nr) ([], false) = st at hlen e3 e4 ⊢
      cases hp : st.2 with
      | true =>
        rw [hp] at e4
        walk_at "gs"
        walk_at "yes"
        walk_at "gs"
        exact ⟨by simp only [hp, if_true], t1⟩
      | false =>
        rw [hp] at e4
        walk_at "gs"
        walk_at "no"
        walk_at "gs"
        refine ⟨_, .addL _ _ (by walk_at "sz"), ?_⟩
        exact ⟨by simp only [hp, Bool.false_eq_true, if_false, List.map_append, List.map_cons, List.map_nil], t1⟩
/-- a tape that was drawn from at most m times -/
noncomputable def TpB (m : Nat) (t : Option (Int × Int × Int)) : Prop := ∃ d s k, t = some (d, s, k) ∧ 0 ≤ d ∧ 0 ≤ s ∧ s < 1000000007 ∧ 0 ≤ k ∧ k ≤ (m : Int)
theorem draw_ok {prog : Program} {w : World} {h₀ : Heap} {T : Addr} {tp : Option (Int × Int × Int)} {n m : Nat} (hT : TpB m tp) (hm : m ≤ 100000) (many : Nat) (h0 : 0 < many) (h1 : many ≤ 1000) :
    CALL prog w h₀ T 216 (n + 1) [.tape, .int many] tp (fun a t => ∃ i : Nat, i < many ∧ a = .int i ∧ TpB (m + 1) t) := by
  obtain ⟨d, s, k, rfl, hd, hs0, hs1, hk0, hk1⟩ := hT
  refine CALL.intro (das := []) ["tape", "many"] (by rfl) (by rfl) (fun s X => ?_) (by rfl) (by decide) (fun A L hid K => ?_)
  · exact fun _ _ => ⟨[], BindsTo.of_eq rfl, fun _ => .nil⟩
  · walk_at "go"
    refine EX.mono (Φ := fun f σ' => f = .nxt ∧ ∃ d' k', σ' = ⟨some (d', s, k'), evOf ["tape", "many"] [.tape, .int many]⟩ ∧ 0 ≤ d' ∧ 0 ≤ k' ∧ k' ≤ (m : Int) + 1) ?_ ?_
    · walk_at "go"
      walk_at "go"
      refine EV.tape ?_
      walk_at "gs"
      refine ⟨rfl, ?_⟩
      walk_at "gs"
      refine ⟨_, _, _, rfl, rfl, rfl, ?_⟩
      walk_at "gs"
      walk_at "cmp"
      by_cases hz : d = 0
      · walk_at "yes"
        walk_at "go"
        refine EX.tape ?_
        walk_at "go"
        refine EV.tape ?_
        walk_at "gs"
        refine ⟨rfl, ?_⟩
        walk_at "gs"
        refine ⟨_, _, _, rfl, rfl, rfl, ?_⟩
        walk_at "gs"
        refine ⟨_, .addI _ _, _, rfl, ?_⟩
        walk_at "gs"
        refine ⟨rfl, ?_⟩
        walk_at "gs"
        refine ⟨_, _, _, rfl, rfl, rfl, ?_⟩
        walk_at "go"
        refine EX.tape ?_
        walk_at "go"
        walk_at "go"
        walk_at "go"
        refine EV.tape ?_
        walk_at "gs"
        refine ⟨rfl, ?_⟩
        walk_at "gs"
        refine ⟨_, _, _, rfl, rfl, rfl, ?_⟩
        walk_at "go"
        walk_at "go"
        refine EV.tape ?_
        walk_at "gs"
        refine ⟨rfl, ?_⟩
        walk_at "gs"
        refine ⟨_, _, _, rfl, rfl, rfl, ?_⟩
        refine ⟨_, .mulI _ _ (.of_left (by decide)), ?_⟩
        refine ⟨_, .addI _ _, ?_⟩
        walk_at "gs"
        have hbits : Builtin.Int.intBits (s + 70009 * (k + 1)) ≤ 64 := intBits_le_64 (by omega) (by omega)
        refine ⟨_, .powI _ _ (by decide) (by show (Builtin.Int.intBits (s + 70009 * (k + 1)) : Int) * 3 ≤ _; omega), ?_⟩
        walk_at "gs"
        refine ⟨_, .modI _ _ (by decide), _, rfl, ?_⟩
        walk_at "gs"
        refine ⟨rfl, ?_⟩
        walk_at "gs"
        refine ⟨_, _, _, rfl, rfl, rfl, ?_⟩
        walk_at "gs"
        refine ⟨rfl, _, _, rfl, ?_, by dsimp only; omega, by dsimp only; omega⟩
        exact Int.fmod_nonneg_of_pos _ (by decide)
      · walk_at "no"
        walk_at "gs"
        exact ⟨rfl, _, _, rfl, hd, hk0, by omega⟩
    · rintro f _ ⟨rfl, d', k', rfl, q1, q2, q3⟩
      have hm0 : (many : Int) ≠ 0 := by omega
      walk_at "go"
      walk_at "go"
      walk_at "go"
      refine EV.tape ?_
      walk_at "gs"
      refine ⟨rfl, ?_⟩
      walk_at "gs"
      refine ⟨_, _, _, rfl, rfl, rfl, ?_⟩
      walk_at "gs"
      refine ⟨_, .modI _ _ hm0, ?_⟩
      walk_at "go"
      refine EX.tape ?_
      walk_at "go"
      refine EV.tape ?_
      walk_at "gs"
      refine ⟨rfl, ?_⟩
      walk_at "gs"
      refine ⟨_, _, _, rfl, rfl, rfl, ?_⟩
      walk_at "gs"
      refine ⟨_, .divI _ _ hm0 (by omega), _, rfl, ?_⟩
      walk_at "gs"
      refine ⟨rfl, ?_⟩
      walk_at "gs"
      refine ⟨_, _, _, rfl, rfl, rfl, ?_⟩
      walk_at "gs"
      have e1 : 0 ≤ d'.fmod many := Int.fmod_nonneg_of_pos _ (by omega)
      have e2 : d'.fmod many < many := Int.fmod_lt_of_pos _ (by omega)
      refine ⟨(d'.fmod many).toNat, by omega, by rw [Int.toNat_of_nonneg e1], _, _, _, rfl, ?_, hs0, hs1, q2, by dsimp only; omega⟩
      exact Int.fdiv_nonneg q1 (by omega)

/-- the tape's own digits, drawn: a call of _law_draw -/
inductive DrawN (m many : Nat) (Φ : AV → Sg → Prop) (σ1 : Sg) : Prop
  | mk (h0 : 0 < many) (h1 : many ≤ 1000) (hm : m ≤ 100000) (t : TpB m σ1.tp) (k : ∀ i t, i < many → TpB (m + 1) t → Φ (.int (i : Nat)) ⟨t, σ1.ev⟩) : DrawN m many Φ σ1
inductive DrawE (m : Nat) (Φ : AV → Sg → Prop) (as : List AV) (σ1 : Sg) : Prop
  | mk (many : Nat) (e : as = [.tape, .int (many : Int)]) (h : DrawN m many Φ σ1) : DrawE m Φ as σ1
@[reducible] noncomputable def drawK (m : Nat) (Φ : AV → Sg → Prop) : List AV → Sg → Prop := fun as σ1 => DrawE m Φ as σ1
theorem EV.draw {c : Cx} {σ : Sg} {Φ : AV → Sg → Prop} {n m : Nat} {p pos : Pos} {e1 e2 : Expr} (K : CxOk c (n + 1)) (hk : c.env.kindOf "_law_draw" = some .globalImplicit)
    (h : EVS c pos [e1, e2] σ (drawK m Φ))
    (he : starEach [e1, e2] c.env = (false, eval e1 c.env) :: starEach [e2] c.env := by rfl) : EV c (.Call (.Name "_law_draw" p) [e1, e2] [] pos) σ Φ := by
  refine EV.call K (f := 216) (by rfl) (by rfl) hk (fun sl s S Q hQ => h sl s S Q fun vs as σ' sl' h' tk' h1 h2 h3 h4 => hQ vs as σ' sl' h' tk' h1 h2 h3 ?_) he
  obtain ⟨many, rfl, h0, h1, hm, hT, k⟩ := h4
  exact ⟨n + 1, Nat.le_refl _, (draw_ok hT hm many h0 h1).mono fun a t ⟨i, hi, ha, ht⟩ => by rw [ha]; exact k i t hi ht⟩
noncomputable def upI (mask : Int) (a : Nat) (c : UInt8) : Int := if (97 ≤ (c.toNat : Int) ∧ (c.toNat : Int) ≤ 122) ∧ (mask.fdiv (2 ^ a)).fmod 2 = 1 then (c.toNat : Int) - 32 else c.toNat
theorem okB_iff (x : UInt8) : (okB x = true) ↔ 33 ≤ x.toNat ∧ x.toNat ≤ 126 ∧ x.toNat ≠ 58 := by
  unfold okB
  have e1 : x < 33 ↔ x.toNat < 33 := UInt8.lt_iff_toNat_lt
  have e2 : 126 < x ↔ 126 < x.toNat := UInt8.lt_iff_toNat_lt
  have e3 : x = 58 ↔ x.toNat = 58 := by rw [← UInt8.toNat_inj]; rfl
  simp only [Bool.not_eq_true', Bool.or_eq_false_iff, decide_eq_false_iff_not, beq_eq_false_iff_ne, ne_eq, e1, e2, e3]
  omega
theorem upI_ok {mask : Int} {a : Nat} {c : UInt8} (h : okB c = true) : 0 ≤ upI mask a c ∧ upI mask a c < 256 ∧ okB (upI mask a c).toNat.toUInt8 = true := by
  rw [okB_iff] at h ⊢
  have := c.toNat_lt
  unfold upI
  split
  · rename_i hh
    refine ⟨by omega, by omega, ?_⟩
    have e : ((c.toNat : Int) - 32).toNat.toUInt8.toNat = c.toNat - 32 := by simp; omega
    rw [e]; omega
  · refine ⟨by omega, by omega, ?_⟩
    have e : ((c.toNat : Int)).toNat.toUInt8.toNat = c.toNat := by simp
    rw [e]; omega
noncomputable def NAMES : List (List UInt8) := [[116, 111], [116, 111, 101], [120, 91], [120, 123], [99, 99, 45, 49]]
theorem names_ok : ∀ x ∈ NAMES, isName x = true ∧ x.length ≤ 5 := by decide
noncomputable def NameOk (x : List UInt8) : Prop := isName x = true ∧ x.length ≤ 5
theorem law_name_ok {prog : Program} {w : World} {h₀ : Heap} {T : Addr} {tp : Option (Int × Int × Int)} {n m : Nat} (hT : TpB m tp) (hm : m ≤ 90000) :
    CALL prog w h₀ T 221 (n + 2) [.tape] tp (fun a t => ∃ x, a = .bytes x ∧ NameOk x ∧ TpB (m + 2) t) := by
  refine CALL.intro (das := []) ["tape"] (by rfl) (by rfl) (fun s X => ?_) (by rfl) (by decide) (fun A L hid K => ?_)
  · exact fun _ => ⟨[], BindsTo.of_eq rfl, fun _ => .nil⟩
  · walk_at "go"
    walk_at "go"
    walk_at "go"
    walk_at "go"
    walk_at "go"
    refine EV.draw (m := m) (by assumption) (by rfl) ?_
    walk_at "gs"
    refine ⟨by decide, by decide, by omega, hT, fun i t hi ht => ?_⟩
    have hi : i < 5 := hi
    have hget : ∃ x, NAMES[i]? = some x := ⟨_, List.getElem?_eq_getElem (by simpa [NAMES] using hi)⟩
    obtain ⟨x, hx⟩ := hget
    have hxm := names_ok x (List.mem_of_getElem? hx)
    refine ⟨_, .tup (NAMES.map .bytes) i (.bytes x) (by omega) (by omega) (by rw [Int.toNat_natCast, List.getElem?_map, hx]; rfl), ?_⟩
    walk_at "go"
    refine EV.draw (m := m + 1) (by assumption) (by rfl) ?_
    walk_at "gs"
    refine ⟨by decide, by decide, by omega, ht, fun mask t hmask ht => ?_⟩
    have hmask : mask < 8 := hmask
    walk_at "gs"
    refine EV.compK ["mask"] (fun σ => σ.tp = t ∧ σ.ev "mask" = some (.val (.int mask))) (fun p : UInt8 × Nat => .tup [.int (p.2 : Int), .int (p.1.toNat : Int)]) yes (fun p => .int (upI mask p.2 p.1)) x.zipIdx K ⟨rfl, by decide, by decide, rfl, by decide, rfl⟩ (ITR.enumc K (by rfl) ?_) ?_
    · walk_at "gs"
      refine .inr ⟨x, rfl, ?_, by simp; omega, ⟨rfl, rfl⟩, fun σ2 hj => ?_⟩
      · unfold enumed
        rw [List.zipIdx_map, List.map_map]; rfl
      rw [filter_yes]
      have e : x.zipIdx.map (fun p => AV.int (upI mask p.2 p.1)) = (x.zipIdx.map fun p => upI mask p.2 p.1).map .int := by rw [List.map_map]; rfl
      rw [e]
      have hall : ∀ p ∈ x.zipIdx, okB p.1 = true := fun p hp => by
        have h1 := hxm.1
        unfold isName at h1
        simp only [Bool.and_eq_true] at h1
        exact List.all_eq_true.mp h1.1 _ (List.fst_mem_of_mem_zipIdx hp)
      refine ⟨_, .bytes _ (fun k hk => ?_) (by simp; omega), ?_⟩
      · obtain ⟨p, hp, rfl⟩ := List.mem_map.mp hk
        have := upI_ok (mask := mask) (a := p.2) (hall p hp)
        exact ⟨this.1, this.2.1⟩
      refine ⟨_, rfl, ⟨?_, by simp; omega⟩, hj.1 ▸ ht⟩
      unfold isName
      rw [List.map_map]
      have hne : x ≠ [] := fun h => by have := hxm.1; rw [h] at this; exact absurd this (by decide)
      simp only [Bool.and_eq_true]
      refine ⟨List.all_eq_true.mpr fun k hk => ?_, ?_⟩
      · obtain ⟨p, hp, rfl⟩ := List.mem_map.mp hk
        exact (upI_ok (mask := mask) (a := p.2) (hall p hp)).2.2
      · cases x with
        | nil => exact absurd rfl hne
        | cons _ _ => rfl
    · rintro C hid p σ Kc hp ⟨h1, h2⟩
      have hp2 : p.2 ≤ 5 := by
        have := List.snd_lt_of_mem_zipIdx hp
        omega
      walk_at "go"
      walk_at "go"
      walk_at "go"
      refine IT.same (decide ((97 ≤ (p.1.toNat : Int) ∧ (p.1.toNat : Int) ≤ 122) ∧ ((mask : Int).fdiv (2 ^ p.2)).fmod 2 = 1)) ?_ ?_
      · walk_at "gs"
        walk_at "cmp"
        by_cases g1 : (97 : Int) ≤ p.1.toNat
        · walk_at "yes"
          walk_at "gs"
          walk_at "cmp"
          by_cases g2 : (p.1.toNat : Int) ≤ 122
          · walk_at "yes"
            walk_at "gs"
            have hp3 : ((2 : Int) ^ p.2) ≠ 0 ∧ ((2 : Int) ^ p.2).natAbs < 1073741824 := by
              rcases Nat.lt_or_ge p.2 6 with h | h
              · have : p.2 = 0 ∨ p.2 = 1 ∨ p.2 = 2 ∨ p.2 = 3 ∨ p.2 = 4 ∨ p.2 = 5 := by omega
                rcases this with h | h | h | h | h | h <;> rw [h] <;> decide
              · omega
            refine ⟨_, .powI 2 _ (by omega) (by
              have : (Builtin.Int.intBits 2 : Int) = 2 := rfl
              rw [this]; omega), ?_⟩
            rw [Int.toNat_natCast]
            refine ⟨_, .divI _ _ hp3.1 hp3.2, ?_⟩
            walk_at "gs"
            refine ⟨_, .modI _ _ (by decide), ?_⟩
            walk_at "gs"
            walk_at "cmp"
            refine ⟨?_, rfl⟩
            rw [Bool.eq_iff_iff]
            simp only [beq_iff_eq, decide_eq_true_eq]
            exact ⟨fun h => ⟨⟨g1, g2⟩, h⟩, fun h => h.2⟩
          · walk_at "no"
            refine ⟨?_, rfl⟩
            symm; rw [decide_eq_false_iff_not]
            exact fun h => g2 h.1.2
        · walk_at "no"
          walk_at "no"
          refine ⟨?_, rfl⟩
          symm; rw [decide_eq_false_iff_not]
          exact fun h => g1 h.1.1
      by_cases g : (97 ≤ (p.1.toNat : Int) ∧ (p.1.toNat : Int) ≤ 122) ∧ ((mask : Int).fdiv (2 ^ p.2)).fmod 2 = 1
      · refine ite_yes (decide_eq_true g) ?_
        walk_at "gs"
        refine ⟨_, .subI _ _, ?_⟩
        refine ⟨?_, h1, by walk_at "ev"⟩
        unfold upI; rw [if_pos g]
      · refine ite_no (by rw [decide_eq_true_eq]; exact g) ?_
        walk_at "gs"
        refine ⟨?_, h1, by walk_at "ev"⟩
        unfold upI; rw [if_neg g]
theorem law_small_ok {prog : Program} {w : World} {h₀ : Heap} {T : Addr} {tp : Option (Int × Int × Int)} {n : Nat} (a : AV) (ns : List Nat) (ha : IterR a (ns.map fun k : Nat => .int (k : Int))) (hx : ∀ k ∈ ns, k ≤ 1000) (hl : ns.length ≤ 1000) :
    CALL prog w h₀ T 226 (n + 1) [a] tp (fun r t => r = .str (ns.map lowerN) ∧ t = tp) := by
  refine CALL.intro (das := []) ["name"] (by rfl) (by rfl) (fun s X => ?_) (by rfl) (by decide) (fun A L hid K => ?_)
  · exact fun _ => ⟨[], BindsTo.of_eq rfl, fun _ => .nil⟩
  · walk_at "go"
    walk_at "go"
    refine EV.vmeth .joinS ?_
    walk_at "gs"
    refine EV.compK [] (fun σ => σ.tp = tp) (fun k : Nat => .int (k : Int)) yes (fun k => .str [lowerN k]) ns K ⟨rfl, by decide, by decide, rfl, by decide, rfl⟩ (ITR.of K ?_) ?_
    · walk_at "gs"
      refine ⟨rfl, _, ha, rfl, by omega, rfl, fun σ2 ht => ?_⟩
      rw [filter_yes]
      walk_at "gs"
      have e : ns.map (fun k => AV.str [lowerN k]) = (ns.map fun k => [lowerN k]).map .str := by rw [List.map_map]; rfl
      rw [e]
      refine ⟨_, .joinS _ (by rw [sum_ones _ _ (fun _ _ => rfl)]; omega), ?_⟩
      rw [flat_ones]
      exact ⟨rfl, ht⟩
    · intro C hid k σ Kc hk ht
      have hk2 := lowerN_le (hx k hk)
      walk_at "go"
      walk_at "go"
      walk_at "go"
      refine EV.same (.int (lowerN k : Int)) ?_ ?_
      · walk_at "go"
        refine IT.same (decide (65 ≤ k ∧ k ≤ 90)) ?_ ?_
        · walk_at "gs"
          walk_at "cmp"
          by_cases g1 : 65 ≤ k
          · walk_at "yes"
            walk_at "gs"
            walk_at "cmp"
            refine ⟨?_, rfl⟩
            rw [Bool.eq_iff_iff, decide_eq_true_eq, decide_eq_true_eq]
            omega
          · walk_at "no"
            refine ⟨?_, rfl⟩
            symm; rw [decide_eq_false_iff_not]; omega
        by_cases g : 65 ≤ k ∧ k ≤ 90
        · refine ite_yes (decide_eq_true g) ?_
          walk_at "gs"
          refine ⟨_, .addI _ _, ?_, rfl⟩
          unfold lowerN; rw [if_pos g]; rfl
        · refine ite_no (by rw [decide_eq_true_eq]; exact g) ?_
          walk_at "gs"
          refine ⟨?_, rfl⟩
          unfold lowerN; rw [if_neg g]
      walk_at "gs"
      refine ⟨_, .chr _ (by omega) (by omega), ?_⟩
      exact ⟨rfl, ht⟩
theorem law_small_bytes {prog : Program} {w : World} {h₀ : Heap} {T : Addr} {tp : Option (Int × Int × Int)} {n : Nat} (b : List UInt8) (hl : b.length ≤ 1000) :
    CALL prog w h₀ T 226 (n + 1) [.bytes b] tp (fun r t => r = .str (smallB b) ∧ t = tp) := by
  have h := law_small_ok (prog := prog) (w := w) (h₀ := h₀) (T := T) (tp := tp) (n := n) (.bytes b) (b.map (·.toNat)) (by rw [List.map_map]; exact .bytes b) (fun k hk => by
    obtain ⟨c, _, rfl⟩ := List.mem_map.mp hk
    have := c.toNat_lt; omega) (by simpa using hl)
  rw [List.map_map] at h
  exact h
theorem law_small_list {prog : Program} {w : World} {h₀ : Heap} {T : Addr} {tp : Option (Int × Int × Int)} {n : Nat} (x : List Nat) (hx : ∀ k ∈ x, k ≤ 1000) (hl : x.length ≤ 1000) :
    CALL prog w h₀ T 226 (n + 1) [.lst (x.map fun k : Nat => .int (k : Int))] tp (fun r t => r = .str (x.map lowerN) ∧ t = tp) := law_small_ok _ x (.lst _) hx hl
noncomputable def EndOk (e : List UInt8) : Prop := e = [13, 10] ∨ e = [10]
theorem law_end_ok {prog : Program} {w : World} {h₀ : Heap} {T : Addr} {tp : Option (Int × Int × Int)} {n m : Nat} (hT : TpB m tp) (hm : m ≤ 90000) :
    CALL prog w h₀ T 233 (n + 2) [.tape] tp (fun a t => ∃ x, a = .bytes x ∧ EndOk x ∧ TpB (m + 1) t) := by
  refine CALL.intro (das := []) ["tape"] (by rfl) (by rfl) (fun s X => ?_) (by rfl) (by decide) (fun A L hid K => ?_)
  · exact fun _ => ⟨[], BindsTo.of_eq rfl, fun _ => .nil⟩
  · walk_at "gs"
    refine ⟨_, Nat.le_refl _, (draw_ok hT (by omega) 2 (by decide) (by decide)).mono ?_⟩
    rintro _ t ⟨i, hi, rfl, ht⟩
    have : i = 0 ∨ i = 1 := by omega
    rcases this with rfl | rfl
    · exact ⟨_, .tup _ _ _ (by decide) (by decide) rfl, _, rfl, .inl rfl, ht⟩
    · exact ⟨_, .tup _ _ _ (by decide) (by decide) rfl, _, rfl, .inr rfl, ht⟩
/-- octets without a line's end -/
noncomputable abbrev NoLF (s : List UInt8) : Prop := (10 : UInt8) ∉ s ∧ (13 : UInt8) ∉ s
/-- a row that goes on -/
noncomputable abbrev SegOk (s : List UInt8) : Prop := NoLF s ∧ okRow s = true
noncomputable def tailB (tl : List (List UInt8 × List UInt8)) : List UInt8 := (tl.map fun p => p.1 ++ p.2).flatten
/-- a field's worth, row by row -/
noncomputable def RawOk (raw : List UInt8) : Prop := ∃ s0 tl, raw = s0 ++ tailB tl ∧ NoLF s0 ∧ ∀ p ∈ tl, EndOk p.1 ∧ SegOk p.2
theorem tailB_snoc (tl : List (List UInt8 × List UInt8)) (p) : tailB (tl ++ [p]) = tailB tl ++ (p.1 ++ p.2) := by simp [tailB]
theorem law_raw_ok {prog : Program} {w : World} {h₀ : Heap} {T : Addr} {tp : Option (Int × Int × Int)} {n m : Nat} (hT : TpB m tp) (hm : m ≤ 80000) :
    CALL prog w h₀ T 240 (n + 3) [.tape] tp (fun a t => ∃ x, a = .bytes x ∧ RawOk x ∧ x.length ≤ 30 ∧ TpB (m + 6) t) := by
  refine CALL.intro (das := []) ["tape"] (by rfl) (by rfl) (fun s X => ?_) (by rfl) (by decide) (fun A L hid K => ?_)
  · exact fun _ => ⟨[], BindsTo.of_eq rfl, fun _ => .nil⟩
  · walk_at "gs"
    refine ⟨_, Nat.le_add_left _ _, (draw_ok hT (by omega) 4 (by decide) (by decide)).mono ?_⟩
    rintro _ t ⟨i, hi, rfl, ht⟩
    have hs0 : ∃ s0, ([[32, 118], [], [58, 120, 32], [9, 117]] : List (List UInt8))[i]? = some s0 ∧ NoLF s0 ∧ s0.length ≤ 3 := by
      have : i = 0 ∨ i = 1 ∨ i = 2 ∨ i = 3 := by omega
      rcases this with rfl | rfl | rfl | rfl <;> exact ⟨_, rfl, by decide, by decide⟩
    obtain ⟨s0, hs0, hs1, hs2⟩ := hs0
    refine ⟨_, .tup (([[32, 118], [], [58, 120, 32], [9, 117]] : List (List UInt8)).map .bytes) _ (.bytes s0) (by omega) (by omega) (by rw [Int.toNat_natCast, List.getElem?_map, hs0]; rfl), ?_⟩
    walk_at "go"
    refine EX.for K (ITR.of K ?_)
    walk_at "gs"
    refine ⟨_, Nat.le_add_left _ _, (draw_ok ht (by omega) 3 (by decide) (by decide)).mono ?_⟩
    rintro _ t2 ⟨many, hmany, rfl, ht2⟩
    refine ⟨_, .range many, rfl, _, .rng many (by omega), ?_⟩
    refine FORL.inv (fun l σ' => ∃ (j : Nat) (tl : List (List UInt8 × List UInt8)), l.length + j = many ∧ TpB (m + 2 + 2 * j) σ'.tp ∧ (∀ p ∈ tl, EndOk p.1 ∧ SegOk p.2) ∧ (tailB tl).length ≤ 6 * j ∧ σ'.ev "tape" = some (.val .tape) ∧ σ'.ev "raw" = some (.val (.bytes (s0 ++ tailB tl)))) ?_ ?_ _ _ ⟨0, [], by simp, ht2, by simp, by simp [tailB], by walk_at "ev", ?_⟩
    rotate_left 2
    · have e : s0 ++ tailB [] = s0 := by simp [tailB]
      rw [e]; walk_at "ev"
    · rintro hid d l σ ⟨j, tl, q1, q2, q3, q4, e1, e2⟩
      have Kh := K.hide hid
      rw [List.length_cons] at q1
      walk_at "gs"
      refine ⟨_, Nat.le_refl _, (law_end_ok q2 (by omega)).mono ?_⟩
      rintro _ t3 ⟨en, rfl, hen, ht3⟩
      have hen2 : en.length ≤ 2 := by rcases hen with rfl | rfl <;> decide
      refine ⟨_, .addB _ _ (by walk_at "sz"), ?_⟩
      walk_at "gs"
      refine ⟨_, Nat.le_add_left _ _, (draw_ok ht3 (by omega) 4 (by decide) (by decide)).mono ?_⟩
      rintro _ t4 ⟨i, hi, rfl, ht4⟩
      have hs : ∃ s, ([[32, 119], [9], [32, 97, 58, 98], [32, 32]] : List (List UInt8))[i]? = some s ∧ SegOk s ∧ s.length ≤ 4 := by
        have : i = 0 ∨ i = 1 ∨ i = 2 ∨ i = 3 := by omega
        rcases this with rfl | rfl | rfl | rfl <;> exact ⟨_, rfl, by decide, by decide⟩
      obtain ⟨sg, hs, hs3, hs4⟩ := hs
      refine ⟨_, .tup (([[32, 119], [9], [32, 97, 58, 98], [32, 32]] : List (List UInt8)).map .bytes) _ (.bytes sg) (by omega) (by omega) (by rw [Int.toNat_natCast, List.getElem?_map, hs]; rfl), ?_⟩
      refine ⟨_, .addB _ _ (by walk_at "sz"), ?_⟩
      walk_at "gs"
      refine ⟨j + 1, tl ++ [(en, sg)], by omega, ht4, ?_, ?_, by walk_at "ev", ?_⟩
      · intro p hp
        rcases List.mem_append.mp hp with hp | hp
        · exact q3 p hp
        · rw [List.mem_singleton.mp hp]; exact ⟨hen, hs3⟩
      · rw [tailB_snoc]; simp only [List.length_append]; omega
      · rw [tailB_snoc, ← List.append_assoc, ← List.append_assoc]; walk_at "ev"
    · rintro σ ⟨j, tl, q1, q2, q3, q4, e1, e2⟩
      rw [List.length_nil] at q1
      walk_at "gs"
      obtain ⟨d, s, k, z1, z2, z3, z4, z5, z6⟩ := q2
      exact ⟨⟨s0, tl, rfl, hs1, q3⟩, by simp only [List.length_append]; omega, d, s, k, z1, z2, z3, z4, z5, by omega⟩
theorem law_words_ok {prog : Program} {w : World} {h₀ : Heap} {T : Addr} {tp : Option (Int × Int × Int)} {n m : Nat} (hT : TpB m tp) (hm : m ≤ 80000) :
    CALL prog w h₀ T 245 (n + 3) [.tape] tp (fun a t => ∃ ws : List (List Nat), a = .lst (ws.map .str) ∧ WordsOk ws ∧ TpB (m + 7) t) := by
  refine CALL.intro (das := []) ["tape"] (by rfl) (by rfl) (fun s X => ?_) (by rfl) (by decide) (fun A L hid K => ?_)
  · exact fun _ => ⟨[], BindsTo.of_eq rfl, fun _ => .nil⟩
  · walk_at "gs"
    refine EX.for K (ITR.of K ?_)
    walk_at "gs"
    refine ⟨_, Nat.le_add_left _ _, (draw_ok hT (by omega) 2 (by decide) (by decide)).mono ?_⟩
    rintro _ t2 ⟨many, hmany, rfl, ht2⟩
    refine ⟨_, .addI _ _, ?_⟩
    rw [show (1 : Int) + (many : Int) = ((many + 1 : Nat) : Int) from by omega]
    walk_at "gs"
    refine ⟨_, .range _, rfl, _, .rng _ (by omega), ?_⟩
    refine FORL.inv (fun l σ' => ∃ (j : Nat) (ws : List (List Nat)), l.length + j = many + 1 ∧ TpB (m + 1 + 3 * j) σ'.tp ∧ ws.length = j ∧ (∀ x ∈ ws, x.length ≤ 1000 ∧ ∀ k ∈ x, k ≤ 1000) ∧ σ'.ev "tape" = some (.val .tape) ∧ σ'.ev "found" = some (.opn (ws.map .str))) ?_ ?_ _ _ ⟨0, [], by simp, ht2, rfl, by simp, by walk_at "evs"⟩
    · rintro hid d l σ ⟨j, ws, q1, q2, q3, q4, e1, e2⟩
      have Kh := K.hide hid
      rw [List.length_cons] at q1
      walk_at "gs"
      refine ⟨_, Nat.le_refl _, (law_name_ok q2 (by omega)).mono ?_⟩
      rintro _ t3 ⟨nm, rfl, hnm, ht3⟩
      have hn5 := hnm.2
      walk_at "gs"
      refine ⟨_, Nat.le_add_left _ _, (draw_ok ht3 (by omega) 6 (by decide) (by decide)).mono ?_⟩
      rintro _ t4 ⟨i, hi, rfl, ht4⟩
      walk_at "gs"
      walk_at "cmp"
      have hfin : ∀ (σ : Sg) (x : List Nat), (x.length ≤ 1000 ∧ ∀ k ∈ x, k ≤ 1000) → σ.tp = t4 → σ.ev "tape" = some (.val .tape) → σ.ev "found" = some (.opn (ws.map .str ++ [.str x])) →
          ∃ (j : Nat) (ws : List (List Nat)), l.length + j = many + 1 ∧ TpB (m + 1 + 3 * j) σ.tp ∧ ws.length = j ∧ (∀ x ∈ ws, x.length ≤ 1000 ∧ ∀ k ∈ x, k ≤ 1000) ∧ σ.ev "tape" = some (.val .tape) ∧ σ.ev "found" = some (.opn (ws.map .str)) := by
        intro σ x hx h1 h2 h3
        refine ⟨j + 1, ws ++ [x], by omega, by rw [h1]; exact ht4, by simp [q3], ?_, h2, by rw [List.map_append]; exact h3⟩
        intro y hy
        rcases List.mem_append.mp hy with hy | hy
        · exact q4 y hy
        · rw [List.mem_singleton.mp hy]; exact hx
      by_cases hz : (0 : Int) < i
      · walk_at "yes"
        refine EV.vmeth .joinS ?_
        walk_at "gs"
        refine EV.compK [] (fun σ => σ.tp = t4) (fun c : UInt8 => .int (c.toNat : Int)) yes (fun c => .str [c.toNat]) nm (by assumption) ⟨rfl, by decide, by decide, rfl, by decide, rfl⟩ (ITR.of (by assumption) ?_) ?_
        · walk_at "gs"
          refine ⟨rfl, _, .bytes nm, rfl, by omega, rfl, fun σ2 ht => ?_⟩
          rw [filter_yes]
          walk_at "gs"
          have e : nm.map (fun k => AV.str [k.toNat]) = (nm.map fun k => [k.toNat]).map .str := by rw [List.map_map]; rfl
          rw [e]
          refine ⟨_, .joinS _ (by rw [sum_ones _ _ (fun _ _ => rfl)]; omega), ?_⟩
          rw [flat_ones]
          walk_at "gs"
          refine hfin _ (nm.map (·.toNat)) ⟨by rw [List.length_map]; omega, fun k hk => ?_⟩ ht ?_ ?_
          · obtain ⟨c, _, rfl⟩ := List.mem_map.mp hk
            have := c.toNat_lt
            omega
          · walk_at "ev"
          · walk_at "ev"
        · intro C hid k σ Kc hk ht
          walk_at "gs"
          have := k.toNat_lt
          refine ⟨_, .chr _ (by omega) (by omega), ?_⟩
          exact ⟨rfl, ht⟩
      · walk_at "no"
        walk_at "gs"
        refine hfin _ [116] ⟨by decide, by decide⟩ rfl ?_ ?_ <;> walk_at "ev"
    · rintro σ ⟨j, ws, q1, q2, q3, q4, e1, e2⟩
      rw [List.length_nil] at q1
      walk_at "gs"
      obtain ⟨d, s, k, z1, z2, z3, z4, z5, z6⟩ := q2
      exact ⟨⟨by omega, q4⟩, d, s, k, z1, z2, z3, z4, z5, by omega⟩
theorem law_tape_ok {prog : Program} {w : World} {h₀ : Heap} {T : Addr} {tp : Option (Int × Int × Int)} {n : Nat} (ns : List Int) (hn : ns.length ≤ 1000) :
    CALL prog w h₀ T 209 (n + 1) [.lst (ns.map .int)] tp (fun a t => ∃ d s : Int, a = .new [.int d, .int s, .int 0] ∧ 0 ≤ d ∧ 0 ≤ s ∧ s < 1000000007 ∧ t = tp) := by
  refine CALL.intro (das := []) ["script"] (by rfl) (by rfl) (fun s X => ?_) (by rfl) (by decide) (fun A L hid K => ?_)
  · exact fun _ => ⟨[], BindsTo.of_eq rfl, fun _ => .nil⟩
  · walk_at "gs"
    refine EX.for K (ITR.of K ?_)
    walk_at "gs"
    refine ⟨_, .lst _ _ _ (by simp; omega), rfl, _, .lst _, ?_⟩
    refine FORL.inv (fun l σ' => ∃ (ms : List Int) (d s : Int), l = ms.map .int ∧ 0 ≤ d ∧ 0 ≤ s ∧ s < 1000000007 ∧ σ'.tp = tp ∧ σ'.ev "digits" = some (.val (.int d)) ∧ σ'.ev "seed" = some (.val (.int s))) ?_ ?_ _ _ ⟨(ns.drop (Option.elim none 0 (clipAt ns.length))).take (Option.elim (some 40) ns.length (clipAt ns.length) - Option.elim none 0 (clipAt ns.length)), 0, 0, by simp, by decide, by decide, by decide, by walk_at "evs"⟩
    · rintro hid a l σ ⟨ms, d, s, q1, q2, q3, q4, t1, e1, e2⟩
      have Kh := K.hide hid
      cases ms with
      | nil => cases q1
      | cons x ms =>
        simp only [List.map_cons, List.cons.injEq] at q1
        obtain ⟨rfl, rfl⟩ := q1
        walk_at "gs"
        refine ⟨_, .mulI _ _ (.of_right (by decide)), ?_⟩
        walk_at "gs"
        refine ⟨_, .int x, ?_⟩
        walk_at "gs"
        refine ⟨_, .abs x, ?_⟩
        refine ⟨_, .addI _ _, ?_⟩
        walk_at "gs"
        refine ⟨_, .mulI _ _ (.of_right (by decide)), ?_⟩
        walk_at "gs"
        refine ⟨_, .int x, ?_⟩
        refine ⟨_, .addI _ _, ?_⟩
        walk_at "gs"
        refine ⟨_, .modI _ _ (by decide), ?_⟩
        walk_at "gs"
        refine ⟨ms, _, _, rfl, ?_, Int.fmod_nonneg_of_pos _ (by decide), Int.fmod_lt_of_pos _ (by decide), by walk_at "evs"⟩
        split <;> omega
    · rintro σ ⟨ms, d, s, q1, q2, q3, q4, t1, e1, e2⟩
      walk_at "go"
      walk_at "go"
      refine EV.lstN ?_
      walk_at "gs"
      exact ⟨q2, q3, q4, t1⟩

noncomputable def lawStep (width : Nat) (st : List (List UInt8) × List UInt8 × Nat) (p : List UInt8) : List (List UInt8) × List UInt8 × Nat := if st.2.2 + p.length > width then (st.1 ++ [st.2.1], p, p.length) else (st.1, st.2.1 ++ p, st.2.2 + p.length)
noncomputable def lawRows (name : List UInt8) (some : List (List UInt8)) (width : Nat) : List (List UInt8) :=
  let st := some.foldl (lawStep width) ([], [], name.length + 1)
  st.1 ++ [st.2.1]
theorem lawStep_sum (width : Nat) (st : List (List UInt8) × List UInt8 × Nat) (x : List UInt8) : sumL (lawStep width st x).1 + (lawStep width st x).2.1.length = sumL st.1 + st.2.1.length + x.length ∧ (lawStep width st x).1.length ≤ st.1.length + 1 ∧ (lawStep width st x).2.2 ≤ st.2.2 + x.length := by
  unfold lawStep
  split
  · exact ⟨by simp only [sumL_append, sumL_one], by simp, by dsimp only; omega⟩
  · exact ⟨by simp only [List.length_append]; omega, by simp, by dsimp only; omega⟩
theorem lawFold_sum (width : Nat) : ∀ (l : List (List UInt8)) (st : List (List UInt8) × List UInt8 × Nat), sumL (l.foldl (lawStep width) st).1 + (l.foldl (lawStep width) st).2.1.length = sumL st.1 + st.2.1.length + sumL l ∧ (l.foldl (lawStep width) st).1.length ≤ st.1.length + l.length ∧ (l.foldl (lawStep width) st).2.2 ≤ st.2.2 + sumL l
  | [], st => by simp [sumL]
  | x :: l, st => by
    have h1 := lawFold_sum width l (lawStep width st x)
    have h2 := lawStep_sum width st x
    have h4 : sumL (x :: l) = x.length + sumL l := by simp [sumL]
    rw [List.foldl_cons, List.length_cons]
    omega
theorem law_folded_ok {prog : Program} {w : World} {h₀ : Heap} {T : Addr} {tp : Option (Int × Int × Int)} {n : Nat} (name : List UInt8) (some : List (List UInt8)) (width : Nat) (h1 : name.length ≤ 1000) (h2 : some.length ≤ 100) (h3 : sumL some ≤ 1000) :
    CALL prog w h₀ T 252 (n + 1) [.bytes name, .lst (some.map .bytes), .int width] tp (fun a t => a = .bytes (bjoin [13, 10] (lawRows name some width)) ∧ t = tp) := by
  refine CALL.intro (das := []) ["name", "some", "width"] (by rfl) (by rfl) (fun s X => ?_) (by rfl) (by decide) (fun A L hid K => ?_)
  · exact fun _ _ _ => ⟨[], BindsTo.of_eq rfl, fun _ => .nil⟩
  · walk_at "gs"
    refine ⟨_, .lenB _ (by omega), ?_⟩
    walk_at "gs"
    refine ⟨_, .addI _ _, ?_⟩
    walk_at "gs"
    refine EX.for K (ITR.of K ?_)
    walk_at "gs"
    refine ⟨rfl, _, .lst _, ?_⟩
    refine FORL.inv (fun l σ' => ∃ pre post : List (List UInt8), some = pre ++ post ∧ l = post.map .bytes ∧ σ'.tp = tp ∧ σ'.ev "width" = Option.some (.val (.int width))
      ∧ σ'.ev "rows" = Option.some (.opn (((pre.foldl (lawStep width) ([], [], name.length + 1)).1 ++ [(pre.foldl (lawStep width) ([], [], name.length + 1)).2.1]).map .bytes)) ∧ σ'.ev "used" = Option.some (.val (.int ((pre.foldl (lawStep width) ([], [], name.length + 1)).2.2 : Nat)))) ?_ ?_ _ _ ⟨[], some, rfl, rfl, by walk_at "evs"⟩
    · rintro hid d l σ ⟨pre, post, q1, q2, t1, e1, e2, e3⟩
      have Kh := K.hide hid
      cases post with
      | nil => cases q2
      | cons x post =>
        simp only [List.map_cons, List.cons.injEq] at q2
        obtain ⟨rfl, rfl⟩ := q2
        have hsum := lawFold_sum width pre ([], [], name.length + 1)
        have hps : sumL some = sumL pre + (x.length + sumL post) := by rw [q1, sumL_append]; simp [sumL]
        have hpl : some.length = pre.length + (post.length + 1) := by rw [q1]; simp
        have hst2 : (pre ++ [x]).foldl (lawStep width) ([], [], name.length + 1) = lawStep width (pre.foldl (lawStep width) ([], [], name.length + 1)) x := by rw [List.foldl_append]; rfl
        generalize hst : pre.foldl (lawStep width) ([], [], name.length + 1) = st at hsum e2 e3 hst2
        obtain ⟨done, cur, used⟩ := st
        have e0 : sumL (([] : List (List UInt8)), ([] : List UInt8), name.length + 1).1 + (([] : List (List UInt8)), ([] : List UInt8), name.length + 1).2.1.length = 0 := rfl
        rw [e0] at hsum
        dsimp only at hsum e2 e3
        simp only [List.length_nil] at hsum
        rw [List.map_append] at e2
        walk_at "go"
        walk_at "go"
        refine EX.mono (Φ := fun f σ' => f = .nxt ∧ ∃ (done' : List (List UInt8)) (cur' : List UInt8) (used' : Nat), lawStep width (done, cur, used) x = (done', cur' ++ x, used' + x.length) ∧ done'.length ≤ 200 ∧ cur'.length ≤ 3000 ∧ σ'.tp = tp ∧ σ'.ev "width" = Option.some (.val (.int width)) ∧ σ'.ev "piece" = Option.some (.val (.bytes x)) ∧ σ'.ev "rows" = Option.some (.opn (done'.map .bytes ++ [.bytes cur'])) ∧ σ'.ev "used" = Option.some (.val (.int (used' : Nat)))) ?_ ?_
        · walk_at "gs"
          refine ⟨_, .lenB _ (by omega), ?_⟩
          refine ⟨_, .addI _ _, ?_⟩
          walk_at "gs"
          walk_at "cmp"
          by_cases hw : used + x.length > width
          · have e : lawStep width (done, cur, used) x = (done ++ [cur], x, x.length) := if_pos hw
            walk_at "yes"
            walk_at "gs"
            refine ⟨rfl, done ++ [cur], [], 0, by rw [e]; simp, by simp; omega, by simp, ?_⟩
            rw [List.map_append]
            walk_at "evs"
          · have e : lawStep width (done, cur, used) x = (done, cur ++ x, used + x.length) := if_neg hw
            walk_at "no"
            walk_at "gs"
            refine ⟨rfl, done, cur, used, e, by omega, by omega, ?_⟩
            walk_at "evs"
        rintro f σ' ⟨rfl, done', cur', used', hs1, hs2, hs3, t2, f1, f2, f3, f4⟩
        rw [hs1] at hst2
        walk_at "go"
        refine EX.setO (by assumption) ?_
        walk_at "go"
        have hlen : (done'.map AV.bytes ++ [AV.bytes cur']).length = done'.length + 1 := by simp
        refine EV.subO (by assumption) f3 fun D hid' => ?_
        have Kh2 := CxOk.hide Kh hid'
        walk_at "gs"
        have hpl : placeOf (done'.map AV.bytes ++ [AV.bytes cur']).length (-1) = done'.length := by
          unfold placeOf; rw [hlen, if_pos (by decide)]; omega
        refine ⟨-1, .bytes cur', rfl, by decide, by decide, by rw [hlen]; omega, by rw [hpl, List.getElem?_append_right (by simp)]; simp, ?_⟩
        walk_at "gs"
        refine ⟨_, .addB _ _ (by walk_at "sz"), _, Sg.same, fun D2 hid2 => ?_⟩
        have Kh3 := CxOk.hide Kh hid2
        walk_at "gs"
        have hset : ((done'.map AV.bytes ++ [AV.bytes cur']).set done'.length (.bytes (cur' ++ x))) = (done'.map AV.bytes ++ [AV.bytes (cur' ++ x)]) := by
          rw [List.set_append_right _ _ (by simp)]; simp
        refine ⟨by decide, by decide, by rw [hlen]; omega, by rw [hlen]; omega, ?_⟩
        rw [hpl, hset]
        walk_at "gs"
        refine ⟨_, .lenB _ (by omega), ?_⟩
        refine ⟨_, .addI _ _, ?_⟩
        walk_at "gs"
        refine ⟨pre ++ [x], post, by rw [q1]; simp, rfl, ?_⟩
        rw [hst2, List.map_append]
        walk_at "evs"
    · rintro σ ⟨pre, post, q1, q2, t1, e1, e2, e3⟩
      have : post = [] := by
        cases post with
        | nil => rfl
        | cons _ _ => cases q2
      subst this
      rw [List.append_nil] at q1
      subst q1
      have hsum := lawFold_sum width some ([], [], name.length + 1)
      have hdef : lawRows name some width = (some.foldl (lawStep width) ([], [], name.length + 1)).1 ++ [(some.foldl (lawStep width) ([], [], name.length + 1)).2.1] := rfl
      rw [← hdef] at e2
      have hbl := bjoin_len [13, 10] (lawRows name some width)
      have hfl : (lawRows name some width).length = (some.foldl (lawStep width) ([], [], name.length + 1)).1.length + 1 := by rw [hdef]; simp
      have hfs : sumL (lawRows name some width) = sumL (some.foldl (lawStep width) ([], [], name.length + 1)).1 + (some.foldl (lawStep width) ([], [], name.length + 1)).2.1.length := by rw [hdef, sumL_append, sumL_one]
      have e0 : sumL (([] : List (List UInt8)), ([] : List UInt8), name.length + 1).1 + (([] : List (List UInt8)), ([] : List UInt8), name.length + 1).2.1.length = 0 := rfl
      have e0' : (([] : List (List UInt8)), ([] : List UInt8), name.length + 1).1.length = 0 := rfl
      rw [e0, e0'] at hsum
      have e2' : [(13 : UInt8), 10].length = 2 := rfl
      rw [e2'] at hbl
      walk_at "go"
      walk_at "go"
      refine EV.vmeth .joinB ?_
      walk_at "gs"
      refine ⟨_, .joinB _ _ (by omega) (by show sumL _ + _ ≤ _; simp only [e2']; omega), ?_⟩
      exact ⟨rfl, t1⟩
noncomputable def somes : List (List UInt8 × List UInt8) → List (List UInt8)
  | [] => []
  | p :: r => (32 :: p.2) :: r.map fun q => q.1 ++ q.2
noncomputable def flatW (ws : List (List UInt8 × List UInt8)) : List UInt8 := (ws.map fun q => q.1 ++ q.2).flatten
theorem somes_snoc (pre : List (List UInt8 × List UInt8)) (q) : somes (pre ++ [q]) = somes pre ++ [(if pre.length = 0 then [32] else q.1) ++ q.2] := by
  cases pre with
  | nil => rfl
  | cons p r => simp [somes]
theorem flatW_snoc (pre : List (List UInt8 × List UInt8)) (q) : flatW (pre ++ [q]) = flatW pre ++ q.1 ++ q.2 := by simp [flatW]
noncomputable abbrev WhiteOk (s : List UInt8) : Prop := s ≠ [] ∧ s.all isW = true ∧ s.length ≤ 2
noncomputable abbrev WordOk (s : List UInt8) : Prop := s ≠ [] ∧ s.all (fun c => !isW c) = true ∧ NoLF s ∧ s.length ≤ 10
noncomputable def MadeOk (name : List UInt8) (width : Nat) (ws : List (List UInt8 × List UInt8)) (tail : List UInt8) : Prop :=
  NameOk name ∧ width ≤ 20 ∧ ws.length ≤ 4 ∧ (∀ p ∈ ws, WhiteOk p.1 ∧ WordOk p.2) ∧ tail.all isW = true ∧ tail.length ≤ 2 ∧ NoLF tail
theorem sumL_somes : ∀ (ws : List (List UInt8 × List UInt8)), (∀ p ∈ ws, WhiteOk p.1 ∧ WordOk p.2) → sumL (somes ws) ≤ 12 * ws.length ∧ (somes ws).length = ws.length
  | [], _ => by simp [somes, sumL]
  | p :: r, h => by
    have h1 := (h p (.head _)).2.2.2.2
    have h2 : ∀ r : List (List UInt8 × List UInt8), (∀ p ∈ r, WhiteOk p.1 ∧ WordOk p.2) → sumL (r.map fun q => q.1 ++ q.2) ≤ 12 * r.length := by
      intro r
      induction r with
      | nil => simp [sumL]
      | cons q r ih =>
        intro h
        have := ih fun p hp => h p (.tail _ hp)
        have h3 := (h q (.head _)).1.2.2
        have h4 := (h q (.head _)).2.2.2.2
        simp only [sumL, List.map_cons, List.sum_cons, List.length_cons, List.length_append] at *
        omega
    have h3 := h2 r fun q hq => h q (.tail _ hq)
    refine ⟨?_, by simp [somes]⟩
    have e : sumL (somes (p :: r)) = (p.2.length + 1) + sumL (r.map fun q => q.1 ++ q.2) := by simp [somes, sumL]
    rw [e, List.length_cons]
    omega
theorem law_made_ok {prog : Program} {w : World} {h₀ : Heap} {T : Addr} {tp : Option (Int × Int × Int)} {n m : Nat} (hT : TpB m tp) (hm : m ≤ 70000) :
    CALL prog w h₀ T 259 (n + 3) [.tape] tp (fun a t => ∃ (name : List UInt8) (width : Nat) (ws : List (List UInt8 × List UInt8)) (tail : List UInt8), a = .tup [.bytes name, .bytes (flatW ws ++ tail), .int width, .bytes (bjoin [13, 10] (lawRows name (somes ws) width))] ∧ MadeOk name width ws tail ∧ TpB (m + 13) t) := by
  refine CALL.intro (das := []) ["tape"] (by rfl) (by rfl) (fun s X => ?_) (by rfl) (by decide) (fun A L hid K => ?_)
  · exact fun _ => ⟨[], BindsTo.of_eq rfl, fun _ => .nil⟩
  · walk_at "gs"
    refine ⟨_, Nat.le_refl _, (law_name_ok hT (by omega)).mono ?_⟩
    rintro _ t1 ⟨name, rfl, hname, ht1⟩
    walk_at "gs"
    refine ⟨_, Nat.le_add_left _ _, (draw_ok ht1 (by omega) 12 (by decide) (by decide)).mono ?_⟩
    rintro _ t2 ⟨wd, hwd, rfl, ht2⟩
    refine ⟨_, .addI _ _, ?_⟩
    rw [show (3 : Int) + (wd : Int) = ((wd + 3 : Nat) : Int) from by omega]
    walk_at "gs"
    refine EX.for K (ITR.of K ?_)
    walk_at "gs"
    refine ⟨_, Nat.le_add_left _ _, (draw_ok ht2 (by omega) 5 (by decide) (by decide)).mono ?_⟩
    rintro _ t3 ⟨many, hmany, rfl, ht3⟩
    refine ⟨_, .range many, rfl, _, .rng many (by omega), ?_⟩
    have hlen : ∀ ws : List (List UInt8 × List UInt8), (∀ p ∈ ws, WhiteOk p.1 ∧ WordOk p.2) → (flatW ws).length ≤ 12 * ws.length := by
      intro ws
      induction ws with
      | nil => simp [flatW]
      | cons q r ih =>
        intro h
        have := ih fun p hp => h p (.tail _ hp)
        have h3 := (h q (.head _)).1.2.2
        have h4 := (h q (.head _)).2.2.2.2
        have e : (flatW (q :: r)).length = q.1.length + q.2.length + (flatW r).length := by simp [flatW]; omega
        rw [e, List.length_cons]; omega
    refine FORL.inv (fun l σ' => ∃ (j : Nat) (ws : List (List UInt8 × List UInt8)), j ≤ many ∧ l = (List.range' j (many - j)).map (fun i : Nat => AV.int (i : Int)) ∧ TpB (m + 4 + 2 * j) σ'.tp ∧ ws.length = j ∧ (∀ p ∈ ws, WhiteOk p.1 ∧ WordOk p.2) ∧ σ'.ev "tape" = some (.val .tape) ∧ σ'.ev "name" = some (.val (.bytes name)) ∧ σ'.ev "width" = some (.val (.int ((wd + 3 : Nat) : Int)))
        ∧ σ'.ev "some" = some (.opn ((somes ws).map .bytes)) ∧ σ'.ev "body" = some (.val (.bytes (flatW ws)))) ?_ ?_ _ _ ⟨0, [], Nat.zero_le _, by rw [List.range_eq_range']; rfl, ht3, rfl, by simp, by walk_at "evs"⟩
    · rintro hid d l σ ⟨j, ws, q0, q1, q2, q3, q4, e1, e2, e3, e4, e5⟩
      have Kh := K.hide hid
      have hj : j < many := by
        rcases Nat.lt_or_ge j many with h | h
        · exact h
        · have : many - j = 0 := by omega
          rw [this] at q1; cases q1
      rw [show many - j = (many - (j + 1)) + 1 from by omega, List.range'_succ, List.map_cons, List.cons.injEq] at q1
      obtain ⟨rfl, rfl⟩ := q1
      have hfl := hlen ws q4
      have hsl := sumL_somes ws q4
      walk_at "gs"
      refine ⟨_, Nat.le_add_left _ _, (draw_ok q2 (by omega) 4 (by decide) (by decide)).mono ?_⟩
      rintro _ t4 ⟨i, hi, rfl, ht4⟩
      have hs : ∃ u, ([[97], [98, 99, 100], [233, 58], [101, 102, 103, 104, 105, 106, 107, 108, 109, 110]] : List (List UInt8))[i]? = some u ∧ WordOk u := by
        have : i = 0 ∨ i = 1 ∨ i = 2 ∨ i = 3 := by omega
        rcases this with rfl | rfl | rfl | rfl <;> exact ⟨_, rfl, by decide⟩
      obtain ⟨u, hu1, hu2⟩ := hs
      refine ⟨_, .tup (([[97], [98, 99, 100], [233, 58], [101, 102, 103, 104, 105, 106, 107, 108, 109, 110]] : List (List UInt8)).map .bytes) _ (.bytes u) (by omega) (by omega) (by rw [Int.toNat_natCast, List.getElem?_map, hu1]; rfl), ?_⟩
      walk_at "gs"
      refine ⟨_, Nat.le_add_left _ _, (draw_ok ht4 (by omega) 3 (by decide) (by decide)).mono ?_⟩
      rintro _ t5 ⟨i2, hi2, rfl, ht5⟩
      have hs : ∃ u, ([[32], [32, 32], [9]] : List (List UInt8))[i2]? = some u ∧ WhiteOk u := by
        have : i2 = 0 ∨ i2 = 1 ∨ i2 = 2 := by omega
        rcases this with rfl | rfl | rfl <;> exact ⟨_, rfl, by decide⟩
      obtain ⟨wh, hw1, hw2⟩ := hs
      refine ⟨_, .tup (([[32], [32, 32], [9]] : List (List UInt8)).map .bytes) _ (.bytes wh) (by omega) (by omega) (by rw [Int.toNat_natCast, List.getElem?_map, hw1]; rfl), ?_⟩
      have h3 := hw2.2.2
      have h4 := hu2.2.2.2
      walk_at "go"
      walk_at "go"
      walk_at "go"
      refine EV.same (.bytes (if ws.length = 0 then [32] else wh)) ?_ ?_
      · walk_at "gs"
        walk_at "cmp"
        by_cases hz : ws.length = 0
        · rw [if_pos hz]
          walk_at "yes"
          walk_at "gs"
          exact ⟨rfl, rfl⟩
        · rw [if_neg hz]
          walk_at "no"
          walk_at "gs"
          exact ⟨rfl, rfl⟩
      have h5 : (if ws.length = 0 then [32] else wh).length ≤ 2 := by split <;> first | exact h3 | decide
      have hsn := somes_snoc ws (wh, u)
      dsimp only at hsn
      generalize (if ws.length = 0 then [32] else wh) = wh' at h5 hsn
      walk_at "gs"
      refine ⟨_, .addB _ _ (by omega), ?_⟩
      walk_at "gs"
      refine ⟨_, .addB _ _ (by omega), ?_⟩
      walk_at "gs"
      refine ⟨_, .addB _ _ (by walk_at "sz"), ?_⟩
      walk_at "gs"
      refine ⟨j + 1, ws ++ [(wh, u)], by omega, rfl, ht5, by simp [q3], ?_, by walk_at "ev", by walk_at "ev", by walk_at "ev", ?_, ?_⟩
      · intro p hp
        rcases List.mem_append.mp hp with hp | hp
        · exact q4 p hp
        · rw [List.mem_singleton.mp hp]; exact ⟨hw2, hu2⟩
      · rw [hsn, List.map_append]; walk_at "ev"
      · rw [flatW_snoc]; walk_at "ev"
    · rintro σ ⟨j, ws, q0, q1, q2, q3, q4, e1, e2, e3, e4, e5⟩
      have hj : j = many := by
        have := congrArg List.length q1
        simp at this; omega
      have hfl := hlen ws q4
      have hsl := sumL_somes ws q4
      have hn5 := hname.2
      walk_at "gs"
      refine ⟨_, Nat.le_add_left _ _, (draw_ok q2 (by omega) 2 (by decide) (by decide)).mono ?_⟩
      rintro _ t4 ⟨i, hi, rfl, ht4⟩
      have hs : ∃ u, ([[], [32, 9]] : List (List UInt8))[i]? = some u ∧ u.all isW = true ∧ u.length ≤ 2 ∧ NoLF u := by
        have : i = 0 ∨ i = 1 := by omega
        rcases this with rfl | rfl <;> exact ⟨_, rfl, by decide, by decide, by decide⟩
      obtain ⟨u, hu1, hu2, hu3, hu4⟩ := hs
      refine ⟨_, .tup (([[], [32, 9]] : List (List UInt8)).map .bytes) _ (.bytes u) (by omega) (by omega) (by rw [Int.toNat_natCast, List.getElem?_map, hu1]; rfl), ?_⟩
      refine ⟨_, .addB _ _ (by omega), ?_⟩
      walk_at "gs"
      refine ⟨_, Nat.le_add_left _ _, (law_folded_ok name (somes ws) (wd + 3) (by omega) (by omega) (by omega)).mono ?_⟩
      rintro _ t6 ⟨rfl, ht6⟩
      walk_at "gs"
      obtain ⟨d, s, k, z1, z2, z3, z4, z5, z6⟩ := ht4
      exact ⟨name, wd + 3, ws, u, rfl, ⟨hname, by omega, by omega, q4, hu2, hu3, hu4⟩, d, s, k, ht6.trans z1, z2, z3, z4, z5, by omega⟩
theorem law_told_ok {prog : Program} {w : World} {h₀ : Heap} {T : Addr} {tp : Option (Int × Int × Int)} {n : Nat} (rows : List (List UInt8 × List UInt8)) (hn : rows.length ≤ 1000) :
    CALL prog w h₀ T 264 (n + 2) [.lst (rows.map fldAV)] tp (fun a t => a = .lst (rows.map pairAV) ∧ t = tp) := by
  refine CALL.intro (das := []) ["fields"] (by rfl) (by rfl) (fun s X => ?_) (by rfl) (by decide) (fun A L hid K => ?_)
  · exact fun _ => ⟨[], BindsTo.of_eq rfl, fun _ => .nil⟩
  · walk_at "gs"
    refine EV.compK [] (fun σ => σ.tp = tp) fldAV yes pairAV rows K ⟨rfl, by decide, by decide, rfl, by decide, rfl⟩ (ITR.of K ?_) ?_
    · walk_at "gs"
      refine ⟨rfl, _, .lst _, rfl, by omega, rfl, fun σ2 ht => ?_⟩
      rw [filter_yes]
      exact ⟨rfl, ht⟩
    · intro C hid r σ Kc hk ht
      walk_at "gs"
      exact ⟨rfl, ht⟩
theorem pair_data (rows : List (List UInt8 × List UInt8)) : dataAll (rows.map pairAV) = true ∧ deepAll (rows.map pairAV) ≤ 50 := by
  refine ⟨dataAll_iff.mpr fun a ha => ?_, deepAll_le fun a ha => ?_⟩
  · obtain ⟨r, _, rfl⟩ := List.mem_map.mp ha; rfl
  · obtain ⟨r, _, rfl⟩ := List.mem_map.mp ha
    show max 0 (max 0 0) + 1 ≤ 50
    decide
theorem CmpR.neRows (rows : List (List UInt8 × List UInt8)) : CmpR .NotEq (.lst (rows.map pairAV)) (.lst (rows.map pairAV)) false := .neL _ (pair_data rows).1 (pair_data rows).2
theorem CmpR.eqRows (rows : List (List UInt8 × List UInt8)) : CmpR .Eq (.lst (rows.map pairAV)) (.lst (rows.map pairAV)) true := .eqL _ (pair_data rows).1 (pair_data rows).2
/-- what is written is read back the same -/
noncomputable def ReadBack (rows : List (List UInt8 × List UInt8)) : Prop := ∃ spans : List (List UInt8 × List UInt8 × Nat × Nat), spans.map (fun s => (s.1, s.2.1)) = rows ∧
  Spans ((rows.map octB).flatten ++ [13, 10, 116, 111, 58, 32, 98]) ((rows.map octB).flatten ++ [13, 10, 116, 111, 58, 32, 98]).length 0 spans ((rows.map octB).flatten.length + 2)
theorem oct_len (rows : List (List UInt8 × List UInt8)) (hS : ∀ r ∈ rows, Sound r) : ((rows.map octB).map (·.length)).sum ≤ 2003 * rows.length := by
  rw [List.map_map]
  exact sum_bound rows _ fun r hr => by
    obtain ⟨s1, s2, s3, _⟩ := hS r hr
    show (octB r).length ≤ 2003
    unfold octB; simp; omega
theorem law_is_written_ok {prog : Program} {w : World} {h₀ : Heap} {T : Addr} {tp : Option (Int × Int × Int)} {n : Nat} (rows : List (List UInt8 × List UInt8)) (hS : ∀ r ∈ rows, Sound r) (hn : rows.length ≤ 100) (hR : ReadBack rows) :
    CALL prog w h₀ T 269 (n + 5) [.lst (rows.map fldAV), .lst (rows.map pairAV)] tp (fun a t => a = .bool true ∧ t = tp) := by
  refine CALL.intro (das := []) ["fields", "rows"] (by rfl) (by rfl) (fun s X => ?_) (by rfl) (by decide) (fun A L hid K => ?_)
  · exact fun _ _ => ⟨[], BindsTo.of_eq rfl, fun _ => .nil⟩
  · walk_at "gs"
    refine ⟨_, Nat.le_add_left _ _, (law_told_ok rows (by omega)).mono ?_⟩
    walk_at "ret"
    walk_at "gs"
    refine ⟨_, CmpR.neRows rows, ?_⟩
    walk_at "no"
    walk_at "gs"
    have hj := bjoin_nil (rows.map octB)
    have hlen := oct_len rows hS
    have hlen2 : (rows.map octB).flatten.length ≤ 2003 * rows.length := by rw [List.length_flatten]; exact hlen
    refine EV.vmeth .joinB ?_
    walk_at "gs"
    refine EV.compK [] (fun σ => σ.tp = tp) pairAV yes (fun r => .bytes (octB r)) rows K ⟨rfl, by decide, by decide, rfl, by decide, rfl⟩ (ITR.of K ?_) ?_
    · walk_at "gs"
      refine ⟨rfl, _, .lst _, rfl, by omega, rfl, fun σ2 ht => ?_⟩
      rw [filter_yes]
      walk_at "gs"
      have e : rows.map (fun k => AV.bytes (octB k)) = (rows.map octB).map .bytes := by rw [List.map_map]; rfl
      rw [e]
      refine ⟨_, .joinB [] _ (by rw [hj]; omega) (by simp only [List.length_nil]; omega), ?_⟩
      rw [hj]
      walk_at "gs"
      rw [ht]
      refine ⟨_, Nat.le_refl _, (write_fields_ok rows hS hn).mono ?_⟩
      walk_at "ret"
      walk_at "gs"
      refine ⟨_, .neB _ _, ?_⟩
      refine ite_no (by simp) ?_
      walk_at "gs"
      refine ⟨_, .addB _ _ (by simp only [List.length_cons, List.length_nil]; omega), ?_⟩
      walk_at "gs"
      obtain ⟨spans, hs1, hs2⟩ := hR
      have hsl : spans.length ≤ 1000 := by have := congrArg List.length hs1; simp at this; omega
      refine ⟨_, Nat.le_refl _, (read_fields_ok _ 0 spans _ (by simp only [List.length_append, List.length_cons, List.length_nil]; omega) hs2 hsl).mono ?_⟩
      walk_at "ret"
      have e2 : spans.map (fun r => AV.fld r.1 r.2.1) = rows.map fldAV := by rw [← hs1, List.map_map]; rfl
      rw [e2]
      walk_at "gs"
      refine ⟨_, Nat.le_add_left _ _, (law_told_ok rows (by omega)).mono ?_⟩
      walk_at "ret"
      walk_at "gs"
      refine ⟨_, CmpR.eqRows rows, _, rfl, ?_⟩
      walk_at "yes"
      walk_at "gs"
      refine ⟨_, .lenB _ (by omega), ?_⟩
      walk_at "gs"
      refine ⟨_, .addI _ _, ?_⟩
      walk_at "cmp"
      refine ⟨?_, rfl⟩
      simp
    · intro C hid r σ Kc hk ht
      obtain ⟨s1, s2, s3, _⟩ := hS r hk
      show ASG _ _ (AV.tup [.bytes r.1, .bytes r.2]) _ _
      walk_at "gs"
      refine ⟨_, .addB _ _ (by simp only [List.length_cons, List.length_nil]; omega), ?_⟩
      walk_at "gs"
      refine ⟨_, .addB _ _ (by simp only [List.length_append, List.length_cons, List.length_nil]; omega), ?_⟩
      walk_at "gs"
      refine ⟨_, .addB _ _ (by simp only [List.length_append, List.length_cons, List.length_nil]; omega), ?_⟩
      exact ⟨rfl, ht⟩
noncomputable def d0 : List UInt8 × List UInt8 := ([], [])
theorem range_map (rows : List (List UInt8 × List UInt8)) : (List.range rows.length).map (fun i => rows.getD i d0) = rows := by
  refine List.ext_getElem (by simp) fun i h1 h2 => ?_
  simp only [List.getElem_map, List.getElem_range]
  rw [List.getD_eq_getElem?_getD, List.getElem?_eq_getElem h2]; rfl
theorem range_pick (rows : List (List UInt8 × List UInt8)) (P : List UInt8 × List UInt8 → Bool) : ((List.range rows.length).filter fun i => P (rows.getD i d0)).map (fun i => rows.getD i d0) = rows.filter P := by
  have h := List.filter_map (p := P) (f := fun i => rows.getD i d0) (l := List.range rows.length)
  rw [range_map] at h
  exact h.symm
theorem filter_get {α : Type} (P : α → Bool) (pre post : List α) (r : α) (h : P r = true) : ((pre ++ r :: post).filter P)[(pre.filter P).length]? = some r := by
  rw [List.filter_append, List.filter_cons, if_pos h, List.getElem?_append_right (Nat.le_refl _)]
  simp
theorem getD_of {rows : List (List UInt8 × List UInt8)} {i : Nat} (h : i < rows.length) : rows[i]? = some (rows.getD i d0) := by
  rw [List.getD_eq_getElem?_getD, List.getElem?_eq_getElem h]; rfl
theorem law_parted_ok {prog : Program} {w : World} {h₀ : Heap} {T : Addr} {tp : Option (Int × Int × Int)} {n : Nat} (rows : List (List UInt8 × List UInt8)) (ws : List (List Nat)) (hr : ∀ r ∈ rows, r.1.length ≤ 1000) (hn : rows.length ≤ 100) (hw : WordsOk ws) :
    CALL prog w h₀ T 274 (n + 5) [.lst (rows.map fldAV), .lst (rows.map pairAV), .lst (ws.map .str)] tp (fun a t => a = .tup [.lst ((rows.filter fun r => (ws.map fun x => x.map lowerN).contains (smallB r.1)).map fldAV), .lst ((rows.filter fun r => !(ws.map fun x => x.map lowerN).contains (smallB r.1)).map fldAV)] ∧ t = tp) := by
  refine CALL.intro (das := []) ["fields", "rows", "words"] (by rfl) (by rfl) (fun s X => ?_) (by rfl) (by decide) (fun A L hid K => ?_)
  · exact fun _ _ _ => ⟨[], BindsTo.of_eq rfl, fun _ => .nil⟩
  · walk_at "gs"
    refine EV.compK [] (fun σ => σ.tp = tp) (fun x : List Nat => .str x) yes (fun x => .str (x.map lowerN)) ws K ⟨rfl, by decide, by decide, rfl, by decide, rfl⟩ (ITR.of K ?_) ?_
    · walk_at "gs"
      refine ⟨rfl, _, .lst _, rfl, by have := hw.1; omega, rfl, fun σ2 ht => ?_⟩
      rw [filter_yes]
      have e : ws.map (fun x => AV.str (x.map lowerN)) = (ws.map fun x => x.map lowerN).map .str := by rw [List.map_map]; rfl
      rw [e]
      have hin : ∀ {tp}, CALL prog w h₀ T 169 (n + 4) [.lst (rows.map fldAV), .lst (ws.map .str)] tp (fun a t => a = .lst ((rows.filter fun r => (ws.map fun x => x.map lowerN).contains (smallB r.1)).map fldAV) ∧ t = tp) := only_words_ok rows ws hr (by omega) hw
      have hout : ∀ {tp}, CALL prog w h₀ T 174 (n + 4) [.lst (rows.map fldAV), .lst (ws.map .str)] tp (fun a t => a = .lst ((rows.filter fun r => !(ws.map fun x => x.map lowerN).contains (smallB r.1)).map fldAV) ∧ t = tp) := without_words_ok rows ws hr (by omega) hw
      generalize hW : (ws.map fun x => x.map lowerN) = W at hin hout ⊢
      walk_at "gs"
      refine EV.compK ["wanted"] (fun σ => σ.tp = tp ∧ σ.ev "wanted" = some (.val (.lst (W.map .str)))) pairAV yes (fun r => .bool (W.contains (smallB r.1))) rows K ⟨rfl, by decide, by decide, rfl, by decide, rfl⟩ (ITR.of K ?_) ?_
      · walk_at "gs"
        refine ⟨rfl, _, .lst _, rfl, by omega, ⟨ht, ?_⟩, fun σ2 hj => ?_⟩
        · rfl
        obtain ⟨ht2, _⟩ := hj
        rw [filter_yes]
        generalize hP : (fun r : List UInt8 × List UInt8 => W.contains (smallB r.1)) = P at hin
        have hP' : ∀ r, W.contains (smallB r.1) = P r := fun r => by rw [← hP]
        simp only [hP'] at hout ⊢
        have hnl : ∀ Q : List UInt8 × List UInt8 → Bool, (rows.filter Q).length ≤ rows.length := fun Q => List.length_filter_le _ _
        have hn1 := hnl P
        have hn2 := hnl (fun r => !P r)
        walk_at "gs"
        refine ⟨_, Nat.le_refl _, hin.mono ?_⟩
        walk_at "ret"
        walk_at "gs"
        refine ⟨_, Nat.le_refl _, hout.mono ?_⟩
        walk_at "ret"
        walk_at "gs"
        refine ⟨_, Nat.le_add_left _ _, (law_told_ok _ (by omega)).mono ?_⟩
        walk_at "ret"
        walk_at "gs"
        refine EV.compK ["rows", "is_in"] (fun σ => σ.tp = tp ∧ σ.ev "is_in" = some (.val (.lst (rows.map fun r => .bool (P r)))) ∧ σ.ev "rows" = some (.val (.lst (rows.map pairAV)))) (fun i : Nat => .int (i : Int)) (fun i => P (rows.getD i d0)) (fun i => pairAV (rows.getD i d0)) (List.range rows.length) K ⟨rfl, by decide, by decide, rfl, by decide, rfl⟩ (ITR.of K ?_) (?_)
        rotate_left 1
        · rintro C hid i σ Kc hi ⟨t1, e1, e2⟩
          have hi := List.mem_range.mp hi
          walk_at "gs"
          refine ⟨_, .lst _ _ (.bool (P (rows.getD i d0))) (by omega) (by omega) (by rw [Int.toNat_natCast, List.getElem?_map, getD_of hi]; rfl), _, rfl, ?_⟩
          refine ⟨rfl, ?_⟩
          by_cases hc : (P (rows.getD i d0)) = true
          · refine ite_yes hc ?_
            walk_at "gs"
            refine ⟨_, .lst _ _ (pairAV (rows.getD i d0)) (by omega) (by omega) (by rw [Int.toNat_natCast, List.getElem?_map, getD_of hi]; rfl), rfl, t1, ?_, ?_⟩ <;> walk_at "ev"
          · refine ite_no hc ?_
            refine ⟨t1, ?_, ?_⟩ <;> walk_at "ev"
        walk_at "gs"
        refine ⟨_, .lenL _ (by rw [List.length_map]; omega), ?_⟩
        rw [List.length_map]
        refine ⟨_, .range _, rfl, _, .rng _ (by omega), rfl, by rw [List.length_range]; omega, ⟨ht2, rfl, rfl⟩, ?_⟩
        rintro σ3 ⟨ht3, _, _⟩
        have hpick := congrArg (List.map pairAV) (range_pick rows (P))
        rw [List.map_map] at hpick
        have hpick' : ((List.range rows.length).filter fun i => P (rows.getD i d0)).map (fun i => pairAV (rows.getD i d0)) = (rows.filter (P)).map pairAV := hpick
        rw [hpick']
        refine ⟨_, CmpR.neRows _, ?_⟩
        walk_at "no"
        walk_at "gs"
        refine ⟨_, Nat.le_add_left _ _, (law_told_ok _ (by omega)).mono ?_⟩
        walk_at "ret"
        walk_at "gs"
        refine EV.compK ["rows", "is_in"] (fun σ => σ.tp = tp ∧ σ.ev "is_in" = some (.val (.lst (rows.map fun r => .bool (P r)))) ∧ σ.ev "rows" = some (.val (.lst (rows.map pairAV)))) (fun i : Nat => .int (i : Int)) (fun i => !P (rows.getD i d0)) (fun i => pairAV (rows.getD i d0)) (List.range rows.length) K ⟨rfl, by decide, by decide, rfl, by decide, rfl⟩ (ITR.of K ?_) (?_)
        rotate_left 1
        · rintro C hid i σ Kc hi ⟨t1, e1, e2⟩
          have hi := List.mem_range.mp hi
          walk_at "gs"
          refine ⟨_, .lst _ _ (.bool (P (rows.getD i d0))) (by omega) (by omega) (by rw [Int.toNat_natCast, List.getElem?_map, getD_of hi]; rfl), _, rfl, ?_⟩
          refine ⟨rfl, ?_⟩
          by_cases hc : (!P (rows.getD i d0)) = true
          · refine ite_yes hc ?_
            walk_at "gs"
            refine ⟨_, .lst _ _ (pairAV (rows.getD i d0)) (by omega) (by omega) (by rw [Int.toNat_natCast, List.getElem?_map, getD_of hi]; rfl), rfl, t1, ?_, ?_⟩ <;> walk_at "ev"
          · refine ite_no hc ?_
            refine ⟨t1, ?_, ?_⟩ <;> walk_at "ev"
        walk_at "gs"
        refine ⟨_, .lenL _ (by rw [List.length_map]; omega), ?_⟩
        rw [List.length_map]
        refine ⟨_, .range _, rfl, _, .rng _ (by omega), rfl, by rw [List.length_range]; omega, ⟨ht3, rfl, rfl⟩, ?_⟩
        rintro σ4 ⟨ht4, _, _⟩
        have hpick := congrArg (List.map pairAV) (range_pick rows (fun r => !P r))
        rw [List.map_map] at hpick
        have hpick' : ((List.range rows.length).filter fun i => !P (rows.getD i d0)).map (fun i => pairAV (rows.getD i d0)) = (rows.filter (fun r => !P r)).map pairAV := hpick
        rw [hpick']
        refine ⟨_, CmpR.neRows _, ?_⟩
        walk_at "no"
        walk_at "gs"
        refine EX.for K (ITR.of K ?_)
        walk_at "gs"
        refine ⟨_, .lenL _ (by rw [List.length_map]; omega), ?_⟩
        rw [List.length_map]
        refine ⟨_, .range _, rfl, _, .rng _ (by omega), ?_⟩
        refine FORL.inv (fun l σ' => ∃ i : Nat, i ≤ rows.length ∧ l = (List.range' i (rows.length - i)).map (fun i : Nat => AV.int (i : Int)) ∧ σ'.tp = tp ∧ σ'.ev "fields" = some (.val (.lst (rows.map fldAV))) ∧ σ'.ev "is_in" = some (.val (.lst (rows.map fun r => .bool (P r))))
            ∧ σ'.ev "inner" = some (.val (.lst ((rows.filter P).map fldAV))) ∧ σ'.ev "outer" = some (.val (.lst ((rows.filter fun r => !P r).map fldAV)))
            ∧ σ'.ev "ahead" = some (.opn [.int (((rows.take i).filter P).length : Nat), .int (((rows.take i).filter fun r => !P r).length : Nat)])) ?_ ?_ _ _ ⟨0, Nat.zero_le _, by rw [List.range_eq_range']; rfl, by walk_at "evs"⟩
        · rintro hid d l σ ⟨i, q0, q1, t1, e1, e2, e3, e4, e5⟩
          have Kh := K.hide hid
          have hi : i < rows.length := by
            rcases Nat.lt_or_ge i rows.length with h | h
            · exact h
            · have : rows.length - i = 0 := by omega
              rw [this] at q1; cases q1
          rw [show rows.length - i = (rows.length - (i + 1)) + 1 from by omega, List.range'_succ, List.map_cons, List.cons.injEq] at q1
          obtain ⟨rfl, rfl⟩ := q1
          have hgi := getD_of hi
          generalize hrr : rows.getD i d0 = r at hgi
          have htk : rows.take (i + 1) = rows.take i ++ [r] := by rw [List.take_add_one, hgi]; rfl
          have hsp : rows = rows.take i ++ r :: rows.drop (i + 1) := by
            rw [← List.singleton_append, ← List.append_assoc, ← htk, List.take_append_drop]
          have hfi : (rows.map fldAV)[i]? = some (fldAV r) := by rw [List.getElem?_map, hgi]; rfl
          have hii : (rows.map fun r => AV.bool (P r))[i]? = some (.bool (P r)) := by rw [List.getElem?_map, hgi]; rfl
          have ha1 : ((rows.take i).filter P).length ≤ rows.length := Nat.le_trans (List.length_filter_le _ _) (List.length_take_le' _ _)
          have ha2 : ((rows.take i).filter fun r => !P r).length ≤ rows.length := Nat.le_trans (List.length_filter_le _ _) (List.length_take_le' _ _)
          have hfin : ∀ σ : Sg, σ.tp = tp → σ.ev "fields" = some (.val (.lst (rows.map fldAV))) → σ.ev "is_in" = some (.val (.lst (rows.map fun r => .bool (P r)))) → σ.ev "inner" = some (.val (.lst ((rows.filter P).map fldAV))) → σ.ev "outer" = some (.val (.lst ((rows.filter fun r => !P r).map fldAV)))
            → σ.ev "ahead" = some (.opn [.int (((rows.take (i + 1)).filter P).length : Nat), .int (((rows.take (i + 1)).filter fun r => !P r).length : Nat)]) →
            ∃ k : Nat, k ≤ rows.length ∧ (List.range' (i + 1) (rows.length - (i + 1))).map (fun i : Nat => AV.int (i : Int)) = (List.range' k (rows.length - k)).map (fun i : Nat => AV.int (i : Int)) ∧ σ.tp = tp ∧ σ.ev "fields" = some (.val (.lst (rows.map fldAV))) ∧ σ.ev "is_in" = some (.val (.lst (rows.map fun r => .bool (P r))))
            ∧ σ.ev "inner" = some (.val (.lst ((rows.filter P).map fldAV))) ∧ σ.ev "outer" = some (.val (.lst ((rows.filter fun r => !P r).map fldAV)))
            ∧ σ.ev "ahead" = some (.opn [.int (((rows.take k).filter P).length : Nat), .int (((rows.take k).filter fun r => !P r).length : Nat)]) :=
            fun σ g1 g2 g3 g4 g5 g6 => ⟨i + 1, hi, rfl, g1, g2, g3, g4, g5, g6⟩
          rw [htk, List.filter_append, List.filter_append, List.length_append, List.length_append] at hfin
          walk_at "go"
          walk_at "go"
          walk_at "go"
          walk_at "go"
          walk_at "gs"
          refine ⟨_, .lst _ _ _ (by omega) (by omega) (by rw [Int.toNat_natCast]; exact hii), _, rfl, ?_⟩
          have hcm : CmpR .NotEq (.tup [.bytes r.1, .bytes r.2]) (.tup [.bytes r.1, .bytes r.2]) false := .neP _ rfl (by show max 0 (max 0 0) ≤ 50; decide)
          by_cases hp : P r = true
          · refine ite_yes hp ?_
            have hget : ((rows.filter P).map fldAV)[((rows.take i).filter P).length]? = some (fldAV r) := by
              have := filter_get P (rows.take i) (rows.drop (i + 1)) r hp
              rw [← hsp] at this
              rw [List.getElem?_map, this]; rfl
            have hf1 : ([r].filter P).length = 1 := by rw [List.filter_cons, if_pos hp]; rfl
            have hf2 : ([r].filter fun r => !P r).length = 0 := by rw [List.filter_cons, if_neg (by simp [hp])]; rfl
            rw [hf1, hf2] at hfin
            walk_at "go"
            walk_at "go"
            refine EV.subO (by assumption) (by walk_at "ev") fun D hid' => ?_
            have Kh2 := CxOk.hide Kh hid'
            walk_at "gs"
            refine ⟨0, _, rfl, by decide, by decide, by simp, rfl, ?_⟩
            refine ⟨_, .lst _ _ _ (by omega) (by omega) (by rw [Int.toNat_natCast]; exact hget), ?_⟩
            walk_at "go"
            refine EX.augO (by assumption) (by walk_at "ev") fun D2 hid2 => ?_
            have Kh3 := CxOk.hide Kh hid2
            walk_at "gs"
            refine ⟨_, .lst _ _ _ (by omega) (by omega) (by rw [Int.toNat_natCast]; exact hii), _, rfl, ?_⟩
            refine ite_yes hp ?_
            walk_at "gs"
            refine ⟨0, _, rfl, by decide, rfl, ?_⟩
            walk_at "gs"
            refine ⟨_, .lst _ _ _ (by omega) (by omega) (by rw [Int.toNat_natCast]; exact hfi), ?_⟩
            walk_at "gs"
            refine ⟨_, hcm, ?_⟩
            walk_at "no"
            walk_at "gs"
            refine hfin _ ?_ ?_ ?_ ?_ ?_ ?_ <;> walk_at "ev"
          · refine ite_no hp ?_
            have hp' : (!P r) = true := by simpa using hp
            have hget : ((rows.filter fun r => !P r).map fldAV)[((rows.take i).filter fun r => !P r).length]? = some (fldAV r) := by
              have := filter_get (fun r => !P r) (rows.take i) (rows.drop (i + 1)) r hp'
              rw [← hsp] at this
              rw [List.getElem?_map, this]; rfl
            have hf1 : ([r].filter P).length = 0 := by rw [List.filter_cons, if_neg hp]; rfl
            have hf2 : ([r].filter fun r => !P r).length = 1 := by rw [List.filter_cons, if_pos hp']; rfl
            rw [hf1, hf2] at hfin
            walk_at "go"
            walk_at "go"
            refine EV.subO (by assumption) (by walk_at "ev") fun D hid' => ?_
            have Kh2 := CxOk.hide Kh hid'
            walk_at "gs"
            refine ⟨1, _, rfl, by decide, by decide, by simp, rfl, ?_⟩
            refine ⟨_, .lst _ _ _ (by omega) (by omega) (by rw [Int.toNat_natCast]; exact hget), ?_⟩
            walk_at "go"
            refine EX.augO (by assumption) (by walk_at "ev") fun D2 hid2 => ?_
            have Kh3 := CxOk.hide Kh hid2
            walk_at "gs"
            refine ⟨_, .lst _ _ _ (by omega) (by omega) (by rw [Int.toNat_natCast]; exact hii), _, rfl, ?_⟩
            refine ite_no hp ?_
            walk_at "gs"
            refine ⟨1, _, rfl, by decide, rfl, ?_⟩
            walk_at "gs"
            refine ⟨_, .lst _ _ _ (by omega) (by omega) (by rw [Int.toNat_natCast]; exact hfi), ?_⟩
            walk_at "gs"
            refine ⟨_, hcm, ?_⟩
            walk_at "no"
            walk_at "gs"
            refine hfin _ ?_ ?_ ?_ ?_ ?_ ?_ <;> walk_at "ev"
        · rintro σ ⟨i, q0, q1, t1, e1, e2, e3, e4, e5⟩
          have hi : i = rows.length := by
            have := congrArg List.length q1
            simp at this; omega
          rw [hi, List.take_length] at e5
          walk_at "gs"
          refine ⟨_, .lenL _ (by rw [List.length_map]; omega), ?_⟩
          walk_at "gs"
          refine ⟨_, .lenL _ (by rw [List.length_map]; omega), ?_⟩
          rw [List.length_map, List.length_map]
          walk_at "gs"
          refine ⟨_, .eqL _ rfl (by show max 0 (max 0 0) ≤ 50; decide), ?_⟩
          walk_at "yes"
          walk_at "gs"
          exact ⟨rfl, t1⟩
      · rintro C hid r σ Kc hk ⟨ht, hev⟩
        have := hr r hk
        show ASG _ _ (AV.tup [.bytes r.1, .bytes r.2]) _ _
        walk_at "gs"
        refine ⟨_, Nat.le_add_left _ _, (law_small_bytes r.1 this).mono ?_⟩
        rintro _ t ⟨rfl, ht2⟩
        walk_at "gs"
        refine ⟨_, .inS _ _, rfl, ht2.trans ht, ?_⟩
        walk_at "ev"
    · intro C hid x σ Kc hk ht
      have := hw.2 x hk
      walk_at "gs"
      refine EV.compK [] (fun σ => σ.tp = tp) (fun k : Nat => .str [k]) yes (fun k => .int (k : Int)) x Kc ⟨rfl, by decide, by decide, rfl, by decide, rfl⟩ (ITR.of Kc ?_) ?_
      · walk_at "gs"
        refine ⟨rfl, _, .str x, rfl, by omega, ht, fun σ2 ht => ?_⟩
        rw [filter_yes]
        walk_at "gs"
        refine ⟨_, Nat.le_add_left _ _, (law_small_list x this.2 this.1).mono ?_⟩
        rintro _ t ⟨rfl, ht2⟩
        exact ⟨rfl, ht2.trans ht⟩
      · intro C hid k σ Kc hk ht
        walk_at "gs"
        refine ⟨_, .ord k, ?_⟩
        exact ⟨rfl, ht⟩
noncomputable def placesOf (rows : List (List UInt8 × List UInt8)) (w : List Nat) : List Nat := (List.range rows.length).filter fun i => smallB (rows.getD i d0).1 == w
noncomputable def lawWith (rows : List (List UInt8 × List UInt8)) (nr : List UInt8 × List UInt8) : List (List UInt8 × List UInt8) :=
  match placesOf rows (smallB nr.1) with
  | [] => rows ++ [nr]
  | p :: ps => ((List.range rows.length).filter fun i => !ps.contains i).map fun i => if i = p then nr else rows.getD i d0
theorem cast_contains (ps : List Nat) (i : Nat) : (ps.map fun k : Nat => (k : Int)).contains (i : Int) = ps.contains i := by
  induction ps with
  | nil => rfl
  | cons p ps ih =>
    rw [List.map_cons, List.contains_cons, List.contains_cons, ih]
    congr 1
    rw [Bool.eq_iff_iff, beq_iff_eq, beq_iff_eq]
    omega
theorem law_row_with_ok {prog : Program} {w : World} {h₀ : Heap} {T : Addr} {tp : Option (Int × Int × Int)} {n : Nat} (rows : List (List UInt8 × List UInt8)) (nr : List UInt8 × List UInt8) (hr : ∀ r ∈ rows, r.1.length ≤ 1000) (hn : rows.length ≤ 100) (hnr : nr.1.length ≤ 1000) :
    CALL prog w h₀ T 279 (n + 2) [.lst (rows.map pairAV), .bytes nr.1, .bytes nr.2] tp (fun a t => a = .lst ((lawWith rows nr).map pairAV) ∧ t = tp) := by
  refine CALL.intro (das := []) ["rows", "name", "raw"] (by rfl) (by rfl) (fun s X => ?_) (by rfl) (by decide) (fun A L hid K => ?_)
  · exact fun _ _ _ => ⟨[], BindsTo.of_eq rfl, fun _ => .nil⟩
  · walk_at "gs"
    have hrD : ∀ i, i < rows.length → (rows.getD i d0).1.length ≤ 1000 := fun i hi => hr _ (List.mem_of_getElem? (getD_of hi))
    refine EV.compK ["rows", "name"] (fun σ => σ.tp = tp ∧ σ.ev "rows" = some (.val (.lst (rows.map pairAV))) ∧ σ.ev "name" = some (.val (.bytes nr.1))) (fun i : Nat => .int (i : Int)) (fun i => smallB (rows.getD i d0).1 == smallB nr.1) (fun i : Nat => .int (i : Int)) (List.range rows.length) K ⟨rfl, by decide, by decide, rfl, by decide, rfl⟩ (ITR.of K ?_) ?_
    rotate_left 1
    · rintro C hid i σ Kc hi ⟨t1, e1, e2⟩
      have hi := List.mem_range.mp hi
      walk_at "gs"
      refine ⟨_, .lst _ _ (pairAV (rows.getD i d0)) (by omega) (by omega) (by rw [Int.toNat_natCast, List.getElem?_map, getD_of hi]; rfl), ?_⟩
      walk_at "gs"
      refine ⟨_, .tup _ _ _ (by decide) (by decide) rfl, ?_⟩
      walk_at "gs"
      refine ⟨_, Nat.le_refl _, (law_small_bytes _ (hrD i hi)).mono ?_⟩
      rintro _ t2 ⟨rfl, ht2⟩
      walk_at "gs"
      refine ⟨_, Nat.le_refl _, (law_small_bytes _ hnr).mono ?_⟩
      rintro _ t3 ⟨rfl, ht3⟩
      refine ⟨_, .eqS _ _, rfl, ?_⟩
      have ht : t3 = tp := ht3.trans (ht2.trans t1)
      by_cases hc : (smallB (rows.getD i d0).1 == smallB nr.1) = true
      · refine ite_yes hc ?_
        walk_at "gs"
        refine ⟨rfl, ht, ?_, ?_⟩ <;> walk_at "ev"
      · refine ite_no hc ?_
        refine ⟨ht, ?_, ?_⟩ <;> walk_at "ev"
    walk_at "gs"
    refine ⟨_, .lenL _ (by rw [List.length_map]; omega), ?_⟩
    rw [List.length_map]
    refine ⟨_, .range _, rfl, _, .rng _ (by omega), rfl, by rw [List.length_range]; omega, ⟨rfl, rfl, rfl⟩, ?_⟩
    rintro σ2 ⟨ht2, _, _⟩
    have hpl : (placesOf rows (smallB nr.1)).length ≤ rows.length := by
      have := List.length_filter_le (fun i => smallB (rows.getD i d0).1 == smallB nr.1) (List.range rows.length)
      rwa [List.length_range] at this
    have hdef : lawWith rows nr = match placesOf rows (smallB nr.1) with
      | [] => rows ++ [nr]
      | p :: ps => ((List.range rows.length).filter fun i => !ps.contains i).map fun i => if i = p then nr else rows.getD i d0 := rfl
    rw [show (List.range rows.length).filter (fun i => smallB (rows.getD i d0).1 == smallB nr.1) = placesOf rows (smallB nr.1) from rfl]
    generalize placesOf rows (smallB nr.1) = pl at hdef hpl ⊢
    walk_at "gs"
    refine ⟨_, .eqN _, ?_⟩
    cases pl with
    | nil =>
      refine ite_yes rfl ?_
      dsimp only at hdef
      rw [hdef]
      walk_at "gs"
      refine ⟨_, .addL _ _ (by simp only [List.length_map, List.length_cons, List.length_nil]; omega), ?_⟩
      refine ⟨?_, ht2⟩
      rw [List.map_append]; rfl
    | cons p ps =>
      refine ite_no Bool.false_ne_true ?_
      dsimp only at hdef
      rw [hdef]
      have ecast : ps.map (fun i : Nat => AV.int (i : Int)) = (ps.map fun k : Nat => (k : Int)).map .int := by rw [List.map_map]; rfl
      rw [List.length_cons] at hpl
      walk_at "gs"
      refine EV.compK ["rows", "raw", "places", "name"] (fun σ => σ.tp = tp ∧ σ.ev "rows" = some (.val (.lst (rows.map pairAV))) ∧ σ.ev "name" = some (.val (.bytes nr.1)) ∧ σ.ev "raw" = some (.val (.bytes nr.2)) ∧ σ.ev "places" = some (.val (.lst ((p :: ps).map (fun i : Nat => AV.int (i : Int))))))
        (fun i : Nat => .int (i : Int)) (fun i => !ps.contains i) (fun i : Nat => pairAV (if i = p then nr else rows.getD i d0)) (List.range rows.length) K ⟨rfl, by decide, by decide, rfl, by decide, rfl⟩ (ITR.of K ?_) ?_
      · walk_at "gs"
        refine ⟨_, .lenL _ (by rw [List.length_map]; omega), ?_⟩
        rw [List.length_map]
        refine ⟨_, .range _, rfl, _, .rng _ (by omega), rfl, by rw [List.length_range]; omega, ⟨ht2, rfl, rfl, rfl, rfl⟩, ?_⟩
        rintro σ3 ⟨ht3, _⟩
        refine ⟨?_, ht3⟩
        rw [List.map_map]; rfl
      · rintro C hid i σ Kc hi ⟨t1, e1, e2, e3, e4⟩
        have hi := List.mem_range.mp hi
        walk_at "gs"
        refine ⟨_, CutR.tail (by simp; omega), ?_⟩
        rw [show ((p :: ps).map (fun i : Nat => AV.int (i : Int))).tail = (ps.map fun k : Nat => (k : Int)).map .int from ecast]
        refine ⟨_, .ninI _ _, ?_⟩
        rw [cast_contains]
        refine ⟨rfl, ?_⟩
        by_cases hc : (!ps.contains i) = true
        · refine ite_yes hc ?_
          walk_at "gs"
          refine ⟨_, .lst _ _ (.int (p : Int)) (by decide) (by decide) rfl, ?_⟩
          walk_at "cmp"
          by_cases hip : i = p
          · subst hip
            walk_at "yes"
            walk_at "gs"
            refine ⟨?_, t1, ?_, ?_, ?_, ?_⟩
            · show pairAV nr = pairAV (if i = i then nr else rows.getD i d0)
              rw [if_pos rfl]
            all_goals walk_at "ev"
          · walk_at "no"
            walk_at "gs"
            refine ⟨_, .lst _ _ (pairAV (rows.getD i d0)) (by omega) (by omega) (by rw [Int.toNat_natCast, List.getElem?_map, getD_of hi]; rfl), ?_⟩
            refine ⟨?_, t1, ?_, ?_, ?_, ?_⟩
            · show pairAV (rows.getD i d0) = pairAV (if i = p then nr else rows.getD i d0)
              rw [if_neg hip]
            all_goals walk_at "ev"
        · refine ite_no hc ?_
          refine ⟨t1, ?_, ?_, ?_, ?_⟩ <;> walk_at "ev"
theorem findAt_eq {b : List UInt8} {c : UInt8} {lo hi k : Nat} (h1 : lo ≤ k) (h2 : k < hi) (h3 : b[k]? = some c) (h4 : ∀ i, lo ≤ i → i < k → b[i]? ≠ some c) : findAt b c lo hi = some k := by
  unfold findAt
  have e : List.range' lo (hi - lo) = List.range' lo (k - lo) ++ k :: List.range' (k + 1) (hi - k - 1) := by
    have e1 : hi - lo = (k - lo) + ((hi - k - 1) + 1) := by omega
    rw [e1, ← List.range'_append_1, List.range'_succ]
    have e2 : lo + (k - lo) = k := by omega
    rw [e2]
  rw [e, List.find?_append]
  have hn : (List.range' lo (k - lo)).find? (fun j => b[j]? == some c) = none := by
    rw [List.find?_eq_none]
    intro j hj
    rw [List.mem_range'_1] at hj
    simpa using h4 j hj.1 (by omega)
  rw [hn, Option.none_or, List.find?_cons]
  rw [show (b[k]? == some c) = true from by simpa using h3]
theorem findAt_none {b : List UInt8} {c : UInt8} {lo hi : Nat} (h : ∀ i, lo ≤ i → i < hi → b[i]? ≠ some c) : findAt b c lo hi = none := by
  unfold findAt
  rw [List.find?_eq_none]
  intro j hj
  rw [List.mem_range'_1] at hj
  simpa using h j hj.1 (by omega)
theorem getElem?_mid {pre seg rest : List UInt8} {i : Nat} (h1 : pre.length ≤ i) (h2 : i < pre.length + seg.length) : (pre ++ seg ++ rest)[i]? = seg[i - pre.length]? := by
  rw [List.append_assoc, List.getElem?_append_right h1, List.getElem?_append_left (by omega)]
theorem not_in_mid {pre seg rest : List UInt8} {c : UInt8} (hc : c ∉ seg) {i : Nat} (h1 : pre.length ≤ i) (h2 : i < pre.length + seg.length) : (pre ++ seg ++ rest)[i]? ≠ some c := by
  rw [getElem?_mid h1 h2]
  intro e
  exact hc (List.mem_of_getElem? e)
theorem EndOk.pos {e : List UInt8} (h : EndOk e) : 0 < e.length ∧ e.length ≤ 2 := by rcases h with rfl | rfl <;> decide
/-- one row is read -/
theorem line_lemma {pre seg e rest : List UInt8} {stop : Nat} (hs : NoLF seg) (he : EndOk e) (h1 : pre.length + seg.length + e.length ≤ stop) :
    lineAt (pre ++ seg ++ e ++ rest) pre.length stop = (pre.length + seg.length, pre.length + seg.length + e.length) := by
  obtain ⟨s10, s13⟩ := hs
  rcases he with rfl | rfl
  · have hk : (pre ++ seg ++ [13, 10] ++ rest)[pre.length + seg.length + 1]? = some 10 := by
      have : pre.length + seg.length = (pre ++ seg).length := by simp
      rw [this, List.append_assoc, List.getElem?_append_right (by omega)]
      simp
    have hk0 : (pre ++ seg ++ [13, 10] ++ rest)[pre.length + seg.length]? = some 13 := by
      have : pre.length + seg.length = (pre ++ seg).length := by simp
      rw [this, List.append_assoc, List.getElem?_append_right (by omega)]
      simp
    have hf : findAt (pre ++ seg ++ [13, 10] ++ rest) 10 pre.length stop = some (pre.length + seg.length + 1) := by
      refine findAt_eq (by omega) (by simp only [List.length_cons, List.length_nil] at h1; omega) hk fun i i1 i2 => ?_
      rcases Nat.lt_or_ge i (pre.length + seg.length) with h | h
      · rw [List.append_assoc (pre ++ seg)]; exact not_in_mid s10 i1 h
      · have : i = pre.length + seg.length := by omega
        rw [this, hk0]; simp
    unfold lineAt
    rw [hf]
    have hd : (pre ++ seg ++ [13, 10] ++ rest).getD (pre.length + seg.length + 1 - 1) 0 = 13 := by
      rw [List.getD_eq_getElem?_getD, Nat.add_sub_cancel, hk0]; rfl
    show (if _ then _ else _) = _
    rw [if_pos ⟨by omega, hd⟩]
    rfl
  · have hk : (pre ++ seg ++ [10] ++ rest)[pre.length + seg.length]? = some 10 := by
      have : pre.length + seg.length = (pre ++ seg).length := by simp
      rw [this, List.append_assoc, List.getElem?_append_right (by omega)]
      simp
    have hf : findAt (pre ++ seg ++ [10] ++ rest) 10 pre.length stop = some (pre.length + seg.length) := by
      refine findAt_eq (by omega) (by simp only [List.length_cons, List.length_nil] at h1; omega) hk fun i i1 i2 => ?_
      rw [List.append_assoc (pre ++ seg)]; exact not_in_mid s10 i1 i2
    unfold lineAt
    rw [hf]
    show (if _ then _ else _) = _
    rw [if_neg]
    · rfl
    rintro ⟨g1, g2⟩
    have hm := not_in_mid (pre := pre) (seg := seg) (rest := [10] ++ rest) s13 (i := pre.length + seg.length - 1) (by omega) (by omega)
    rw [← List.append_assoc] at hm
    have hlt : pre.length + seg.length - 1 < (pre ++ seg ++ [10] ++ rest).length := by simp; omega
    rw [List.getD_eq_getElem?_getD, List.getElem?_eq_getElem hlt] at g2
    rw [List.getElem?_eq_getElem hlt] at hm
    exact hm (congrArg some g2)
noncomputable def firstEnd (tl : List (List UInt8 × List UInt8)) (e : List UInt8) : List UInt8 := match tl with
  | [] => e
  | p :: _ => p.1
theorem tailB_cons (p : List UInt8 × List UInt8) (tl) : tailB (p :: tl) = p.1 ++ p.2 ++ tailB tl := by simp [tailB]
theorem firstEnd_ok {tl : List (List UInt8 × List UInt8)} {e : List UInt8} (h : ∀ p ∈ tl, EndOk p.1 ∧ SegOk p.2) (he : EndOk e) : EndOk (firstEnd tl e) := by
  cases tl with
  | nil => exact he
  | cons p tl => exact (h p (.head _)).1
theorem firstEnd_pre (tl : List (List UInt8 × List UInt8)) (e : List UInt8) : ∃ r, tailB tl ++ e = firstEnd tl e ++ r := by
  cases tl with
  | nil => exact ⟨[], by simp [tailB, firstEnd]⟩
  | cons p tl => exact ⟨p.2 ++ (tailB tl ++ e), by simp [tailB, firstEnd]⟩
theorem okRow_head {s : List UInt8} (h : okRow s = true) : ∃ c r, s = c :: r ∧ isW c = true := by
  cases s with
  | nil => cases h
  | cons c r => exact ⟨c, r, rfl, h⟩
/-- the rows that go on -/
theorem cont_lemma {stop : Nat} {e rest : List UInt8} (he : EndOk e) : ∀ (tl : List (List UInt8 × List UInt8)) (P : List UInt8), (∀ p ∈ tl, EndOk p.1 ∧ SegOk p.2) →
    P.length + (tailB tl).length + e.length ≤ stop → ¬ (P.length + (tailB tl).length + e.length < stop ∧ isW ((P ++ (tailB tl ++ e) ++ rest).getD (P.length + (tailB tl).length + e.length) 0) = true) →
    Cont (P ++ (tailB tl ++ e) ++ rest) stop tl.length P.length (P.length + (firstEnd tl e).length) (P.length + (tailB tl).length) (P.length + (tailB tl).length + e.length)
  | [], P, h, h1, h2 => by
    have e1 : tailB [] = [] := rfl
    rw [e1] at h2 ⊢
    simp only [List.length_nil, Nat.add_zero, List.nil_append, firstEnd] at h2 ⊢
    exact .done h2
  | (e1, s1) :: tl, P, h, h1, h2 => by
    obtain ⟨g1, g2⟩ := h (e1, s1) (.head _)
    obtain ⟨c, r, hc, hw⟩ := okRow_head g2.2
    have hfe := firstEnd_ok (fun p hp => h p (.tail _ hp)) he
    obtain ⟨r2, hr2⟩ := firstEnd_pre tl e
    have hlen : (tailB ((e1, s1) :: tl)).length = e1.length + s1.length + (tailB tl).length := by rw [tailB_cons]; simp; omega
    have hl2 : (tailB tl).length + e.length = (firstEnd tl e).length + r2.length := by
      have := congrArg List.length hr2
      simpa using this
    dsimp only at hc hw g1 g2
    have eq1 : P ++ (tailB ((e1, s1) :: tl) ++ e) ++ rest = (P ++ e1 ++ s1) ++ (tailB tl ++ e) ++ rest := by rw [tailB_cons]; simp
    have eq2 : P ++ (tailB ((e1, s1) :: tl) ++ e) ++ rest = (P ++ e1) ++ s1 ++ firstEnd tl e ++ (r2 ++ rest) := by rw [eq1, hr2]; simp
    have hp := g1.pos
    have hpe := he.pos
    have hs1 : 0 < s1.length := by rw [hc]; simp
    have hline := line_lemma (pre := P ++ e1) (seg := s1) (e := firstEnd tl e) (rest := r2 ++ rest) (stop := stop) g2.1 hfe (by rw [List.length_append]; omega)
    rw [← eq2] at hline
    have hlater : P.length + (firstEnd ((e1, s1) :: tl) e).length = (P ++ e1).length := by simp [firstEnd]
    have ih := cont_lemma (stop := stop) (rest := rest) he tl (P ++ e1 ++ s1) (fun p hp => h p (.tail _ hp)) (by simp only [List.length_append]; omega) (by
      rw [← eq1]
      have : (P ++ e1 ++ s1).length + (tailB tl).length + e.length = P.length + (tailB ((e1, s1) :: tl)).length + e.length := by rw [hlen]; simp only [List.length_append]; omega
      rw [this]; exact h2)
    rw [← eq1] at ih
    have e4 : (P ++ e1 ++ s1).length = (P ++ e1).length + s1.length := by simp only [List.length_append]
    rw [e4] at ih
    rw [hlater, List.length_cons]
    refine .more (by rw [List.length_append]; omega) ?_ ?_
    · rw [eq2, List.getD_eq_getElem?_getD, List.append_assoc, List.append_assoc, List.getElem?_append_right (Nat.le_refl _), Nat.sub_self, hc]
      exact hw
    · rw [hline]
      have e5 : P.length + (tailB ((e1, s1) :: tl)).length = (P ++ e1).length + s1.length + (tailB tl).length := by rw [hlen, List.length_append]; omega
      rw [e5]
      exact ih
/-- a field as the law makes it: name, worth, end -/
noncomputable abbrev G := List UInt8 × List UInt8 × List UInt8
noncomputable def wholeB (g : G) : List UInt8 := g.1 ++ [58] ++ g.2.1 ++ g.2.2
noncomputable def headB (gs : List G) : List UInt8 := (gs.map wholeB).flatten
noncomputable def dueOf : Nat → List G → List (List UInt8 × List UInt8 × Nat × Nat)
  | _, [] => []
  | base, g :: gs => (g.1, g.2.1, base, base + (wholeB g).length) :: dueOf (base + (wholeB g).length) gs
noncomputable def GOk (g : G) : Prop := NameOk g.1 ∧ RawOk g.2.1 ∧ EndOk g.2.2
theorem headB_cons (g : G) (gs) : headB (g :: gs) = wholeB g ++ headB gs := by simp [headB]
theorem headB_snoc (gs : List G) (g) : headB (gs ++ [g]) = headB gs ++ wholeB g := by simp [headB]
theorem dueOf_snoc : ∀ (gs : List G) (base : Nat) (g : G), dueOf base (gs ++ [g]) = dueOf base gs ++ [(g.1, g.2.1, base + (headB gs).length, base + (headB gs).length + (wholeB g).length)]
  | [], base, g => by simp [dueOf, headB]
  | h :: gs, base, g => by
    rw [List.cons_append, dueOf, dueOf, dueOf_snoc gs, headB_cons, List.length_append, List.cons_append, Nat.add_assoc]
theorem dueOf_pairs : ∀ (gs : List G) (base : Nat), (dueOf base gs).map (fun s => (s.1, s.2.1)) = gs.map fun g => (g.1, g.2.1)
  | [], _ => rfl
  | g :: gs, base => by rw [dueOf, List.map_cons, List.map_cons, dueOf_pairs gs]
theorem dueOf_len : ∀ (gs : List G) (base : Nat), (dueOf base gs).length = gs.length
  | [], _ => rfl
  | g :: gs, base => by rw [dueOf, List.length_cons, List.length_cons, dueOf_len gs]
theorem name_head {x : List UInt8} (h : NameOk x) : ∃ c r, x = c :: r ∧ isW c = false := by
  obtain ⟨h1, _⟩ := h
  unfold isName at h1
  cases x with
  | nil => cases h1
  | cons c r =>
    refine ⟨c, r, rfl, ?_⟩
    simp only [List.all_cons, Bool.and_eq_true] at h1
    have := (okB_iff c).mp h1.1.1
    unfold isW
    rw [Bool.or_eq_false_iff, beq_eq_false_iff_ne, beq_eq_false_iff_ne]
    constructor <;> rintro rfl <;> revert this <;> decide
theorem name_nolf {x : List UInt8} (h : NameOk x) : NoLF x ∧ (58 : UInt8) ∉ x := by
  obtain ⟨h1, _⟩ := h
  unfold isName at h1
  simp only [Bool.and_eq_true] at h1
  have hh := List.all_eq_true.mp h1.1
  refine ⟨⟨fun hm => ?_, fun hm => ?_⟩, fun hm => ?_⟩ <;> exact absurd (hh _ hm) (by decide)
theorem nolf_append {a b : List UInt8} (ha : NoLF a) (hb : NoLF b) : NoLF (a ++ b) :=
  ⟨fun h => (List.mem_append.mp h).elim ha.1 hb.1, fun h => (List.mem_append.mp h).elim ha.2 hb.2⟩
theorem colon_nolf : NoLF [58] := by decide
theorem slice_at {P s rest : List UInt8} : sliceB (P ++ s ++ rest) P.length (P.length + s.length) = s := slice_mid P s rest
/-- one field is read -/
theorem field_lemma {g : G} (hg : GOk g) {pre rest : List UInt8} {stop : Nat} {rows} {body : Nat} (h1 : pre.length + (wholeB g).length ≤ stop) (h2 : stop ≤ (pre ++ wholeB g ++ rest).length)
    (hn : ¬ (pre.length + (wholeB g).length < stop ∧ isW ((pre ++ wholeB g ++ rest).getD (pre.length + (wholeB g).length) 0) = true)) (hr : Spans (pre ++ wholeB g ++ rest) stop (pre.length + (wholeB g).length) rows body) :
    Spans (pre ++ wholeB g ++ rest) stop pre.length ((g.1, g.2.1, pre.length, pre.length + (wholeB g).length) :: rows) body := by
  obtain ⟨name, raw, e⟩ := g
  obtain ⟨hname, ⟨s0, tl, hraw, hs0, htl⟩, he⟩ := hg
  dsimp only at hname hraw he ⊢
  obtain ⟨hnl, hcol⟩ := name_nolf hname
  obtain ⟨c0, r0, hc0, _⟩ := name_head hname
  have hnpos : 0 < name.length := by rw [hc0]; simp
  have hw : wholeB (name, raw, e) = name ++ [58] ++ s0 ++ (tailB tl ++ e) := by simp [wholeB, hraw]
  rw [hw] at h1 h2 hn hr ⊢
  have hfe := firstEnd_ok htl he
  obtain ⟨r2, hr2⟩ := firstEnd_pre tl e
  have hpe := he.pos
  have hpf := hfe.pos
  have hl2 : (tailB tl).length + e.length = (firstEnd tl e).length + r2.length := by
    have := congrArg List.length hr2
    simpa using this
  have hwl : (name ++ [58] ++ s0 ++ (tailB tl ++ e)).length = name.length + 1 + s0.length + (tailB tl).length + e.length := by simp; omega
  rw [hwl] at h1 hn hr ⊢
  have eq1 : pre ++ (name ++ [58] ++ s0 ++ (tailB tl ++ e)) ++ rest = pre ++ (name ++ [58] ++ s0) ++ firstEnd tl e ++ (r2 ++ rest) := by rw [hr2]; simp
  have eq2 : pre ++ (name ++ [58] ++ s0 ++ (tailB tl ++ e)) ++ rest = (pre ++ (name ++ [58] ++ s0)) ++ (tailB tl ++ e) ++ rest := by simp
  have eq3 : pre ++ (name ++ [58] ++ s0 ++ (tailB tl ++ e)) ++ rest = pre ++ name ++ ([58] ++ s0 ++ (tailB tl ++ e) ++ rest) := by simp
  have eq4 : pre ++ (name ++ [58] ++ s0 ++ (tailB tl ++ e)) ++ rest = (pre ++ name ++ [58]) ++ raw ++ (e ++ rest) := by rw [hraw]; simp
  have hseg : (name ++ [58] ++ s0).length = name.length + 1 + s0.length := by simp only [List.length_append, List.length_cons, List.length_nil]
  have hline := line_lemma (pre := pre) (seg := name ++ [58] ++ s0) (e := firstEnd tl e) (rest := r2 ++ rest) (stop := stop) (nolf_append (nolf_append hnl colon_nolf) hs0) hfe (by omega)
  rw [← eq1, hseg] at hline
  have hcont := cont_lemma (stop := stop) (rest := rest) he tl (pre ++ (name ++ [58] ++ s0)) htl (by rw [List.length_append, hseg]; omega) (by
    rw [← eq2, List.length_append, hseg]
    have : pre.length + (name.length + 1 + s0.length) + (tailB tl).length + e.length = pre.length + (name.length + 1 + s0.length + (tailB tl).length + e.length) := by omega
    rw [this]; exact hn)
  rw [← eq2, List.length_append, hseg] at hcont
  have hcolon : colonIn (pre ++ (name ++ [58] ++ s0 ++ (tailB tl ++ e)) ++ rest) pre.length (pre.length + (name.length + 1 + s0.length)) = ((pre.length + name.length : Nat) : Int) := by
    have hf : findAt (pre ++ (name ++ [58] ++ s0 ++ (tailB tl ++ e)) ++ rest) 58 pre.length (pre.length + (name.length + 1 + s0.length)) = some (pre.length + name.length) := by
      refine findAt_eq (by omega) (by omega) ?_ fun i i1 i2 => ?_
      · rw [eq3]
        have : pre.length + name.length = (pre ++ name).length := by simp
        rw [this, List.getElem?_append_right (Nat.le_refl _), Nat.sub_self]; rfl
      · rw [eq3]; exact not_in_mid hcol i1 i2
    unfold colonIn
    rw [hf]
    have hsl : sliceB (pre ++ (name ++ [58] ++ s0 ++ (tailB tl ++ e)) ++ rest) pre.length (pre.length + name.length) = name := by rw [eq3]; exact slice_at
    show (if _ then _ else _) = _
    rw [hsl, if_pos hname.1]
  have hrl : raw.length = s0.length + (tailB tl).length := by rw [hraw]; simp
  have hF := Spans.field (b := pre ++ (name ++ [58] ++ s0 ++ (tailB tl ++ e)) ++ rest) (stop := stop) (here := pre.length) (by omega) hline (by omega) hcolon hcont (by
    have : pre.length + (name.length + 1 + s0.length) + (tailB tl).length + e.length = pre.length + (name.length + 1 + s0.length + (tailB tl).length + e.length) := by omega
    rw [this]; exact hr)
  have hs1 : sliceB (pre ++ (name ++ [58] ++ s0 ++ (tailB tl ++ e)) ++ rest) pre.length (pre.length + name.length) = name := by rw [eq3]; exact slice_at
  have hs2 : sliceB (pre ++ (name ++ [58] ++ s0 ++ (tailB tl ++ e)) ++ rest) (pre.length + name.length + 1) (pre.length + (name.length + 1 + s0.length) + (tailB tl).length) = raw := by
    have := slice_at (P := pre ++ name ++ [58]) (s := raw) (rest := e ++ rest)
    rw [← eq4] at this
    have e1 : (pre ++ name ++ [58]).length = pre.length + name.length + 1 := by simp only [List.length_append, List.length_cons, List.length_nil]
    rw [e1] at this
    have e2 : pre.length + name.length + 1 + raw.length = pre.length + (name.length + 1 + s0.length) + (tailB tl).length := by rw [hrl]; omega
    rw [e2] at this
    exact this
  rw [hs1, hs2] at hF
  have e3 : pre.length + (name.length + 1 + s0.length) + (tailB tl).length + e.length = pre.length + (name.length + 1 + s0.length + (tailB tl).length + e.length) := by omega
  rw [e3] at hF
  exact hF
/-- a head is read -/
theorem spans_lemma {stop body : Nat} {rest : List UInt8} : ∀ (gs : List G) (pre : List UInt8), (∀ g ∈ gs, GOk g) → pre.length + (headB gs).length ≤ stop → stop ≤ (pre ++ headB gs ++ rest).length →
    ¬ (pre.length + (headB gs).length < stop ∧ isW ((pre ++ headB gs ++ rest).getD (pre.length + (headB gs).length) 0) = true) → Spans (pre ++ headB gs ++ rest) stop (pre.length + (headB gs).length) [] body →
    Spans (pre ++ headB gs ++ rest) stop pre.length (dueOf pre.length gs) body
  | [], pre, _, _, _, _, h => by simpa [headB, dueOf] using h
  | g :: gs, pre, hg, h1, h2, hn, h => by
    have eq : pre ++ headB (g :: gs) ++ rest = (pre ++ wholeB g) ++ headB gs ++ rest := by rw [headB_cons]; simp
    have eq' : pre ++ headB (g :: gs) ++ rest = pre ++ wholeB g ++ (headB gs ++ rest) := by rw [headB_cons]; simp
    have hl : (headB (g :: gs)).length = (wholeB g).length + (headB gs).length := by rw [headB_cons, List.length_append]
    have hl2 : (pre ++ wholeB g).length = pre.length + (wholeB g).length := List.length_append
    have hl3 : pre.length + (headB (g :: gs)).length = (pre ++ wholeB g).length + (headB gs).length := by rw [hl, hl2]; omega
    rw [hl3, eq] at hn h
    rw [hl3] at h1
    rw [eq] at h2
    have ih := spans_lemma gs (pre ++ wholeB g) (fun x hx => hg x (.tail _ hx)) h1 h2 hn h
    rw [← eq, hl2] at ih
    rw [dueOf]
    rw [← eq, eq'] at h2
    rw [eq'] at ih ⊢
    refine field_lemma (hg g (.head _)) (by rw [hl2] at h1; omega) h2 ?_ ih
    rintro ⟨q1, q2⟩
    rw [← eq', eq, ← hl2] at q2
    rw [← hl2] at q1
    cases gs with
    | nil => exact hn ⟨by simpa [headB] using q1, by simpa [headB] using q2⟩
    | cons g2 gs2 =>
      obtain ⟨c, r, hc, hw⟩ := name_head (hg g2 (by simp)).1
      have e4 : headB (g2 :: gs2) = c :: (r ++ [58] ++ g2.2.1 ++ g2.2.2 ++ headB gs2) := by rw [headB_cons]; simp [wholeB, hc]
      rw [List.append_assoc, List.getD_eq_getElem?_getD, List.getElem?_append_right (Nat.le_refl _), Nat.sub_self, e4] at q2
      simp only [List.cons_append, List.getElem?_cons_zero, Option.getD_some] at q2
      rw [hw] at q2; cases q2
theorem slices_lemma {rest : List UInt8} : ∀ (gs : List G) (pre : List UInt8), ((dueOf pre.length gs).map fun s => sliceB (pre ++ headB gs ++ rest) s.2.2.1 s.2.2.2).flatten = headB gs
  | [], pre => by simp [dueOf, headB]
  | g :: gs, pre => by
    have eq : pre ++ headB (g :: gs) ++ rest = (pre ++ wholeB g) ++ headB gs ++ rest := by rw [headB_cons]; simp
    have eq' : pre ++ headB (g :: gs) ++ rest = pre ++ wholeB g ++ (headB gs ++ rest) := by rw [headB_cons]; simp
    have ih := slices_lemma (rest := rest) gs (pre ++ wholeB g)
    rw [← eq, List.length_append] at ih
    rw [dueOf, List.map_cons, List.flatten_cons, ih]
    dsimp only
    rw [eq', slice_at, headB_cons]
theorem rows_lemma : ∀ (tl : List (List UInt8 × List UInt8)) (P s : List UInt8), NoLF s → (∀ p ∈ tl, EndOk p.1 ∧ SegOk p.2) → RowsOf (P ++ s ++ tailB tl) P.length (s :: tl.map (·.2))
  | [], P, s, hs, _ => by
    have e : P ++ s ++ tailB [] = P ++ s := by simp [tailB]
    rw [e]
    have hf : findAt (P ++ s) 10 P.length (P ++ s).length = none := findAt_none fun i i1 i2 => by
      rw [List.getElem?_append_right i1]
      intro h
      exact hs.1 (List.mem_of_getElem? h)
    have hl : lineAt (P ++ s) P.length (P ++ s).length = ((P ++ s).length, (P ++ s).length) := by unfold lineAt; rw [hf]
    have := RowsOf.last (b := P ++ s) (a := P.length) (by simp) hl rfl
    have hs : sliceB (P ++ s) P.length (P ++ s).length = s := by
      have := slice_at (P := P) (s := s) (rest := [])
      rw [List.append_nil] at this
      rw [List.length_append]; exact this
    rw [hs] at this
    exact this
  | (e1, s1) :: tl, P, s, hs, h => by
    obtain ⟨g1, g2⟩ := h (e1, s1) (.head _)
    dsimp only at g1 g2
    have hp := g1.pos
    have eq1 : P ++ s ++ tailB ((e1, s1) :: tl) = P ++ s ++ e1 ++ (s1 ++ tailB tl) := by rw [tailB_cons]; simp
    have eq2 : P ++ s ++ tailB ((e1, s1) :: tl) = (P ++ s ++ e1) ++ s1 ++ tailB tl := by rw [tailB_cons]; simp
    have ih := rows_lemma tl (P ++ s ++ e1) s1 g2.1 fun p hp => h p (.tail _ hp)
    rw [← eq2] at ih
    have hlen : (P ++ s ++ tailB ((e1, s1) :: tl)).length = P.length + s.length + e1.length + (s1 ++ tailB tl).length := by rw [eq1]; simp only [List.length_append]
    have hl := line_lemma (pre := P) (seg := s) (e := e1) (rest := s1 ++ tailB tl) (stop := (P ++ s ++ tailB ((e1, s1) :: tl)).length) hs g1 (by omega)
    rw [← eq1] at hl
    have e3 : (P ++ s ++ e1).length = P.length + s.length + e1.length := by simp only [List.length_append]
    rw [e3] at ih
    have := RowsOf.more (b := P ++ s ++ tailB ((e1, s1) :: tl)) (a := P.length) (by omega) hl (by omega) ih
    have hsl : sliceB (P ++ s ++ tailB ((e1, s1) :: tl)) P.length (P.length + s.length) = s := slice_at
    rw [hsl] at this
    exact this
/-- a field of the law's -/
noncomputable def GoodR (r : List UInt8 × List UInt8) : Prop := NameOk r.1 ∧ RawOk r.2 ∧ r.2.length ≤ 200
theorem tailB_mem : ∀ {tl : List (List UInt8 × List UInt8)} {p}, p ∈ tl → p.2.length ≤ (tailB tl).length
  | q :: tl, p, h => by
    rw [tailB_cons, List.length_append, List.length_append]
    rcases List.mem_cons.mp h with rfl | h
    · omega
    · have := tailB_mem h; omega
theorem tailB_count : ∀ {tl : List (List UInt8 × List UInt8)}, (∀ p ∈ tl, EndOk p.1 ∧ SegOk p.2) → tl.length ≤ (tailB tl).length
  | [], _ => by simp
  | q :: tl, h => by
    have := tailB_count fun p hp => h p (.tail _ hp)
    have := (h q (.head _)).1.pos
    rw [tailB_cons, List.length_append, List.length_append, List.length_cons]; omega
theorem sound_of {r : List UInt8 × List UInt8} (h : GoodR r) : Sound r := by
  obtain ⟨h1, ⟨s0, tl, hraw, hs0, htl⟩, h3⟩ := h
  have hR := rows_lemma tl [] s0 hs0 htl
  rw [List.nil_append, ← hraw] at hR
  have hc := tailB_count htl
  have hl : r.2.length = s0.length + (tailB tl).length := by rw [hraw, List.length_append]
  refine ⟨h1.1, by have := h1.2; omega, by omega, _, hR, by simp; omega, ?_, ?_⟩
  · rw [List.tail_cons, List.all_eq_true]
    intro s hs
    obtain ⟨p, hp, rfl⟩ := List.mem_map.mp hs
    exact (htl p hp).2.2
  · intro s hs
    rcases List.mem_cons.mp hs with rfl | hs
    · omega
    · obtain ⟨p, hp, rfl⟩ := List.mem_map.mp hs
      have := tailB_mem hp
      omega
theorem end_not_white {e : List UInt8} (h : EndOk e) : ∃ c r, e = c :: r ∧ isW c = false := by
  rcases h with rfl | rfl
  · exact ⟨13, [10], rfl, rfl⟩
  · exact ⟨10, [], rfl, rfl⟩
/-- an empty row ends the head -/
theorem spans_empty {pre e rest : List UInt8} {stop : Nat} (he : EndOk e) (h : pre.length + e.length ≤ stop) : Spans (pre ++ e ++ rest) stop pre.length [] (pre.length + e.length) := by
  have hl := line_lemma (pre := pre) (seg := []) (e := e) (rest := rest) (stop := stop) (by decide) he (by simpa using h)
  have e1 : pre ++ [] ++ e ++ rest = pre ++ e ++ rest := by simp
  rw [e1] at hl
  simp only [List.length_nil, Nat.add_zero] at hl
  exact .empty (by have := he.pos; omega) hl
/-- the law's head, with an empty row behind -/
theorem spans_open {pre e rest : List UInt8} {gs : List G} (hg : ∀ g ∈ gs, GOk g) (he : EndOk e) :
    Spans (pre ++ headB gs ++ (e ++ rest)) (pre ++ headB gs ++ (e ++ rest)).length pre.length (dueOf pre.length gs) (pre.length + (headB gs).length + e.length) := by
  have hpe := he.pos
  refine spans_lemma gs pre hg (by simp only [List.length_append]; omega) (Nat.le_refl _) ?_ ?_
  · rintro ⟨_, q⟩
    obtain ⟨c, r, hc, hw⟩ := end_not_white he
    have e1 : pre.length + (headB gs).length = (pre ++ headB gs).length := by simp
    rw [e1, List.getD_eq_getElem?_getD, List.getElem?_append_right (Nat.le_refl _), Nat.sub_self, hc] at q
    simp only [List.cons_append, List.getElem?_cons_zero, Option.getD_some] at q
    rw [hw] at q; cases q
  · have := spans_empty (pre := pre ++ headB gs) (rest := rest) (stop := (pre ++ headB gs ++ (e ++ rest)).length) he (by simp only [List.length_append]; omega)
    have e1 : (pre ++ headB gs).length = pre.length + (headB gs).length := List.length_append
    rw [List.append_assoc (pre ++ headB gs), e1] at this
    exact this
/-- the law's head, cut behind its last field -/
theorem spans_cut {pre rest : List UInt8} {gs : List G} (hg : ∀ g ∈ gs, GOk g) :
    Spans (pre ++ headB gs ++ rest) (pre.length + (headB gs).length) pre.length (dueOf pre.length gs) (pre.length + (headB gs).length) :=
  spans_lemma gs pre hg (Nat.le_refl _) (by simp only [List.length_append]; omega) (fun h => Nat.lt_irrefl _ h.1) .stop
theorem readback_of {rows : List (List UInt8 × List UInt8)} (h : ∀ r ∈ rows, GoodR r) : ReadBack rows := by
  have hgs : ∀ g ∈ rows.map (fun r => ((r.1, r.2, [13, 10]) : G)), GOk g := fun g hg => by
    obtain ⟨r, hr, rfl⟩ := List.mem_map.mp hg
    exact ⟨(h r hr).1, (h r hr).2.1, .inl rfl⟩
  have hhead : headB (rows.map (fun r => ((r.1, r.2, [13, 10]) : G))) = (rows.map octB).flatten := by
    unfold headB
    rw [List.map_map]; rfl
  have hS := spans_open (pre := []) (e := [13, 10]) (rest := [116, 111, 58, 32, 98]) hgs (.inl rfl)
  rw [hhead, List.nil_append] at hS
  refine ⟨dueOf 0 (rows.map (fun r => ((r.1, r.2, [13, 10]) : G))), ?_, ?_⟩
  rotate_left
  · have e : (rows.map octB).flatten ++ ([13, 10] ++ [116, 111, 58, 32, 98]) = (rows.map octB).flatten ++ [13, 10, 116, 111, 58, 32, 98] := rfl
    rw [e] at hS
    simp only [List.length_nil, Nat.zero_add] at hS
    exact hS
  · have := dueOf_pairs (rows.map (fun r => ((r.1, r.2, [13, 10]) : G))) 0
    rw [List.map_map] at this
    refine this.trans ?_
    show rows.map (fun r => (r.1, r.2)) = rows
    simp
theorem flatW_cons (q : List UInt8 × List UInt8) (r) : flatW (q :: r) = q.1 ++ q.2 ++ flatW r := by simp [flatW]
theorem white_head {s : List UInt8} (h : WhiteOk s) : ∃ c r, s = c :: r ∧ isW c = true := by
  obtain ⟨h1, h2, _⟩ := h
  cases s with
  | nil => exact absurd rfl h1
  | cons c r => exact ⟨c, r, rfl, by simp only [List.all_cons, Bool.and_eq_true] at h2; exact h2.1⟩
theorem word_head {s : List UInt8} (h : WordOk s) : ∃ c r, s = c :: r ∧ isW c = false := by
  obtain ⟨h1, h2, _⟩ := h
  cases s with
  | nil => exact absurd rfl h1
  | cons c r => exact ⟨c, r, rfl, by simp only [List.all_cons, Bool.and_eq_true, Bool.not_eq_true'] at h2; exact h2.1⟩
theorem run_lemma {P s rest : List UInt8} {p : UInt8 → Bool} (hs : s.all p = true) (hr : rest = [] ∨ ∃ c r, rest = c :: r ∧ p c = false) : Run (P ++ s ++ rest) p P.length (P.length + s.length) := by
  refine ⟨by omega, by simp only [List.length_append]; omega, fun i h1 h2 => ?_, ?_⟩
  · rw [List.getD_eq_getElem?_getD, getElem?_mid h1 h2]
    have hlt : i - P.length < s.length := by omega
    rw [List.getElem?_eq_getElem hlt]
    exact List.all_eq_true.mp hs _ (List.getElem_mem hlt)
  · rcases hr with rfl | ⟨c, r, rfl, hc⟩
    · left; simp
    · right
      have e : P.length + s.length = (P ++ s).length := by simp
      rw [e, List.getD_eq_getElem?_getD, List.getElem?_append_right (Nat.le_refl _), Nat.sub_self]
      exact hc
theorem flatW_next {r : List (List UInt8 × List UInt8)} (h : ∀ p ∈ r, WhiteOk p.1 ∧ WordOk p.2) : flatW r = [] ∨ ∃ c t, flatW r = c :: t ∧ (fun c => !isW c) c = false := by
  cases r with
  | nil => left; rfl
  | cons q r =>
    obtain ⟨c, t, hc, hw⟩ := white_head (h q (.head _)).1
    right
    exact ⟨c, t ++ q.2 ++ flatW r, by rw [flatW_cons, hc]; simp, by simp [hw]⟩
theorem pieces_tail : ∀ (r : List (List UInt8 × List UInt8)) (P : List UInt8), (∀ p ∈ r, WhiteOk p.1 ∧ WordOk p.2) → Pieces (P ++ flatW r) P.length (r.map fun q => q.1 ++ q.2)
  | [], P, _ => by
    have e : P ++ flatW [] = P := by simp [flatW]
    rw [e]; exact .nil
  | q :: r, P, h => by
    obtain ⟨g1, g2⟩ := h q (.head _)
    have ih := pieces_tail r (P ++ q.1 ++ q.2) fun p hp => h p (.tail _ hp)
    have eq1 : P ++ flatW (q :: r) = P ++ q.1 ++ (q.2 ++ flatW r) := by rw [flatW_cons]; simp
    have eq2 : P ++ flatW (q :: r) = (P ++ q.1) ++ q.2 ++ flatW r := by rw [flatW_cons]; simp
    obtain ⟨c, t, hc, hw⟩ := word_head g2
    have r1 := run_lemma (P := P) (s := q.1) (rest := q.2 ++ flatW r) (p := isW) g1.2.1 (.inr ⟨c, t ++ flatW r, by rw [hc]; rfl, hw⟩)
    have r2 := run_lemma (P := P ++ q.1) (s := q.2) (rest := flatW r) (p := fun c => !isW c) g2.2.1 (flatW_next fun p hp => h p (.tail _ hp))
    rw [← eq1] at r1
    rw [← eq2] at r2 ih
    have hl : (P ++ q.1).length = P.length + q.1.length := List.length_append
    have hl2 : (P ++ q.1 ++ q.2).length = P.length + q.1.length + q.2.length := by simp only [List.length_append]
    rw [hl] at r2
    rw [hl2] at ih
    have hne : 0 < q.1.length := by obtain ⟨c, t, hc, _⟩ := white_head g1; rw [hc]; simp
    have := Pieces.cons (b := P ++ flatW (q :: r)) (a := P.length) (by rw [eq1]; simp only [List.length_append]; omega) r1 r2 ih
    have hsl : sliceB (P ++ flatW (q :: r)) P.length (P.length + q.1.length + q.2.length) = q.1 ++ q.2 := by
      have h3 := slice_at (P := P) (s := q.1 ++ q.2) (rest := flatW r)
      rw [List.length_append, ← Nat.add_assoc] at h3
      have : P ++ (q.1 ++ q.2) ++ flatW r = P ++ flatW (q :: r) := by rw [flatW_cons]; simp
      rw [this] at h3; exact h3
    rw [hsl] at this
    exact this
/-- the pieces that the code finds -/
noncomputable def psOf : List (List UInt8 × List UInt8) → List (List UInt8)
  | [] => []
  | q :: r => q.2 :: r.map fun q => q.1 ++ q.2
theorem mores_psOf (ws) : mores (psOf ws) = somes ws := by cases ws <;> rfl
noncomputable def midB : List (List UInt8 × List UInt8) → List UInt8
  | [] => []
  | q :: r => q.2 ++ flatW r
theorem pieces_psOf : ∀ (ws : List (List UInt8 × List UInt8)), (∀ p ∈ ws, WhiteOk p.1 ∧ WordOk p.2) → Pieces (midB ws) 0 (psOf ws)
  | [], _ => .nil
  | q :: r, h => by
    obtain ⟨g1, g2⟩ := h q (.head _)
    have hr : ∀ p ∈ r, WhiteOk p.1 ∧ WordOk p.2 := fun p hp => h p (.tail _ hp)
    have ih := pieces_tail r q.2 hr
    obtain ⟨c, t, hc, hw⟩ := word_head g2
    have r1 : Run (q.2 ++ flatW r) isW 0 0 := by
      have := run_lemma (P := []) (s := []) (rest := q.2 ++ flatW r) (p := isW) rfl (.inr ⟨c, t ++ flatW r, by rw [hc]; rfl, hw⟩)
      simpa using this
    have r2 : Run (q.2 ++ flatW r) (fun c => !isW c) 0 q.2.length := by
      have := run_lemma (P := []) (s := q.2) (rest := flatW r) (p := fun c => !isW c) g2.2.1 (flatW_next hr)
      simpa using this
    have := Pieces.cons (b := q.2 ++ flatW r) (a := 0) (by rw [hc]; simp) r1 r2 ih
    have hsl : sliceB (q.2 ++ flatW r) 0 q.2.length = q.2 := by
      have := slice_at (P := []) (s := q.2) (rest := flatW r)
      simpa using this
    rw [hsl] at this
    exact this
theorem dropW_all {a b : List UInt8} (h : a.all isW = true) : (a ++ b).dropWhile isW = b.dropWhile isW := by
  induction a with
  | nil => rfl
  | cons c a ih =>
    simp only [List.all_cons, Bool.and_eq_true] at h
    rw [List.cons_append, List.dropWhile_cons, if_pos h.1, ih h.2]
theorem drop_head {c : UInt8} {r : List UInt8} (h : isW c = false) : (c :: r).dropWhile isW = c :: r := by
  rw [List.dropWhile_cons, if_neg (by rw [h]; exact Bool.false_ne_true)]
theorem flatW_last : ∀ (r : List (List UInt8 × List UInt8)) (u : List UInt8), WordOk u → (∀ p ∈ r, WhiteOk p.1 ∧ WordOk p.2) → ∃ c t, (u ++ flatW r).reverse = c :: t ∧ isW c = false
  | [], u, hu, _ => by
    have e : flatW [] = [] := rfl
    rw [e, List.append_nil]
    have hne : u.reverse ≠ [] := by simpa using hu.1
    cases hr : u.reverse with
    | nil => exact absurd hr hne
    | cons c t =>
      refine ⟨c, t, rfl, ?_⟩
      have hm : c ∈ u := by rw [← List.mem_reverse, hr]; exact .head _
      have := List.all_eq_true.mp hu.2.1 c hm
      simpa using this
  | q :: r, u, hu, h => by
    obtain ⟨c, t, hc, hw⟩ := flatW_last r q.2 (h q (.head _)).2 fun p hp => h p (.tail _ hp)
    refine ⟨c, t ++ (u ++ q.1).reverse, ?_, hw⟩
    rw [flatW_cons]
    have : u ++ (q.1 ++ q.2 ++ flatW r) = (u ++ q.1) ++ (q.2 ++ flatW r) := by simp
    rw [this, List.reverse_append, hc]; rfl
theorem strip_made {ws : List (List UInt8 × List UInt8)} {tail : List UInt8} (h : ∀ p ∈ ws, WhiteOk p.1 ∧ WordOk p.2) (ht : tail.all isW = true) : stripW (flatW ws ++ tail) = midB ws := by
  unfold stripW
  cases ws with
  | nil =>
    have e : flatW [] ++ tail = tail ++ [] := by simp [flatW]
    rw [e, dropW_all ht]; rfl
  | cons q r =>
    obtain ⟨g1, g2⟩ := h q (.head _)
    have hr : ∀ p ∈ r, WhiteOk p.1 ∧ WordOk p.2 := fun p hp => h p (.tail _ hp)
    obtain ⟨c, t, hc, hw⟩ := word_head g2
    have e1 : flatW (q :: r) ++ tail = q.1 ++ (q.2 ++ flatW r ++ tail) := by rw [flatW_cons]; simp
    have e2 : (q.2 ++ flatW r ++ tail).dropWhile isW = q.2 ++ flatW r ++ tail := by
      rw [hc]; exact drop_head hw
    rw [e1, dropW_all g1.2.1, e2, List.reverse_append, dropW_all (by rw [List.all_reverse]; exact ht)]
    obtain ⟨c2, t2, hc2, hw2⟩ := flatW_last r q.2 g2 hr
    rw [hc2, drop_head hw2, ← hc2, List.reverse_reverse]; rfl
/-- the two ways to fold are one -/
noncomputable def preHead (name : List UInt8) : List (List UInt8) → List (List UInt8)
  | [] => []
  | r0 :: rest => (name ++ [58] ++ r0) :: rest
noncomputable def Sim (name : List UInt8) (st : List (List UInt8) × List UInt8) (lt : List (List UInt8) × List UInt8 × Nat) : Prop :=
  lt.2.2 = st.2.length ∧ ((lt.1 = [] ∧ st.1 = [] ∧ st.2 = name ++ [58] ++ lt.2.1) ∨ ∃ d ds, lt.1 = d :: ds ∧ st.1 = (name ++ [58] ++ d) :: ds ∧ st.2 = lt.2.1)
theorem sim_step {name : List UInt8} {width : Nat} {st lt} (x : List UInt8) (h : Sim name st lt) : Sim name (foldStep width st x) (lawStep width lt x) := by
  obtain ⟨h1, h2⟩ := h
  unfold foldStep lawStep
  rw [h1]
  by_cases hw : st.2.length + x.length > width
  · rw [if_pos hw, if_pos hw]
    refine ⟨rfl, .inr ?_⟩
    rcases h2 with ⟨a, b, c⟩ | ⟨d, ds, a, b, c⟩
    · exact ⟨lt.2.1, [], by rw [a]; rfl, by rw [b, c]; rfl, rfl⟩
    · exact ⟨d, ds ++ [lt.2.1], by rw [a]; rfl, by rw [b, c]; rfl, rfl⟩
  · rw [if_neg hw, if_neg hw]
    refine ⟨by simp, ?_⟩
    rcases h2 with ⟨a, b, c⟩ | ⟨d, ds, a, b, c⟩
    · exact .inl ⟨a, b, by dsimp only; rw [c]; simp⟩
    · exact .inr ⟨d, ds, a, b, by dsimp only; rw [c]⟩
theorem sim_fold {name : List UInt8} {width : Nat} : ∀ (l : List (List UInt8)) (st lt), Sim name st lt → Sim name (l.foldl (foldStep width) st) (l.foldl (lawStep width) lt)
  | [], st, lt, h => h
  | x :: l, st, lt, h => by
    rw [List.foldl_cons, List.foldl_cons]
    exact sim_fold l _ _ (sim_step x h)
theorem folded_eq (name : List UInt8) (ws : List (List UInt8 × List UInt8)) (width : Nat) : foldedB name (psOf ws) width = preHead name (lawRows name (somes ws) width) := by
  unfold foldedB lawRows
  rw [mores_psOf]
  dsimp only
  have h := sim_fold (name := name) (width := width) (somes ws) ([], name ++ [58]) ([], [], name.length + 1) ⟨by simp, .inl ⟨rfl, rfl, by simp⟩⟩
  obtain ⟨_, ⟨a, b, c⟩ | ⟨d, ds, a, b, c⟩⟩ := h
  · rw [a, b, c]; rfl
  · rw [a, b, c]; rfl
theorem join_preHead (name : List UInt8) : ∀ l : List (List UInt8), l ≠ [] → bjoin [13, 10] (preHead name l) = name ++ [58] ++ bjoin [13, 10] l
  | [], h => absurd rfl h
  | r0 :: rest, _ => by
    rw [preHead, bjoin_flat, bjoin_flat]; simp
theorem lawRows_ne (name some width) : lawRows name some width ≠ [] := by unfold lawRows; simp
theorem folded_join (name : List UInt8) (ws : List (List UInt8 × List UInt8)) (width : Nat) : bjoin [13, 10] (foldedB name (psOf ws) width) = name ++ [58] ++ bjoin [13, 10] (lawRows name (somes ws) width) := by
  rw [folded_eq, join_preHead _ _ (lawRows_ne _ _ _)]
/-- what is folded can stand -/
theorem somes_seg {ws : List (List UInt8 × List UInt8)} (h : ∀ p ∈ ws, WhiteOk p.1 ∧ WordOk p.2) : ∀ s ∈ somes ws, SegOk s := by
  have hq : ∀ q : List UInt8 × List UInt8, WhiteOk q.1 ∧ WordOk q.2 → SegOk (q.1 ++ q.2) := fun q ⟨g1, g2⟩ => by
    obtain ⟨c, t, hc, hw⟩ := white_head g1
    refine ⟨nolf_append ⟨fun hm => ?_, fun hm => ?_⟩ g2.2.2.1, by rw [hc]; exact hw⟩
    · exact absurd (List.all_eq_true.mp g1.2.1 _ hm) (by decide)
    · exact absurd (List.all_eq_true.mp g1.2.1 _ hm) (by decide)
  cases ws with
  | nil => intro s hs; cases hs
  | cons q r =>
    intro s hs
    rcases List.mem_cons.mp hs with rfl | hs
    · exact ⟨nolf_append (a := [32]) (by decide) (h q (.head _)).2.2.2.1, rfl⟩
    · obtain ⟨p, hp, rfl⟩ := List.mem_map.mp hs
      exact hq p (h p (.tail _ hp))
noncomputable def LawInv (lt : List (List UInt8) × List UInt8 × Nat) : Prop := (lt.1 = [] ∧ NoLF lt.2.1) ∨ ∃ d ds, lt.1 = d :: ds ∧ NoLF d ∧ (∀ s ∈ ds, SegOk s) ∧ SegOk lt.2.1
theorem seg_append {a b : List UInt8} (ha : SegOk a) (hb : NoLF b) : SegOk (a ++ b) := by
  obtain ⟨c, t, hc, hw⟩ := okRow_head ha.2
  exact ⟨nolf_append ha.1 hb, by rw [hc]; exact hw⟩
theorem law_step_inv {width : Nat} {lt} {x : List UInt8} (hx : SegOk x) (h : LawInv lt) : LawInv (lawStep width lt x) := by
  unfold lawStep
  split
  · refine .inr ?_
    rcases h with ⟨a, b⟩ | ⟨d, ds, a, b, c, e⟩
    · exact ⟨lt.2.1, [], by rw [a]; rfl, b, (fun s hs => nomatch hs), hx⟩
    · refine ⟨d, ds ++ [lt.2.1], by rw [a]; rfl, b, fun s hs => ?_, hx⟩
      rcases List.mem_append.mp hs with hs | hs
      · exact c s hs
      · rw [List.mem_singleton.mp hs]; exact e
  · rcases h with ⟨a, b⟩ | ⟨d, ds, a, b, c, e⟩
    · exact .inl ⟨a, nolf_append b hx.1⟩
    · exact .inr ⟨d, ds, a, b, c, seg_append e hx.1⟩
theorem law_fold_inv {width : Nat} : ∀ (l : List (List UInt8)) (lt), (∀ s ∈ l, SegOk s) → LawInv lt → LawInv (l.foldl (lawStep width) lt)
  | [], _, _, h => h
  | x :: l, lt, hs, h => by
    rw [List.foldl_cons]
    exact law_fold_inv l _ (fun s h => hs s (.tail _ h)) (law_step_inv (hs x (.head _)) h)
theorem join_tail (d : List UInt8) (l : List (List UInt8)) : bjoin [13, 10] (d :: l) = d ++ tailB (l.map fun s => ([13, 10], s)) := by
  rw [bjoin_flat]
  unfold tailB
  rw [List.map_map]; rfl
theorem lawRows_raw {name : List UInt8} {some : List (List UInt8)} {width : Nat} (h : ∀ s ∈ some, SegOk s) : RawOk (bjoin [13, 10] (lawRows name some width)) := by
  have hi := law_fold_inv (width := width) some ([], [], name.length + 1) h (.inl ⟨rfl, (by decide : NoLF [])⟩)
  have mk : ∀ d l, NoLF d → (∀ s ∈ l, SegOk s) → RawOk (bjoin [13, 10] (d :: l)) := fun d l hd hl =>
    ⟨d, l.map fun s => ([13, 10], s), join_tail d l, hd, fun p hp => by
      obtain ⟨s, hs, rfl⟩ := List.mem_map.mp hp
      exact ⟨.inl rfl, hl s hs⟩⟩
  unfold lawRows
  dsimp only
  rcases hi with ⟨a, b⟩ | ⟨d, ds, a, b, c, e⟩
  · rw [a]; exact mk _ [] b fun s hs => nomatch hs
  · rw [a]
    refine mk d (ds ++ [_]) b fun s hs => ?_
    rcases List.mem_append.mp hs with hs | hs
    · exact c s hs
    · rw [List.mem_singleton.mp hs]; exact e
theorem lawRows_len {name : List UInt8} {some : List (List UInt8)} {width : Nat} : (bjoin [13, 10] (lawRows name some width)).length ≤ sumL some + 2 * (some.length + 1) := by
  have h1 := bjoin_len [13, 10] (lawRows name some width)
  have h2 := lawFold_sum width some ([], [], name.length + 1)
  have e0 : sumL (([] : List (List UInt8)), ([] : List UInt8), name.length + 1).1 + (([] : List (List UInt8)), ([] : List UInt8), name.length + 1).2.1.length = 0 := rfl
  have e0' : (([] : List (List UInt8)), ([] : List UInt8), name.length + 1).1.length = 0 := rfl
  rw [e0, e0'] at h2
  have e1 : sumL (lawRows name some width) = sumL (some.foldl (lawStep width) ([], [], name.length + 1)).1 + (some.foldl (lawStep width) ([], [], name.length + 1)).2.1.length := by unfold lawRows; rw [sumL_append, sumL_one]
  have e2 : (lawRows name some width).length = (some.foldl (lawStep width) ([], [], name.length + 1)).1.length + 1 := by unfold lawRows; simp
  have e3 : [(13 : UInt8), 10].length = 2 := rfl
  rw [e3] at h1
  omega
theorem made_good {name : List UInt8} {width : Nat} {ws tail} (h : MadeOk name width ws tail) : GoodR (name, bjoin [13, 10] (lawRows name (somes ws) width)) := by
  obtain ⟨h1, h2, h3, h4, h5, h6, h7⟩ := h
  refine ⟨h1, lawRows_raw (somes_seg h4), ?_⟩
  have a := lawRows_len (name := name) (some := somes ws) (width := width)
  have b := sumL_somes ws h4
  dsimp only
  omega
noncomputable abbrev R2 := List UInt8 × List UInt8
noncomputable def same (nr r : R2) : Bool := smallB r.1 == smallB nr.1
/-- the first one's place is taken, the others go -/
noncomputable def putF (nr : R2) : List R2 → Option (List R2)
  | [] => none
  | q :: l => if same nr q then some (nr :: l.filter fun r => !same nr r) else (putF nr l).map (q :: ·)
theorem split_first (nr : R2) : ∀ rows : List R2, (∀ r ∈ rows, same nr r = false) ∨ ∃ pre q post, rows = pre ++ q :: post ∧ (∀ r ∈ pre, same nr r = false) ∧ same nr q = true
  | [] => .inl fun r h => nomatch h
  | q :: l => by
    cases hq : same nr q with
    | true => exact .inr ⟨[], q, l, rfl, (fun r h => nomatch h), hq⟩
    | false =>
      rcases split_first nr l with h | ⟨pre, x, post, h1, h2, h3⟩
      · left
        intro r hr
        rcases List.mem_cons.mp hr with rfl | hr
        · exact hq
        · exact h r hr
      · right
        refine ⟨q :: pre, x, post, by rw [h1]; rfl, fun r hr => ?_, h3⟩
        rcases List.mem_cons.mp hr with rfl | hr
        · exact hq
        · exact h2 r hr
theorem fold_none {nr : R2} : ∀ (l acc : List R2) (b : Bool), (∀ r ∈ l, same nr r = false) → l.foldl (withStep nr) (acc, b) = (acc ++ l, b)
  | [], acc, b, _ => by simp
  | q :: l, acc, b, h => by
    have hq : smallB q.1 ≠ smallB nr.1 := by
      have := h q (.head _)
      unfold same at this
      simpa using this
    have e : withStep nr (acc, b) q = (acc ++ [q], b) := by unfold withStep; rw [if_pos hq]
    rw [List.foldl_cons, e, fold_none l _ b fun r hr => h r (.tail _ hr)]; simp
theorem fold_true {nr : R2} : ∀ (l acc : List R2), l.foldl (withStep nr) (acc, true) = (acc ++ l.filter fun r => !same nr r, true)
  | [], acc => by simp
  | q :: l, acc => by
    rw [List.foldl_cons]
    cases hq : same nr q with
    | true =>
      have hq' : ¬ smallB q.1 ≠ smallB nr.1 := by unfold same at hq; simpa using hq
      have e : withStep nr (acc, true) q = (acc, true) := by unfold withStep; rw [if_neg hq', if_neg (by simp)]
      rw [e, fold_true l, List.filter_cons, if_neg (by simp [hq])]
    | false =>
      have hq' : smallB q.1 ≠ smallB nr.1 := by unfold same at hq; simpa using hq
      have e : withStep nr (acc, true) q = (acc ++ [q], true) := by unfold withStep; rw [if_pos hq']
      rw [e, fold_true l, List.filter_cons, if_pos (by simp [hq])]; simp
theorem withF_none {nr : R2} {rows : List R2} (h : ∀ r ∈ rows, same nr r = false) : withF rows nr = rows ++ [nr] := by
  unfold withF
  rw [fold_none rows [] false h]; simp
theorem withF_some {nr q : R2} {pre post : List R2} (h1 : ∀ r ∈ pre, same nr r = false) (h2 : same nr q = true) : withF (pre ++ q :: post) nr = pre ++ nr :: post.filter fun r => !same nr r := by
  unfold withF
  have hq' : ¬ smallB q.1 ≠ smallB nr.1 := by unfold same at h2; simpa using h2
  have e : withStep nr (pre, false) q = (pre ++ [nr], true) := by unfold withStep; rw [if_neg hq', if_pos rfl]
  rw [List.foldl_append, fold_none pre [] false h1, List.nil_append, List.foldl_cons, e, fold_true]
  simp
theorem getD_pre {pre post : List R2} {q : R2} {i : Nat} (h : i < pre.length) : (pre ++ q :: post).getD i d0 = pre.getD i d0 := by
  rw [List.getD_eq_getElem?_getD, List.getD_eq_getElem?_getD, List.getElem?_append_left h]
theorem getD_mid {pre post : List R2} {q : R2} : (pre ++ q :: post).getD pre.length d0 = q := by
  rw [List.getD_eq_getElem?_getD, List.getElem?_append_right (Nat.le_refl _), Nat.sub_self]; rfl
theorem getD_post {pre post : List R2} {q : R2} {i : Nat} : (pre ++ q :: post).getD (pre.length + 1 + i) d0 = post.getD i d0 := by
  rw [List.getD_eq_getElem?_getD, List.getD_eq_getElem?_getD, List.getElem?_append_right (by omega)]
  have : pre.length + 1 + i - pre.length = i + 1 := by omega
  rw [this, List.getElem?_cons_succ]
theorem range_split (a b : Nat) : List.range (a + 1 + b) = List.range a ++ a :: (List.range b).map (a + 1 + ·) := by
  rw [List.range_add, List.range_succ]; simp
theorem lawWith_eq (rows : List R2) (nr : R2) : lawWith rows nr = withF rows nr := by
  rcases split_first nr rows with h | ⟨pre, q, post, rfl, h1, h2⟩
  · rw [withF_none h]
    have hp : placesOf rows (smallB nr.1) = [] := by
      unfold placesOf
      rw [List.filter_eq_nil_iff]
      intro i hi
      have := h _ (List.mem_of_getElem? (getD_of (List.mem_range.mp hi)))
      unfold same at this
      rw [this]; exact Bool.false_ne_true
    unfold lawWith
    rw [hp]
  · rw [withF_some h1 h2]
    have hlen : (pre ++ q :: post).length = pre.length + 1 + post.length := by simp; omega
    have hsame : ∀ i, (smallB ((pre ++ q :: post).getD i d0).1 == smallB nr.1) = same nr ((pre ++ q :: post).getD i d0) := fun _ => rfl
    have hpre : ∀ i, i < pre.length → same nr ((pre ++ q :: post).getD i d0) = false := fun i hi => by
      rw [getD_pre hi]; exact h1 _ (List.mem_of_getElem? (getD_of hi))
    have hp : placesOf (pre ++ q :: post) (smallB nr.1) = pre.length :: ((List.range post.length).filter fun i => same nr (post.getD i d0)).map (pre.length + 1 + ·) := by
      unfold placesOf
      rw [hlen, range_split, List.filter_append, List.filter_cons]
      have a : (List.range pre.length).filter (fun i => smallB ((pre ++ q :: post).getD i d0).1 == smallB nr.1) = [] := by
        rw [List.filter_eq_nil_iff]
        intro i hi
        rw [hsame, hpre i (List.mem_range.mp hi)]; exact Bool.false_ne_true
      rw [a, List.nil_append, if_pos (by rw [hsame, getD_mid]; exact h2), List.filter_map]
      congr 2
      refine List.filter_congr fun i _ => ?_
      show (smallB ((pre ++ q :: post).getD (pre.length + 1 + i) d0).1 == smallB nr.1) = _
      rw [getD_post]; rfl
    unfold lawWith
    rw [hp]
    dsimp only
    generalize hps : ((List.range post.length).filter fun i => same nr (post.getD i d0)).map (pre.length + 1 + ·) = ps
    have hmem : ∀ k, k ∈ ps ↔ ∃ i, i < post.length ∧ same nr (post.getD i d0) = true ∧ pre.length + 1 + i = k := by
      intro k
      rw [← hps, List.mem_map]
      constructor
      · rintro ⟨i, hi, rfl⟩
        rw [List.mem_filter, List.mem_range] at hi
        exact ⟨i, hi.1, hi.2, rfl⟩
      · rintro ⟨i, hi, hs, rfl⟩
        exact ⟨i, by rw [List.mem_filter, List.mem_range]; exact ⟨hi, hs⟩, rfl⟩
    rw [hlen, range_split, List.filter_append, List.filter_cons, List.map_append]
    have hno : ∀ k, k ≤ pre.length → ps.contains k = false := fun k hk => by
      rw [Bool.eq_false_iff]
      intro hc
      obtain ⟨i, _, _, h⟩ := (hmem k).mp (by simpa using hc)
      omega
    have a : (List.range pre.length).filter (fun i => !ps.contains i) = List.range pre.length := by
      rw [List.filter_eq_self]
      intro i hi
      rw [hno i (Nat.le_of_lt (List.mem_range.mp hi))]; rfl
    have b : (List.range pre.length).map (fun i => if i = pre.length then nr else (pre ++ q :: post).getD i d0) = pre := by
      refine (List.map_congr_left fun i hi => ?_).trans (range_map pre)
      have := List.mem_range.mp hi
      rw [if_neg (by omega), getD_pre this]
    rw [a, b, if_pos (by rw [hno _ (Nat.le_refl _)]; rfl), List.map_cons, if_pos rfl, List.filter_map, List.map_map]
    congr 2
    have c : (List.range post.length).filter ((fun i => !ps.contains i) ∘ (pre.length + 1 + ·)) = (List.range post.length).filter fun i => !same nr (post.getD i d0) := by
      refine List.filter_congr fun i hi => ?_
      show (!ps.contains (pre.length + 1 + i)) = _
      congr 1
      rw [Bool.eq_iff_iff]
      constructor
      · intro hc
        obtain ⟨j, _, hs, h⟩ := (hmem _).mp (by simpa using hc)
        have : j = i := by omega
        rw [← this]; exact hs
      · intro hs
        have := (hmem (pre.length + 1 + i)).mpr ⟨i, List.mem_range.mp hi, hs, rfl⟩
        simpa using this
    rw [c, ← range_pick post (fun r => !same nr r)]
    refine List.map_congr_left fun i _ => ?_
    show (if pre.length + 1 + i = pre.length then nr else (pre ++ q :: post).getD (pre.length + 1 + i) d0) = _
    rw [if_neg (by omega), getD_post]
theorem withF_len (rows : List R2) (nr : R2) : (withF rows nr).length ≤ rows.length + 1 := by
  rcases split_first nr rows with h | ⟨pre, q, post, rfl, h1, h2⟩
  · rw [withF_none h]; simp
  · rw [withF_some h1 h2]
    have := List.length_filter_le (fun r => !same nr r) post
    simp; omega
theorem withF_mem {rows : List R2} {nr r : R2} (h : r ∈ withF rows nr) : r = nr ∨ r ∈ rows := by
  rcases split_first nr rows with h' | ⟨pre, q, post, rfl, h1, h2⟩
  · rw [withF_none h'] at h
    rcases List.mem_append.mp h with h | h
    · exact .inr h
    · exact .inl (List.mem_singleton.mp h)
  · rw [withF_some h1 h2] at h
    rcases List.mem_append.mp h with h | h
    · exact .inr (by simp [h])
    · rcases List.mem_cons.mp h with h | h
      · exact .inl h
      · exact .inr (by simp [(List.mem_filter.mp h).1])
noncomputable def bodyAt (P : Params) (f : Addr) : List Stmt := match (hd.heap_39 P).lookup f with
  | some ⟨_, _, .func fd, _⟩ => (match fd.body with | .stmts b => b | .expr _ => [])
  | _ => []
noncomputable def scopeAt (P : Params) (f : Addr) : Scope := match (hd.heap_39 P).lookup f with
  | some ⟨_, _, .func fd, _⟩ => fd.scope
  | _ => default
/-- the law's body, run, gives True -/
noncomputable def LawWp (prog : Program) (w : World) (scope : Scope) (body : List Stmt) : Prop :=
  ∀ (A : Around) (L fa : Addr) (cd : Value) (hid : Led) (h₀ : Heap) (T : Addr) (ns : List Int) (sl : Led) (s : Shared), ns.length ≤ 63 → CxOk ⟨prog, w, A, envOfC "law" scope L fa cd, h₀, T, hid, true⟩ 20 →
    St ⟨prog, w, A, envOfC "law" scope L fa cd, h₀, T, hid, true⟩ ⟨none, evOf ["script"] [.lst (ns.map .int)]⟩ sl s.heap → ∀ Q : Flow → Shared → Prop,
    (∀ h' tk', (∀ b o, h₀.get? b = some o → h'.get? b = some o) → Q (.ret (.bool true)) { s with heap := h', toks := tk' }) → wpAny (model prog w) A (execs body (envOfC "law" scope L fa cd)) Q (fun _ _ => False) s
theorem law_entry {prog : Program} {w : World} {oc : Value} {od : Option Addr} {osl : Array (Option Value)} {name qual : Str} {params : Arguments} {body : List Stmt} {scope : Scope} {dV kV doc pm cdv ct : Value} {an : Option Addr}
    (ho : (hd.heap_39 w.params).lookup 284 = some ⟨oc, od, .func (fnOf name qual params body scope dV kV doc pm an cdv ct), osl⟩) (h : LawWp prog w scope body) : LawWp prog w (scopeAt w.params 284) (bodyAt w.params 284) := by
  have e1 : scopeAt w.params 284 = scope := by unfold scopeAt; rw [ho]
  have e2 : bodyAt w.params 284 = body := by unfold bodyAt; rw [ho]
  rw [e1, e2]; exact h
noncomputable def evTape : Str → Option Slot := fun y => if y = "tape" then some (.val .tape) else none
/-- the list that was made is the tape from here on -/
theorem CxOk.retape {c : Cx} {n : Nat} (K : CxOk c n) (T' : Addr) : CxOk { c with T := T' } n := ⟨K.bs, K.room, K.kind, K.glob, K.blt, K.apart⟩
theorem retape {c : Cx} {σ : Sg} {sl : Led} {s : Shared} {sts : List Stmt} {d se : Int} (S : St c σ sl s.heap) (htp : σ.tp = none) (hσ : σ.ev "tape" = some (.val (.new [.int d, .int se, .int 0])))
    (h : ∀ T, EXS { c with T := T } sts ⟨some (d, se, 0), evTape⟩ (fun g _ => g = .ret (.bool true))) {Q : Flow → Shared → Prop}
    (hQ : ∀ h' tk', (∀ b o, c.h₀.get? b = some o → h'.get? b = some o) → Q (.ret (.bool true)) { s with heap := h', toks := tk' }) : wpAny (model c.prog c.w) c.A (execs sts c.env) Q (fun _ _ => False) s := by
  obtain ⟨tl, oD, op, m, H, h1, h2, h3⟩ := S
  rw [htp] at h1
  have h1' : tl = [] := h1
  subst h1'
  obtain ⟨v, hv, r⟩ := h3.vals "tape" _ hσ
  cases r with
  | new hm ho r =>
    rename_i a o vs n
    cases r with | cons r0 r => cases r with | cons r1 r => cases r with | cons r2 r =>
    cases r; cases r0; cases r1; cases r2
    obtain ⟨s1, s2, rfl⟩ := List.append_of_mem hm
    have hlst := ho
    have H' : Hp c.h₀ s.heap ([] ++ (c.hid ++ (op ++ ((c.env.locals, oD) :: [(a, o)])))) := by
      refine (H.sub (l' := (a, o) :: (c.hid ++ (op ++ [(c.env.locals, oD)]))) ?_).perm ?_
      · have e : (s1 ++ (a, o) :: s2) ++ (c.hid ++ (op ++ [(c.env.locals, oD)])) = s1 ++ ((a, o) :: (s2 ++ (c.hid ++ (op ++ [(c.env.locals, oD)])))) := by simp
        rw [e]
        exact (List.Sublist.cons₂ _ (List.sublist_append_right _ _)).trans (List.sublist_append_right _ _)
      · have p1 := (List.perm_append_comm (l₁ := [(a, o)]) (l₂ := c.hid ++ (op ++ [(c.env.locals, oD)])))
        simpa [List.append_assoc] using p1
    refine wpAny_mono (h a [] s ⟨[(a, o)], oD, op, m, H', ⟨_, _, _, o, rfl, by rw [hlst]; exact ⟨rfl, n, rfl, rfl, rfl⟩⟩, h2, ⟨fun y b e => ?_, fun y l e => ?_, fun y l e => ?_, fun y z l l' e => ?_, h3.cells⟩⟩ Q fun f g σ' sl' h' tk' s' S' rf k => ?_) (fun _ _ z => z) fun _ _ z => z.elim
    · unfold evTape at e
      dsimp only at e
      split at e
      · rename_i hy
        subst hy
        cases e
        exact ⟨_, hv, .tape⟩
      · cases e
    · unfold evTape at e
      dsimp only at e
      split at e <;> cases e
    · unfold evTape at e
      dsimp only at e
      split at e <;> cases e
    · unfold evTape at e
      dsimp only at e
      split at e <;> cases e
    · subst k
      cases rf with
      | ret rv =>
        cases rv
        obtain ⟨l, Hl⟩ := S'.hp
        exact hQ h' tk' Hl.keep
noncomputable def dueAV (r : List UInt8 × List UInt8 × Nat × Nat) : AV := .tup [.bytes r.1, .bytes r.2.1, .int (r.2.2.1 : Int), .int (r.2.2.2 : Int)]
noncomputable def gPair (g : G) : R2 := (g.1, g.2.1)
theorem TpB.mono {m n : Nat} {t : Option (Int × Int × Int)} (h : TpB m t) (hm : m ≤ n) : TpB n t := by
  obtain ⟨d, s, k, z1, z2, z3, z4, z5, z6⟩ := h
  exact ⟨d, s, k, z1, z2, z3, z4, z5, by omega⟩
theorem headB_len {gs : List G} (h : ∀ g ∈ gs, GOk g ∧ g.2.1.length ≤ 30) : (headB gs).length ≤ 38 * gs.length := by
  induction gs with
  | nil => simp [headB]
  | cons g gs ih =>
    have := ih fun x hx => h x (.tail _ hx)
    obtain ⟨⟨⟨_, h1⟩, _, h2⟩, h3⟩ := h g (.head _)
    have h4 := h2.pos
    rw [headB_cons, List.length_append, List.length_cons]
    unfold wholeB
    simp only [List.length_append, List.length_cons, List.length_nil]
    omega
theorem nat_stop (n : Nat) (x : Int) : (n : Int) = if (n : Int) < 0 then x else (n : Int) := (if_neg (by omega)).symm
theorem dueOf_le : ∀ (gs : List G) (base : Nat), ∀ s ∈ dueOf base gs, s.2.2.1 ≤ base + (headB gs).length ∧ s.2.2.2 ≤ base + (headB gs).length
  | g :: gs, base, s, h => by
    rw [headB_cons, List.length_append]
    rw [dueOf] at h
    rcases List.mem_cons.mp h with rfl | h
    · dsimp only; omega
    · have := dueOf_le gs _ s h
      omega
theorem due_data (rows : List (List UInt8 × List UInt8 × Nat × Nat)) : dataAll (rows.map dueAV) = true ∧ deepAll (rows.map dueAV) ≤ 50 := by
  refine ⟨dataAll_iff.mpr fun a ha => ?_, deepAll_le fun a ha => ?_⟩
  · obtain ⟨r, _, rfl⟩ := List.mem_map.mp ha; rfl
  · obtain ⟨r, _, rfl⟩ := List.mem_map.mp ha
    show max 0 (max 0 (max 0 (max 0 0))) + 1 ≤ 50
    decide
theorem CmpR.neDue (rows : List (List UInt8 × List UInt8 × Nat × Nat)) : CmpR .NotEq (.lst (rows.map dueAV)) (.lst (rows.map dueAV)) false := .neL _ (due_data rows).1 (due_data rows).2
theorem flatW_len : ∀ ws : List (List UInt8 × List UInt8), (∀ p ∈ ws, WhiteOk p.1 ∧ WordOk p.2) → (flatW ws).length ≤ 12 * ws.length
  | [], _ => by simp [flatW]
  | q :: r, h => by
    have := flatW_len r fun p hp => h p (.tail _ hp)
    have h3 := (h q (.head _)).1.2.2
    have h4 := (h q (.head _)).2.2.2.2
    rw [flatW_cons, List.length_append, List.length_append, List.length_cons]; omega
theorem white_nolf {s : List UInt8} (h : s.all isW = true) : NoLF s :=
  ⟨fun hm => absurd (List.all_eq_true.mp h _ hm) (by decide), fun hm => absurd (List.all_eq_true.mp h _ hm) (by decide)⟩
theorem flatW_nolf : ∀ ws : List (List UInt8 × List UInt8), (∀ p ∈ ws, WhiteOk p.1 ∧ WordOk p.2) → NoLF (flatW ws)
  | [], _ => (by decide : NoLF [])
  | q :: r, h => by
    rw [flatW_cons]
    exact nolf_append (nolf_append (white_nolf (h q (.head _)).1.2.1) (h q (.head _)).2.2.2.1) (flatW_nolf r fun p hp => h p (.tail _ hp))
theorem psOf_len (ws : List (List UInt8 × List UInt8)) (h : ∀ p ∈ ws, WhiteOk p.1 ∧ WordOk p.2) : (psOf ws).length = ws.length ∧ sumL (psOf ws) ≤ 12 * ws.length ∧ (midB ws).length ≤ 12 * ws.length := by
  cases ws with
  | nil => exact ⟨rfl, by simp [psOf, sumL], by simp [midB]⟩
  | cons q r =>
    have h4 := (h q (.head _)).2.2.2.2
    have h5 := flatW_len r fun p hp => h p (.tail _ hp)
    have e1 : sumL (psOf (q :: r)) = q.2.length + (flatW r).length := by
      have : sumL (r.map fun q => q.1 ++ q.2) = (flatW r).length := by unfold flatW sumL; rw [List.length_flatten]
      rw [← this]; simp [psOf, sumL]
    refine ⟨by simp [psOf], by rw [e1, List.length_cons]; omega, ?_⟩
    show (q.2 ++ flatW r).length ≤ _
    rw [List.length_append, List.length_cons]; omega
theorem ex_use {c : Cx} {st : Stmt} {σ : Sg} {sl : Led} {s : Shared} (S : St c σ sl s.heap) {Φ : Fl → Sg → Prop} {Q : Flow → Shared → Prop} (h : EX c st σ Φ)
    (hQ : ∀ f g σ' sl' h' tk', (∀ p ∈ sl, p ∈ sl') → St c σ' sl' h' → FlRep c.h₀ c.T sl' f g → Φ g σ' → Q f { s with heap := h', toks := tk' }) : wpAny (model c.prog c.w) c.A (exec st c.env) Q (fun _ _ => False) s := h sl s S Q hQ
set_option maxHeartbeats 8000000 in
theorem law_walk (prog : Program) (w : World) : LawWp prog w (scopeAt w.params 284) (bodyAt w.params 284) := by
  refine law_entry (by rfl) ?_
  intro A L fa cd hid h₀ T ns sl s hn K S Q hQ
  refine wpAny_execs_cons ?_
  refine ex_use S (Φ := fun f σ1 => f = .nxt ∧ ∃ d se : Int, 0 ≤ d ∧ 0 ≤ se ∧ se < 1000000007 ∧ σ1.tp = none ∧ σ1.ev "tape" = some (.val (.new [.int d, .int se, .int 0]))) ?_ ?_
  · walk_at "gs"
    refine ⟨_, Nat.le_refl _, (law_tape_ok ns (by omega)).mono ?_⟩
    rintro _ t ⟨d, se, rfl, h1, h2, h3, rfl⟩
    walk_at "gs"
    exact ⟨rfl, d, se, h1, h2, h3, rfl, by walk_at "ev"⟩
  intro f g σ1 sl1 h1 tk1 s1 S1 r k
  obtain ⟨rfl, d, se, d0, se0, se1, htp, hev⟩ := k
  cases r
  refine retape (s := { s with heap := h1, toks := tk1 }) S1 htp hev (fun T' => ?_) fun h' tk' hk => hQ h' tk' hk
  have K' := K.retape T'
  have hT : TpB 0 (some (d, se, (0 : Int))) := ⟨d, se, 0, rfl, d0, se0, se1, by decide, by decide⟩
  walk_at "gs"
  refine ⟨_, Nat.le_refl _, (draw_ok hT (by omega) 4 (by decide) (by decide)).mono ?_⟩
  rintro _ t1 ⟨dd, hdd, rfl, ht1⟩
  refine ⟨_, .addI _ _, ?_⟩
  rw [show (1 : Int) + (dd : Int) = ((dd + 1 : Nat) : Int) from by omega]
  walk_at "gs"
  refine ⟨_, Nat.le_refl _, (draw_ok ht1 (by omega) 3 (by decide) (by decide)).mono ?_⟩
  rintro _ t2 ⟨i, hi, rfl, ht2⟩
  have hf : ∃ u, ([[], [122, 122], [116, 111, 58, 32, 122, 13, 10]] : List (List UInt8))[i]? = some u ∧ u.length ≤ 7 := by
    have : i = 0 ∨ i = 1 ∨ i = 2 := by omega
    rcases this with rfl | rfl | rfl <;> exact ⟨_, rfl, by decide⟩
  obtain ⟨front, hf1, hf2⟩ := hf
  refine ⟨_, .tup (([[], [122, 122], [116, 111, 58, 32, 122, 13, 10]] : List (List UInt8)).map .bytes) _ (.bytes front) (by omega) (by omega) (by rw [Int.toNat_natCast, List.getElem?_map, hf1]; rfl), ?_⟩
  walk_at "gs"
  refine ⟨_, Nat.le_refl _, (draw_ok ht2 (by omega) 3 (by decide) (by decide)).mono ?_⟩
  rintro _ t3 ⟨ci, hci, rfl, ht3⟩
  walk_at "gs"
  walk_at "cmp"
  generalize hcut : ((ci : Int) == 0) = cut
  walk_at "gs"
  refine EX.for (by assumption) (ITR.of (by assumption) ?_)
  walk_at "gs"
  refine ⟨_, Nat.le_refl _, (draw_ok ht3 (by omega) 6 (by decide) (by decide)).mono ?_⟩
  rintro _ t4 ⟨many, hmany, rfl, ht4⟩
  refine ⟨_, .range many, rfl, _, .rng many (by omega), ?_⟩
  refine FORL.inv (fun l σ' => ∃ gs : List G, l.length + gs.length = many ∧ (∀ g ∈ gs, GOk g ∧ g.2.1.length ≤ 30) ∧ TpB (4 + 9 * gs.length) σ'.tp ∧ σ'.ev "tape" = some (.val .tape) ∧ σ'.ev "front" = some (.val (.bytes front)) ∧ σ'.ev "is_cut" = some (.val (.bool cut)) ∧ σ'.ev "deeds" = some (.val (.int ((dd + 1 : Nat) : Int)))
      ∧ σ'.ev "head" = some (.val (.bytes (headB gs))) ∧ σ'.ev "rows" = some (.opn ((gs.map gPair).map pairAV)) ∧ σ'.ev "due" = some (.opn ((dueOf front.length gs).map dueAV))) ?_ ?_ _ _ ⟨[], by simp, by simp, ht4, by walk_at "evs"⟩
  · rintro hid1 d l σ ⟨gs, q1, q2, q3, e1, e2, e3, e4, e5, e6, e7⟩
    have Kh := CxOk.hide (by assumption) hid1
    rw [List.length_cons] at q1
    have hh := headB_len q2
    have hdl := dueOf_len gs front.length
    walk_at "gs"
    refine ⟨_, Nat.le_refl _, (law_name_ok q3 (by omega)).mono ?_⟩
    rintro _ u1 ⟨nm, rfl, hnm, hu1⟩
    have hn5 := hnm.2
    walk_at "gs"
    refine ⟨_, Nat.le_refl _, (law_raw_ok hu1 (by omega)).mono ?_⟩
    rintro _ u2 ⟨raw, rfl, hraw, hraw2, hu2⟩
    walk_at "gs"
    refine ⟨_, .addB _ _ (by walk_at "sz"), ?_⟩
    walk_at "gs"
    refine ⟨_, .addB _ _ (by walk_at "sz"), ?_⟩
    walk_at "gs"
    refine ⟨_, Nat.le_refl _, (law_end_ok hu2 (by omega)).mono ?_⟩
    rintro _ u3 ⟨en, rfl, hen, hu3⟩
    have hen2 := hen.pos
    refine ⟨_, .addB _ _ (by walk_at "sz"), ?_⟩
    have hwl : (wholeB (nm, raw, en)).length ≤ 40 := by unfold wholeB; simp only [List.length_append, List.length_cons, List.length_nil]; omega
    rw [show nm ++ [58] ++ raw ++ en = wholeB (nm, raw, en) from rfl]
    have hds := dueOf_snoc gs front.length (nm, raw, en)
    have hhs := headB_snoc gs (nm, raw, en)
    generalize wholeB (nm, raw, en) = whole at hwl hds hhs ⊢
    walk_at "gs"
    refine ⟨_, .lenB _ (by omega), ?_⟩
    walk_at "gs"
    refine ⟨_, .lenB _ (by omega), ?_⟩
    refine ⟨_, .addI _ _, ?_⟩
    walk_at "gs"
    refine ⟨_, .lenB _ (by omega), ?_⟩
    walk_at "gs"
    refine ⟨_, .lenB _ (by omega), ?_⟩
    refine ⟨_, .addI _ _, ?_⟩
    walk_at "gs"
    refine ⟨_, .lenB _ (by omega), ?_⟩
    refine ⟨_, .addI _ _, ?_⟩
    rw [show (front.length : Int) + ((headB gs).length : Int) = ((front.length + (headB gs).length : Nat) : Int) from by omega]
    rw [show ((front.length + (headB gs).length : Nat) : Int) + (whole.length : Int) = ((front.length + (headB gs).length + whole.length : Nat) : Int) from by omega]
    walk_at "gs"
    refine ⟨_, .addB _ _ (by omega), ?_⟩
    walk_at "gs"
    refine ⟨gs ++ [(nm, raw, en)], by simp; omega, ?_, ?_, by walk_at "ev", by walk_at "ev", by walk_at "ev", by walk_at "ev", ?_, ?_, ?_⟩
    · intro g hg
      rcases List.mem_append.mp hg with hg | hg
      · exact q2 g hg
      · rw [List.mem_singleton.mp hg]; exact ⟨⟨hnm, hraw, hen⟩, hraw2⟩
    · rw [List.length_append]
      exact hu3.mono (by simp; omega)
    · rw [hhs]; walk_at "ev"
    · rw [List.map_append, List.map_append]; walk_at "ev"
    · rw [hds, List.map_append]; walk_at "ev"
  · rintro σ ⟨gs, q1, q2, q3, e1, e2, e3, e4, e5, e6, e7⟩
    rw [List.length_nil] at q1
    have hh := headB_len q2
    have hdl := dueOf_len gs front.length
    have hgs : gs.length ≤ 5 := by omega
    walk_at "go"
    walk_at "go"
    refine EV.mono (Φ := fun a σ' => ∃ (e : List UInt8) (t : Option (Int × Int × Int)), a = .bytes e ∧ σ' = ⟨t, σ.ev⟩ ∧ TpB 60 t ∧ (cut = true → e = []) ∧ (cut = false → EndOk e) ∧ e.length ≤ 2) ?_ ?_
    · walk_at "gs"
      cases hct : cut with
      | true =>
        rw [hct] at e3
        walk_at "gs"
        walk_at "yes"
        walk_at "gs"
        exact ⟨[], _, rfl, rfl, q3.mono (by omega), fun _ => rfl, fun h => (nomatch h), by decide⟩
      | false =>
        rw [hct] at e3
        walk_at "gs"
        walk_at "no"
        walk_at "gs"
        refine ⟨_, Nat.le_refl _, (law_end_ok q3 (by omega)).mono ?_⟩
        rintro _ t ⟨en, rfl, hen, ht⟩
        have hp := hen.pos
        exact ⟨en, t, rfl, rfl, ht.mono (by omega), fun h => (nomatch h), fun _ => hen, by omega⟩
    rintro _ _ ⟨be, t5, rfl, rfl, ht5, hb1, hb2, hb3⟩
    walk_at "gs"
    refine ⟨_, .lenB _ (by omega), ?_⟩
    walk_at "gs"
    refine ⟨_, .lenB _ (by omega), ?_⟩
    walk_at "gs"
    refine ⟨_, .lenB _ (by omega), ?_⟩
    refine ⟨_, .addI _ _, ?_⟩
    walk_at "gs"
    refine ⟨_, .lenB _ (by omega), ?_⟩
    refine ⟨_, .addI _ _, ?_⟩
    rw [show (front.length : Int) + ((headB gs).length : Int) + (be.length : Int) = ((front.length + (headB gs).length + be.length : Nat) : Int) from by omega]
    walk_at "gs"
    refine ⟨_, .addB _ _ (by omega), ?_⟩
    walk_at "gs"
    refine ⟨_, .addB _ _ (by walk_at "sz"), ?_⟩
    walk_at "gs"
    refine ⟨_, .addB _ _ (by walk_at "sz"), ?_⟩
    have hXlen : (front ++ headB gs ++ be ++ [116, 111, 58, 32, 98, 13, 10]).length = front.length + (headB gs).length + be.length + 7 := by simp only [List.length_append, List.length_cons, List.length_nil]
    have hXeq : front ++ headB gs ++ be ++ [116, 111, 58, 32, 98, 13, 10] = front ++ headB gs ++ (be ++ [116, 111, 58, 32, 98, 13, 10]) := by simp
    have hGk : ∀ g ∈ gs, GOk g := fun g hg => (q2 g hg).1
    have hSp : Spans (front ++ headB gs ++ be ++ [116, 111, 58, 32, 98, 13, 10]) (if cut then front.length + (headB gs).length + be.length else front.length + (headB gs).length + be.length + 7) front.length (dueOf front.length gs) (front.length + (headB gs).length + be.length) := by
      cases hct : cut with
      | true =>
        have hbe := hb1 hct
        subst hbe
        rw [if_pos rfl, hXeq]
        exact spans_cut hGk
      | false =>
        have hbe := hb2 hct
        rw [if_neg Bool.false_ne_true]
        have := spans_open (pre := front) (rest := [116, 111, 58, 32, 98, 13, 10]) hGk hbe
        rw [← hXeq, hXlen] at this
        exact this
    have hSl := slices_lemma (rest := be ++ [116, 111, 58, 32, 98, 13, 10]) gs front
    rw [← hXeq] at hSl
    generalize front ++ headB gs ++ be ++ [116, 111, 58, 32, 98, 13, 10] = X at hXlen hSp hSl ⊢
    walk_at "go"
    walk_at "go"
    walk_at "go"
    walk_at "go"
    walk_at "go"
    walk_at "go"
    walk_at "go"
    walk_at "go"
    refine EV.same (.int ((if cut then front.length + (headB gs).length + be.length else front.length + (headB gs).length + be.length + 7 : Nat) : Int)) ?_ ?_
    · walk_at "gs"
      cases hct : cut with
      | true =>
        rw [hct] at e3
        walk_at "gs"
        walk_at "yes"
        walk_at "gs"
        exact ⟨rfl, rfl⟩
      | false =>
        rw [hct] at e3
        walk_at "gs"
        walk_at "no"
        walk_at "gs"
        refine ⟨_, .lenB _ (by omega), ?_⟩
        rw [hXlen]
        exact ⟨rfl, rfl⟩
    walk_at "gs"
    refine ⟨_, Nat.le_refl _, (read_spans_ok X front.length (if cut then front.length + (headB gs).length + be.length else front.length + (headB gs).length + be.length + 7) _ (dueOf front.length gs) _ (nat_stop _ _) (by split <;> omega) (by omega) hSp (by omega)).mono ?_⟩
    walk_at "ret"
    walk_at "gs"
    refine EV.compK [] (fun σ => σ.tp = t5) spanAV yes dueAV (dueOf front.length gs) (by assumption) ⟨rfl, by decide, by decide, rfl, by decide, rfl⟩ (ITR.of (by assumption) ?_) ?_
    rotate_left 1
    · intro C hid r σ Kc hk ht
      show ASG _ _ (AV.tup [.fld r.1 r.2.1, .int (r.2.2.1 : Int), .int (r.2.2.2 : Int)]) _ _
      walk_at "gs"
      refine ⟨_, .addT _ _ (by simp) (by simp) (by simp), ?_⟩
      exact ⟨rfl, ht⟩
    walk_at "gs"
    refine ⟨rfl, _, .lst _, rfl, by omega, rfl, fun σ2 ht2 => ?_⟩
    rw [filter_yes]
    walk_at "gs"
    refine ⟨_, CmpR.neDue _, ?_⟩
    walk_at "no"
    walk_at "gs"
    walk_at "cmp"
    refine ite_no (by simp) ?_
    walk_at "gs"
    have hdle := dueOf_le gs front.length
    refine EV.vmeth .joinB ?_
    walk_at "gs"
    refine EV.compK ["data"] (fun σ => σ.tp = t5 ∧ σ.ev "data" = some (.val (.bytes X))) spanAV yes (fun r => .bytes (sliceB X r.2.2.1 r.2.2.2)) (dueOf front.length gs) (by assumption) ⟨rfl, by decide, by decide, rfl, by decide, rfl⟩ (ITR.of (by assumption) ?_) ?_
    rotate_left 1
    · rintro C hid r σ Kc hk ⟨ht, hev⟩
      have hrl := hdle r hk
      show ASG _ _ (AV.tup [.fld r.1 r.2.1, .int (r.2.2.1 : Int), .int (r.2.2.2 : Int)]) _ _
      walk_at "gs"
      refine ⟨_, CutR.nat (by omega) (by omega) (by omega), ?_⟩
      refine ⟨rfl, ht, ?_⟩
      walk_at "ev"
    walk_at "gs"
    refine ⟨rfl, _, .lst _, rfl, by omega, ⟨ht2, rfl⟩, ?_⟩
    rintro σ3 ⟨ht3, _⟩
    rw [filter_yes]
    walk_at "gs"
    have hjl : (dueOf front.length gs).map (fun r => AV.bytes (sliceB X r.2.2.1 r.2.2.2)) = ((dueOf front.length gs).map fun r => sliceB X r.2.2.1 r.2.2.2).map .bytes := by rw [List.map_map]; rfl
    rw [hjl]
    have hbj := bjoin_nil ((dueOf front.length gs).map fun r => sliceB X r.2.2.1 r.2.2.2)
    have hsum : (((dueOf front.length gs).map fun r => sliceB X r.2.2.1 r.2.2.2).map (·.length)).sum = (headB gs).length := by
      rw [← hSl, List.length_flatten]
    refine ⟨_, .joinB [] _ (by rw [hbj, hSl]; omega) (by rw [hsum, List.length_nil]; omega), ?_⟩
    rw [hbj, hSl]
    walk_at "gs"
    refine ⟨_, .neB _ _, ?_⟩
    refine ite_no (by simp) ?_
    walk_at "gs"
    refine EX.asgCK [] (fun σ => σ.tp = t5) spanAV yes (fun r => .fld r.1 r.2.1) (dueOf front.length gs) (by assumption) ⟨rfl, by decide, by decide, rfl, by decide, rfl⟩ (by rfl) (ITR.of (by assumption) ?_) ?_
    rotate_left 1
    · rintro C hid r σ Kc hk ht
      walk_at "gs"
      refine ⟨_, .tup [.fld r.1 r.2.1, .int (r.2.2.1 : Int), .int (r.2.2.2 : Int)] _ _ (by decide) (by decide) rfl, ?_⟩
      exact ⟨rfl, ht⟩
    walk_at "gs"
    refine ⟨rfl, _, .lst _, rfl, by omega, ht3, fun σ4 ht4 => ?_⟩
    rw [filter_yes]
    have hpairs : (dueOf front.length gs).map (fun r => AV.fld r.1 r.2.1) = (gs.map gPair).map fldAV := by
      have := congrArg (List.map fldAV) (dueOf_pairs gs front.length)
      rw [List.map_map] at this
      exact this
    rw [hpairs]
    have hGood : ∀ r ∈ gs.map gPair, GoodR r := fun r hr => by
      obtain ⟨g, hg, rfl⟩ := List.mem_map.mp hr
      obtain ⟨g1, g2⟩ := q2 g hg
      exact ⟨g1.1, g1.2.1, Nat.le_trans g2 (by decide)⟩
    have hRl : (gs.map gPair).length ≤ 5 := by rw [List.length_map]; exact hgs
    generalize gs.map gPair = rs0 at hGood hRl e6 ⊢
    walk_at "gs"
    refine ⟨_, Nat.le_refl _, (law_is_written_ok rs0 (fun r hr => sound_of (hGood r hr)) (by omega) (readback_of hGood)).mono ?_⟩
    walk_at "ret"
    walk_at "gs"
    walk_at "no"
    walk_at "gs"
    refine EX.for (by assumption) (ITR.of (by assumption) ?_)
    walk_at "gs"
    refine ⟨_, .range (dd + 1), rfl, _, .rng (dd + 1) (by omega), ?_⟩
    refine FORL.inv (fun l σ' => ∃ rs : List R2, (∀ r ∈ rs, GoodR r) ∧ l.length + rs.length ≤ 9 ∧ l.length ≤ 4 ∧ TpB (1000 - 25 * l.length) σ'.tp ∧ σ'.ev "tape" = some (.val .tape) ∧ σ'.ev "fields" = some (.val (.lst (rs.map fldAV))) ∧ σ'.ev "rows" = some (.val (.lst (rs.map pairAV)))) ?_ ?_ _ _
      ⟨rs0, hGood, by simp; omega, by simp; omega, ?_, by walk_at "evs"⟩
    rotate_left 2
    · show TpB _ σ4.tp
      rw [ht4]; exact ht5.mono (by simp; omega)
    · rintro hid2 d l σ ⟨rs, r1, r2, r3, hTp, e1, e2, e3⟩
      have Kh := CxOk.hide (by assumption) hid2
      rw [List.length_cons] at r2 r3 hTp
      have hrs : rs.length ≤ 8 := by omega
      have hrn : ∀ r ∈ rs, r.1.length ≤ 1000 := fun r hr => by have := (r1 r hr).1.2; omega
      walk_at "gs"
      refine ⟨_, Nat.le_refl _, (draw_ok hTp (by omega) 4 (by decide) (by decide)).mono ?_⟩
      rintro _ v1 ⟨kind, hkind, rfl, hv1⟩
      walk_at "gs"
      refine ⟨_, Nat.le_refl _, (law_words_ok hv1 (by omega)).mono ?_⟩
      rintro _ v2 ⟨ws, rfl, hws, hv2⟩
      walk_at "gs"
      refine ⟨_, Nat.le_refl _, (law_parted_ok rs ws hrn (by omega) hws).mono ?_⟩
      walk_at "ret"
      walk_at "gs"
      refine ⟨_, .isN _, ?_⟩
      walk_at "no"
      walk_at "go"
      walk_at "go"
      generalize hW : (ws.map fun x => x.map lowerN) = W
      refine EX.mono (Φ := fun f σ' => f = .nxt ∧ ∃ rs' : List R2, (∀ r ∈ rs', GoodR r) ∧ rs'.length ≤ rs.length + 1 ∧ TpB (1000 - 25 * l.length) σ'.tp ∧ σ'.ev "tape" = some (.val .tape) ∧ σ'.ev "fields" = some (.val (.lst (rs.map fldAV))) ∧ σ'.ev "rows" = some (.val (.lst (rs.map pairAV)))
        ∧ σ'.ev "later" = some (.val (.lst (rs'.map fldAV))) ∧ σ'.ev "due_rows" = some (.val (.lst (rs'.map pairAV)))) ?_ ?_
      · walk_at "gs"
        walk_at "cmp"
        by_cases hk2 : kind < 2
        · walk_at "yes"
          walk_at "gs"
          refine ⟨_, Nat.le_refl _, (law_made_ok hv2 (by omega)).mono ?_⟩
          rintro _ v3 ⟨name, width, wl, tail, rfl, hmd, hv3⟩
          have hgood := made_good hmd
          obtain ⟨hmn, hm2, hm3, hm4, hm5, hm6, hm7⟩ := hmd
          have hfl := flatW_len wl hm4
          have hpl := psOf_len wl hm4
          have hnl := nolf_append (flatW_nolf wl hm4) hm7
          have hst := strip_made hm4 hm5
          have htl : (flatW wl ++ tail).length ≤ 60 := by rw [List.length_append]; omega
          have hnn := hmn.2
          have hjoin := folded_join name wl width
          generalize bjoin [13, 10] (lawRows name (somes wl) width) = raw at hgood hjoin ⊢
          generalize flatW wl ++ tail = text at hnl hst htl ⊢
          have hrr := hgood.2.2
          walk_at "gs"
          refine ⟨_, Nat.le_refl _, (made_field_ok name text raw width (psOf wl) hmn.1 (by omega) (by omega) hnl.1 hnl.2 (by rw [hst]; exact pieces_psOf wl hm4) (by omega) (by omega) (by rw [hst]; omega) hjoin (by dsimp only at hrr; omega)).mono ?_⟩
          walk_at "ret"
          walk_at "gs"
          refine ⟨_, Nat.le_refl _, (with_field_ok rs (name, raw) hrn (by omega) (by dsimp only; omega)).mono ?_⟩
          walk_at "ret"
          walk_at "gs"
          refine ⟨_, Nat.le_refl _, (law_row_with_ok rs (name, raw) hrn (by omega) (by dsimp only; omega)).mono ?_⟩
          walk_at "ret"
          rw [lawWith_eq]
          walk_at "gs"
          have hcm : CmpR .NotEq (.tup [.bytes name, .bytes raw]) (.tup [.bytes name, .bytes raw]) false := .neP _ rfl (by show max 0 (max 0 0) ≤ 50; decide)
          refine ⟨_, hcm, ?_⟩
          walk_at "no"
          walk_at "gs"
          refine ⟨rfl, withF rs (name, raw), fun r hr => ?_, withF_len _ _, hv3.mono (by omega), by walk_at "evs"⟩
          rcases withF_mem hr with rfl | hr
          · exact hgood
          · exact r1 r hr
        · walk_at "no"
          walk_at "gs"
          refine EV.compK [] (fun σ => σ.tp = v2) (fun x : List Nat => .str x) yes (fun x => .str (x.map lowerN)) ws (by assumption) ⟨rfl, by decide, by decide, rfl, by decide, rfl⟩ (ITR.of (by assumption) ?_) ?_
          rotate_left 1
          · intro C hid x σ Kc hk ht
            have hx := hws.2 x hk
            walk_at "gs"
            refine EV.compK [] (fun σ => σ.tp = v2) (fun k : Nat => .str [k]) yes (fun k => .int (k : Int)) x Kc ⟨rfl, by decide, by decide, rfl, by decide, rfl⟩ (ITR.of Kc ?_) ?_
            · walk_at "gs"
              refine ⟨rfl, _, .str x, rfl, by omega, ht, fun σ2 ht => ?_⟩
              rw [filter_yes]
              walk_at "gs"
              refine ⟨_, Nat.le_refl _, (law_small_list x hx.2 hx.1).mono ?_⟩
              rintro _ t ⟨rfl, ht2⟩
              exact ⟨rfl, ht2.trans ht⟩
            · intro C hid k σ Kc hk ht
              walk_at "gs"
              refine ⟨_, .ord k, ?_⟩
              exact ⟨rfl, ht⟩
          walk_at "gs"
          refine ⟨rfl, _, .lst _, rfl, by have := hws.1; omega, rfl, fun σ5 ht5' => ?_⟩
          rw [filter_yes]
          have ew : ws.map (fun x => AV.str (x.map lowerN)) = W.map .str := by rw [← hW, List.map_map]; rfl
          rw [ew]
          generalize hP : (fun r : List UInt8 × List UInt8 => W.contains (smallB r.1)) = P
          have hP' : ∀ r, W.contains (smallB r.1) = P r := fun r => by rw [← hP]
          simp only [hP']
          have hsub : ∀ Q : R2 → Bool, (∀ r ∈ rs.filter Q, GoodR r) ∧ (rs.filter Q).length ≤ rs.length + 1 := fun Q => ⟨fun r hr => r1 r (List.mem_filter.mp hr).1, Nat.le_trans (List.length_filter_le _ _) (Nat.le_succ _)⟩
          have hk3 : kind = 2 ∨ kind = 3 := by omega
          walk_at "gs"
          refine ⟨_, .subI _ _, ?_⟩
          have hit : ([AV.lst ((rs.filter P).map fldAV), AV.lst ((rs.filter fun r => !P r).map fldAV)] : List AV)[((kind : Int) - 2).toNat]? = some (.lst ((rs.filter fun r => P r == ((kind : Int) == 2)).map fldAV)) := by
            rcases hk3 with rfl | rfl
            · have e : (fun r : R2 => P r == (((2 : Nat) : Int) == 2)) = P := by funext r; cases P r <;> rfl
              rw [e]; rfl
            · have e : (fun r : R2 => P r == (((3 : Nat) : Int) == 2)) = fun r => !P r := by funext r; cases P r <;> rfl
              rw [e]; rfl
          refine ⟨_, .tup _ _ _ (by omega) (by omega) hit, ?_⟩
          walk_at "go"
          refine EX.asgCK ["wanted", "kind"] (fun σ => σ.tp = v2 ∧ σ.ev "wanted" = some (.val (.lst (W.map .str))) ∧ σ.ev "kind" = some (.val (.int (kind : Int)))) pairAV (fun r => P r == ((kind : Int) == 2)) pairAV rs (by assumption) ⟨rfl, by decide, by decide, rfl, by decide, rfl⟩ (by rfl) (ITR.of (by assumption) ?_) ?_
          rotate_left 1
          · rintro C hid r σ Kc hk ⟨ht, g1, g2⟩
            have hrl := hrn r hk
            walk_at "gs"
            refine ⟨_, .tup [.bytes r.1, .bytes r.2] _ _ (by decide) (by decide) rfl, ?_⟩
            walk_at "gs"
            refine ⟨_, Nat.le_refl _, (law_small_bytes r.1 hrl).mono ?_⟩
            rintro _ t ⟨rfl, ht6⟩
            walk_at "gs"
            refine ⟨_, .inS _ _, ?_⟩
            rw [hP']
            walk_at "gs"
            walk_at "cmp"
            refine ⟨_, .eqT _ _, rfl, ?_⟩
            by_cases hc : (P r == ((kind : Int) == 2)) = true
            · refine ite_yes hc ?_
              walk_at "gs"
              refine ⟨rfl, ht6.trans ht, ?_, ?_⟩ <;> walk_at "ev"
            · refine ite_no hc ?_
              refine ⟨ht6.trans ht, ?_, ?_⟩ <;> walk_at "ev"
          walk_at "gs"
          refine ⟨rfl, _, .lst _, rfl, by omega, ⟨ht5', rfl, rfl⟩, ?_⟩
          rintro σ6 ⟨ht6, _, _⟩
          have hs := hsub fun r => P r == ((kind : Int) == 2)
          walk_at "gs"
          refine ⟨rfl, _, hs.1, hs.2, ?_, by walk_at "evs"⟩
          show TpB _ σ6.tp
          rw [ht6]; exact hv2.mono (by omega)
      · rintro f σ' ⟨rfl, rs', s1, s2, hTp2, f1, f2, f3, f4, f5⟩
        walk_at "gs"
        refine ⟨_, Nat.le_refl _, (law_told_ok rs (by omega)).mono ?_⟩
        walk_at "ret"
        walk_at "gs"
        refine ⟨_, CmpR.neRows rs, ?_⟩
        walk_at "no"
        walk_at "gs"
        refine ⟨_, Nat.le_refl _, (law_is_written_ok rs' (fun r hr => sound_of (s1 r hr)) (by omega) (readback_of s1)).mono ?_⟩
        walk_at "ret"
        walk_at "gs"
        walk_at "no"
        walk_at "gs"
        exact ⟨rs', s1, by omega, by omega, hTp2, by walk_at "evs"⟩
    · rintro σ ⟨rs, r1, r2, r3, hTp, e1, e2, e3⟩
      walk_at "gs"
      rfl
theorem law_top {prog : Program} {w : World} {A : Around} {L fa : Addr} {cd : Value} {h₀ : Heap} {p : Program} {loose : List Str} {mean : ExcName → Option Value} {mg mb m : Str → Option Value} {op : Led} {a : Addr} {vals : List Value} {ns : List Int} {s : Shared} {Q : Flow → Shared → Prop} {E : Value → Shared → Prop}
    (T : Top p loose mean mg mb h₀) (KX : (hd.heap_39 w.params).In h₀) (hl : h₀.IsList a vals.toArray) (hI : IntsAre vals ns) (hn : ns.length ≤ 63) (F : Fr h₀ L s.heap m) (N : News h₀ L s.heap op) (hA : Room A 20) (hm : m "script" = some (.ref a))
    (hk : (scopeAt w.params 284).names.lookup ("script" : Str) = some NameKind.local) (hkind : (scopeAt w.params 284).kind = .function) (hc : (cellsFrom (L + 1) (scopeAt w.params 284).names []).map (·.2) = op.map (·.1)) (hnd : (op.map (·.1)).Nodup) (hcell : ∀ q ∈ op, ∃ v, q.2.data = .cell v)
    (hQ : ∀ h' tk', (∀ b o, h₀.get? b = some o → h'.get? b = some o) → Q (.ret (.bool true)) { s with heap := h', toks := tk' }) :
    wpAny (model prog w) A (execs (bodyAt w.params 284) (envOfC "law" (scopeAt w.params 284) L fa cd)) Q E s := by
  obtain ⟨oD, hoD, hmD⟩ := ns_obj F.ns
  have hnL : h₀.get? L = none := Heap.get?_none_of_le F.above
  have H : Hp h₀ s.heap ([] ++ ([] ++ (op ++ ((L, oD) :: [])))) := by
    refine ⟨F.keep, fun q hq => ?_, fun q hq => ?_, ?_⟩
    · simp only [List.nil_append, List.mem_append, List.mem_cons, List.not_mem_nil, or_false] at hq
      rcases hq with hq | rfl
      · exact (N q hq).1
      · exact hoD
    · simp only [List.nil_append, List.mem_append, List.mem_cons, List.not_mem_nil, or_false] at hq
      rcases hq with hq | rfl
      · exact (N q hq).2.2
      · exact hnL
    · simp only [List.nil_append, List.map_append, List.map_cons, List.map_nil]
      rw [List.nodup_append]
      refine ⟨hnd, by simp, fun x hx y hy e => ?_⟩
      rw [List.mem_singleton.mp hy] at e
      obtain ⟨q, hq, rfl⟩ := List.mem_map.mp hx
      exact (N q hq).2.1 e
  have K : CxOk ⟨prog, w, A, envOfC "law" (scopeAt w.params 284) L fa cd, h₀, 0, [], true⟩ 20 := by
    refine ⟨⟨KX, T.nolimit, ⟨mg, T.g⟩, ⟨mb, T.b, T.builtins⟩⟩, hA, hkind, rfl, rfl, ?_⟩
    have hp : ((cellsFrom (L + 1) (scopeAt w.params 284).names []).map (·.2)).Pairwise (· ≠ ·) := by rw [hc]; exact hnd
    exact List.pairwise_map.mp hp
  refine wpAny_mono (law_walk prog w A L fa cd [] h₀ 0 ns [] s hn K ⟨[], oD, op, m, H, rfl, hmD, ⟨fun y b e => ?_, fun y l e => ?_, fun y l e => ?_, fun y z l l' e => ?_, fun _ y k e1 e2 => ?_⟩⟩ Q hQ) (fun _ _ z => z) fun _ _ z => z.elim
  · dsimp only at e
    by_cases hy : y = "script"
    · subst hy
      have e' : evOf ["script"] [AV.lst (ns.map .int)] "script" = some (.val (.lst (ns.map .int))) := by rfl
      rw [e'] at e
      cases e
      obtain ⟨o, ho, hcl, k, hdat⟩ := hl
      have rep : ∀ {vs : List Value} {ns : List Int}, IntsAre vs ns → RepAll h₀ 0 [] vs (ns.map .int) := by
        intro vs ns h
        induction h with
        | nil => exact .nil
        | cons _ _ _ ih => exact .cons (.int _ _) ih
      exact ⟨.ref a, .inl ⟨hk, hm⟩, .lst (.inr ho) hcl hdat (rep hI)⟩
    · have e' : evOf ["script"] [AV.lst (ns.map .int)] y = none := by
        have hb : (y == ("script" : Str)) = false := by simpa using hy
        unfold evOf
        show Option.map Slot.val (List.lookup y [(("script" : Str), AV.lst (ns.map .int))]) = none
        rw [List.lookup_cons, hb]; rfl
      rw [e'] at e; cases e
  · unfold evOf at e
    dsimp only at e
    cases hq : ((["script"] : List Str).zip [AV.lst (ns.map .int)]).reverse.lookup y <;> rw [hq] at e <;> cases e
  · unfold evOf at e
    dsimp only at e
    cases hq : ((["script"] : List Str).zip [AV.lst (ns.map .int)]).reverse.lookup y <;> rw [hq] at e <;> cases e
  · unfold evOf at e
    dsimp only at e
    cases hq : ((["script"] : List Str).zip [AV.lst (ns.map .int)]).reverse.lookup y <;> rw [hq] at e <;> cases e
  · have hm2 : k ∈ (cellsFrom (L + 1) (scopeAt w.params 284).names []).map (·.2) := List.mem_map.mpr ⟨(y, k), mem_of_lookup e2, rfl⟩
    rw [hc] at hm2
    obtain ⟨q, hq, rfl⟩ := List.mem_map.mp hm2
    obtain ⟨v, hv⟩ := hcell q hq
    exact ⟨q.2, v, hq, hv⟩
theorem wsd : OpenLaw.wellSaid PySem.Challenge.rw_pq0966_01 = true := by
  unfold OpenLaw.wellSaid OpenRow.wellSaid OpenRow.partSaid looksOpen
  repeat' (with_reducible refine look_both ?_ ?_)
  all_goals decide +kernel
end Mine
open PySem PySem.W PyProof.Rows
set_option maxRecDepth 100000 in
set_option maxHeartbeats 8000000 in
theorem PySem.Challenge.cw_pq0966_01_holds : PySem.Challenge.rw_pq0966_01.Holds := by
  w_on
  refine holds_law Mine.wsd fun said => ?_
  refine holds_open (q := Mine.hd.view_39) (loose := Mine.hd.loose) (Xt := Mine.hd.xt) (XP := XL Mine.hd.view_39 []) (Yf := Hook.obs Mine.hd.hk) (Ya := Hook.val Mine.hd.hk) (YP := Hook.says Mine.hd.hk) (N := 3674) Mine.hd.left (Hook.of Mine.hd.hk) (Hook.keeps Mine.hd.hk) (fun s e => xl_of s (Bool.and_eq_true_iff.mp e).1) XL.keeps (by rfl) (by rfl) (by rfl) (fun s e => recFacts_of (Bool.and_eq_true_iff.mp e).2) (by rfl) (by first | assumption | decide +kernel) (by decide +kernel) ⟨rfl, rfl, rfl, rfl, rfl, by decide +kernel⟩ ?hw ?hc
  case hw => w_witness2
  w_strict (k_fill
            intro w s₀ s₁ mg mb G Y fa o pm cd doc dV kV ho hd hcd hD hmg hg args vals as hpre hlay hrd hwl hlo
            have KX := kIn_of Y
            have X := (Ground.X G).1
            have V := (Ground.X G).2
            refine Ground.open G ?_
            intro T B D TE TW
            try (refine guard_noD D (by decide +kernel) ?_; clear D)
            obtain ⟨_, _, M⟩ := bmod_of_top T
            have TA := at_of_top T
            try (obtain ⟨_, _, he, B0⟩ := based_of_top T rfl hmg ho hd; have he' : cd = _ := he; subst he'; clear he)
            clear hmg
            wrow_args hpre hlay hrd hwl hlo
            first | refine callC_kw (enter_call ?_) | refine enter_call ?_ | refine callC_kw (enter_callW ?_) | refine enter_callW ?_
            w_top on
            try refine codeAny_mono ?_ (fun _ _ g => GoodW.toG g)
            have K0 := below_caller (Top.heap T)
            w_call any ho hd hcd hD T F
            clear hd TA
            k_drop
            refine wpAny_mono (Mine.law_top (by assumption) (by assumption) (by assumption) (by assumption) ?_ (by assumption) (by assumption) ?_ ?_ ?_ ?_ ?_ ?_ ?_ ?_) (fun _ _ z => z) (fun _ _ z => z)
            · omega
            · exact ⟨rfl, by show 1 + claimMargin + 1 + 20 < 900; decide, by show 4 + 3 + 40 * 20 + 200 < cLine; decide⟩
            · rfl
            · rfl
            · rfl
            · rfl
            · refine List.nodup_cons.mpr ⟨?_, List.nodup_cons.mpr ⟨?_, List.nodup_cons.mpr ⟨?_, List.nodup_nil⟩⟩⟩ <;> simp <;> omega
            · intro q hq
              simp only [List.mem_cons, List.not_mem_nil, or_false] at hq
              rcases hq with rfl | rfl | rfl <;> exact ⟨_, by assumption⟩
            · intro h' tk' hkeep
              exact ⟨.inl ⟨.bool true, .bool true, [], rfl, fun _ => rfl, .bool true, postW_of (by wrow_shape) (w_eq_bool (w_res rfl) w_lit) rfl, unshared_nil⟩, hkeep, rfl, by assumption⟩)
