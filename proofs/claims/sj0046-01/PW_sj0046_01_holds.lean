import PyProof.Rows.All
import Wide.All
import OpenK.AllK
import Wide.FinOn
import PySem.Challenge.RW_sj0046_01
set_option Elab.async false
set_option maxRecDepth 1000000
set_option linter.unusedVariables false
set_option compiler.extract_closed false
set_option compiler.reuse false
set_option hygiene false
namespace Mine.hd
open PySem
/-- the statements of the program, by their places -/
def bd : List PySem.Stmt := PySem.Challenge.pw_sj0046_01.main.body
def nN (l : List PySem.Stmt) (i : Nat) : PySem.Stmt := l.getD i (.Pass ⟨0, 0, 0, 0⟩)
def sN (i : Nat) : PySem.Stmt := nN bd i
def fA : PySem.Stmt → PySem.Arguments
  | .FunctionDef _ a _ _ _ _ _ _ _ _ => a
  | _ => ⟨[], [], none, [], [], none, []⟩
def fB : PySem.Stmt → List PySem.Stmt
  | .FunctionDef _ _ b _ _ _ _ _ _ _ => b
  | .ClassDef _ _ _ b _ _ _ _ _ _ _ => b
  | _ => []
def fS : PySem.Stmt → PySem.Scope
  | .FunctionDef _ _ _ _ _ _ s _ _ _ => s
  | .ClassDef _ _ _ _ _ _ s _ _ _ _ => s
  | _ => PySem.Challenge.pw_sj0046_01.main.scope
noncomputable def view_39 : @Program := (let x0:@Program:=((@W.OpenRow.toRowW (@W.OpenLaw.row @Challenge.rw_sj0046_01))).1;(@Program.mk (let x1:@Module:=(@Program.main ((@W.OpenRow.toRowW (@W.OpenLaw.row @Challenge.rw_sj0046_01))).1);(@Module.mk (@List.cons @Stmt (sN 0) (@List.cons @Stmt (sN 2) (@List.cons @Stmt (sN 3) (@List.cons @Stmt (sN 5) (@List.cons @Stmt (sN 6) (@List.cons @Stmt (sN 7) (@List.cons @Stmt (sN 9) (@List.cons @Stmt (sN 10) (@List.cons @Stmt (sN 12) (@List.cons @Stmt (sN 13) (@List.cons @Stmt (sN 14) (@List.cons @Stmt (sN 16) (@List.cons @Stmt (sN 18) (@List.cons @Stmt (sN 19) (@List.cons @Stmt (sN 20) (@List.cons @Stmt (sN 21) (@List.cons @Stmt (sN 22) (@List.cons @Stmt (sN 23) (@List.cons @Stmt (sN 24) (@List.cons @Stmt (sN 25) (@List.cons @Stmt (sN 26) (@List.cons @Stmt (sN 27) (@List.nil @Stmt))))))))))))))))))))))) (@Module.scope x1) (@Module.futureAnnotations x1) (@Module.file x1) (@Module.more x1))) (@Program.modules x0) (@Program.parses x0) (@Program.absent x0) (@Program.harvested x0) (@Program.given x0)))
noncomputable def o_49 : Params→Obj := (fun x0=>(.mk .none (@none Nat) (.dict (List.toArray [(.mk (PyData.keyHash x0 (Str.ofString "type.__subclasses__.Exception.0")) (.str (Str.ofString "type.__subclasses__.Exception.0") 228) (.int 39 0)),(.mk (PyData.keyHash x0 (Str.ofString "type.__subclasses__.Exception.n")) (.str (Str.ofString "type.__subclasses__.Exception.n") 229) (.int 1 0))]) 2) (List.toArray [])))
noncomputable def o_373 : Params→Obj := (fun x0=>(.mk (.type "dict") (@none Nat) (.dict (List.toArray [(.mk (PyData.keyHash x0 (Str.ofString "__name__")) (.str (Str.ofString "__name__") 165) (.str (Str.ofString "law_sj0046_01") 652)),(.mk (PyData.keyHash x0 (Str.ofString "__doc__")) (.str (Str.ofString "__doc__") 166) .none),(.mk (PyData.keyHash x0 (Str.ofString "__package__")) (.str (Str.ofString "__package__") 167) .none),(.mk (PyData.keyHash x0 (Str.ofString "__loader__")) (.str (Str.ofString "__loader__") 168) (.builtin "__main__.__loader__#opaque")),(.mk (PyData.keyHash x0 (Str.ofString "__spec__")) (.str (Str.ofString "__spec__") 169) .none),(.mk (PyData.keyHash x0 (Str.ofString "__annotations__")) (.str (Str.ofString "__annotations__") 170) (.ref 6)),(.mk (PyData.keyHash x0 (Str.ofString "__builtins__")) (.str (Str.ofString "__builtins__") 171) (.ref 4)),(.mk (PyData.keyHash x0 (Str.ofString "__file__")) (.str (Str.ofString "__file__") 173) (.str (Str.ofString "/claim/cut.py") 172)),(.mk (PyData.keyHash x0 (Str.ofString "__cached__")) (.str (Str.ofString "__cached__") 174) .none),(.mk (PyData.keyHash x0 (Str.ofString "_wall")) (.str (Str.ofString "_wall") 193) (.ref 21)),(.mk (PyData.keyHash x0 (Str.ofString "GateloomError")) (.str (Str.ofString "GateloomError") 231) (.ref 39)),(.mk (PyData.keyHash x0 (Str.ofString "SynthError")) (.str (Str.ofString "SynthError") 247) (.ref 52)),(.mk (PyData.keyHash x0 (Str.ofString "Wires")) (.str (Str.ofString "Wires") 309) (.ref 85)),(.mk (PyData.keyHash x0 (Str.ofString "several")) (.str (Str.ofString "several") 316) (.ref 96)),(.mk (PyData.keyHash x0 (Str.ofString "state_name")) (.str (Str.ofString "state_name") 325) (.ref 103)),(.mk (PyData.keyHash x0 (Str.ofString "emit_row")) (.str (Str.ofString "emit_row") 344) (.ref 110)),(.mk (PyData.keyHash x0 (Str.ofString "check_variables")) (.str (Str.ofString "check_variables") 355) (.ref 117)),(.mk (PyData.keyHash x0 (Str.ofString "net_kinds")) (.str (Str.ofString "net_kinds") 363) (.ref 124)),(.mk (PyData.keyHash x0 (Str.ofString "Signal")) (.str (Str.ofString "Signal") 448) (.ref 176)),(.mk (PyData.keyHash x0 (Str.ofString "Design")) (.str (Str.ofString "Design") 548) (.ref 239)),(.mk (PyData.keyHash x0 (Str.ofString "Netlist")) (.str (Str.ofString "Netlist") 651) (.ref 316)),(.mk (PyData.keyHash x0 (Str.ofString "_law_purse")) (.str (Str.ofString "_law_purse") 663) (.ref 327)),(.mk (PyData.keyHash x0 (Str.ofString "_law_coin")) (.str (Str.ofString "_law_coin") 671) (.ref 334)),(.mk (PyData.keyHash x0 (Str.ofString "_law_names")) (.str (Str.ofString "_law_names") 677) (.ref 341)),(.mk (PyData.keyHash x0 (Str.ofString "_law_paths")) (.str (Str.ofString "_law_paths") 683) (.ref 348)),(.mk (PyData.keyHash x0 (Str.ofString "_law_design")) (.str (Str.ofString "_law_design") 691) (.ref 355)),(.mk (PyData.keyHash x0 (Str.ofString "_law_emitted")) (.str (Str.ofString "_law_emitted") 702) (.ref 362)),(.mk (PyData.keyHash x0 (Str.ofString "_law_checked")) (.str (Str.ofString "_law_checked") 711) (.ref 369)),(.mk (PyData.keyHash x0 (Str.ofString "_law_twice")) (.str (Str.ofString "_law_twice") 720) (.ref 376)),(.mk (PyData.keyHash x0 (Str.ofString "_law_case")) (.str (Str.ofString "_law_case") 740) (.ref 383)),(.mk (PyData.keyHash x0 (Str.ofString "law")) (.str (Str.ofString "law") 746) (.ref 388))]) 31) (List.toArray [])))
noncomputable def o_43 : Params→Obj := (fun x0=>(.mk (.type "tuple") (@none Nat) (.seq (List.toArray []) 0) (List.toArray [])))
noncomputable def o_374 : Params→Obj := (fun x0=>(.mk .none (@none Nat) (.fields (List.toArray ((.int 1 0)::((.int 0 0)::((.ref 20)::((.int 5 0)::((.int 0 0)::((.ref 27)::((.int 11 0)::((.int 0 0)::((.ref 48)::((.int 14 0)::((.int 0 0)::((.ref 60)::((.int 41 0)::((.int 0 0)::((.ref 95)::((.int 43 0)::((.int 0 0)::((.ref 102)::((.int 49 0)::((.int 0 0)::((.ref 109)::((.int 67 0)::((.int 0 0)::((.ref 116)::((.int 73 0)::((.int 0 0)::((.ref 123)::((.int 75 0)::((.int 0 0)::((.ref 130)::((.int 121 0)::((.int 0 0)::((.ref 186)::((.int 159 0)::((.int 0 0)::((.ref 249)::((.int 196 0)::((.int 0 0)::((.ref 326)::((.int 206 0)::((.int 0 0)::((.ref 333)::((.int 211 0)::((.int 0 0)::((.ref 340)::((.int 213 0)::((.int 0 0)::((.ref 347)::((.int 215 0)::((.int 0 0)::((.ref 354)::((.int 225 0)::((.int 0 0)::((.ref 361)::((.int 231 0)::((.int 0 0)::((.ref 368)::((.int 237 0)::((.int 0 0)::((.ref 375)::((.int 243 0)::((.int 0 0)::((.ref 382)::((.int 278 0)::((.int 0 0)::((.ref 387)::[])))))))))))))))))))))))))))))))))))))))))))))))))))))))))))))))))))) (List.toArray [])))
noncomputable def o_45 : Params→Obj := (fun x0=>(.mk (.type "code") (@none Nat) (.fields (List.toArray [(.str (Str.ofString "<module>") 182),(.str (Str.ofString "<module>") 183),(.str (Str.ofString "/claim/cut.py") 184),(.int 1 0),(.int 0 0),(.int 0 0),(.int 0 0),(.int 0 0),(.ref 11),(.bool false),(.int 181 0),(.ref 12),.none,.none,.none,.none,(.int 185 0),(.int 1 0),(.str (Str.ofString "/claim/cut.py") 186)])) (List.toArray [])))
noncomputable def o_46 : Params→Obj := (fun x0=>(.mk (.type "frame") (@none Nat) @Data.plain (List.toArray [(some (.ref 13)),(some (.ref 3)),(some (.ref 3)),(@Option.none.{0} @Value),(some (.str (Str.ofString "__main__") 164)),(@Option.none.{0} @Value),(some (.ref 0))])))
noncomputable def o_52 : Params→Obj := (fun x0=>(o_43 x0))
noncomputable def o_53 : Params→Obj := (fun x0=>(.mk .none (@none Nat) (.fields (List.toArray [])) (List.toArray [])))
noncomputable def o_54 : Params→Obj := (fun x0=>(.mk (.type "tuple") (@none Nat) (.seq (List.toArray [(.str (Str.ofString "k") 190)]) 0) (List.toArray [])))
noncomputable def o_55 : Params→Obj := (fun x0=>(o_43 x0))
noncomputable def o_56 : Params→Obj := (fun x0=>(.mk .none (@none Nat) (.func (.mk (Str.ofString "_wall") (Str.ofString "_wall") (fA (sN 0)) (.stmts (fB (sN 0))) (fS (sN 0)) 0 (@List.nil (Str×Nat)) .none .none .none .none (@none Nat) .none .none 0)) (List.toArray [])))
noncomputable def o_57 : Params→Obj := (fun x0=>(.mk (.type "code") (@none Nat) (.fields (List.toArray [(.str (Str.ofString "_wall") 187),(.str (Str.ofString "_wall") 188),(.str (Str.ofString "/claim/cut.py") 189),(.int 1 0),(.int 1 0),(.int 0 0),(.int 0 0),(.int 3 0),(.ref 15),(.bool true),(.int 181 0),(.ref 16),.none,(.ref 17),(.ref 18),(.ref 19),(.int 191 0),(.int 1 0),(.str (Str.ofString "/claim/cut.py") 192)])) (List.toArray [])))
noncomputable def o_58 : Params→Obj := (fun x0=>(.mk (.type "function") (@none Nat) (.func (.mk (Str.ofString "_wall") (Str.ofString "_wall") (fA (sN 0)) (.stmts (fB (sN 0))) (fS (sN 0)) 3 (@List.nil (Str×Nat)) .none .none .none (.str (Str.ofString "__main__") 164) (@none Nat) (.ref 20) .none 0)) (List.toArray [])))
noncomputable def o_59 : Params→Obj := (fun x0=>(.mk (.type "tuple") (@none Nat) (.seq (List.toArray [(.type "Exception")]) 0) (List.toArray [])))
noncomputable def o_60 : Params→Obj := (fun x0=>(.mk (.type "builtin_function_or_method") (@none Nat) (.fields (List.toArray [(.builtin "type.__prepare__"),(.type "type")])) (List.toArray [])))
noncomputable def o_61 : Params→Obj := (fun x0=>(.mk (.type "dict") (@none Nat) (.dict (List.toArray [(.mk (PyData.keyHash x0 (Str.ofString "__module__")) (.str (Str.ofString "__module__") 203) (.str (Str.ofString "gateloom.errors") 194)),(.mk (PyData.keyHash x0 (Str.ofString "__qualname__")) (.str (Str.ofString "__qualname__") 205) (.str (Str.ofString "GateloomError") 204)),(.mk (PyData.keyHash x0 (Str.ofString "__firstlineno__")) (.str (Str.ofString "__firstlineno__") 207) (.int 5 206)),(.mk (PyData.keyHash x0 (Str.ofString "__init__")) (.str (Str.ofString "__init__") 220) (.ref 36)),(.mk (PyData.keyHash x0 (Str.ofString "__static_attributes__")) (.str (Str.ofString "__static_attributes__") 224) (.ref 37))]) 5) (List.toArray [])))
noncomputable def o_62 : Params→Obj := (fun x0=>(o_43 x0))
noncomputable def o_63 : Params→Obj := (fun x0=>(.mk .none (@none Nat) (.fields (List.toArray [(.int 7 0),(.int 4 0),(.ref 35)])) (List.toArray [])))
noncomputable def o_64 : Params→Obj := (fun x0=>(.mk (.type "code") (@none Nat) (.fields (List.toArray [(.str (Str.ofString "GateloomError") 198),(.str (Str.ofString "GateloomError") 199),(.str (Str.ofString "/claim/cut.py") 200),(.int 5 0),(.int 0 0),(.int 0 0),(.int 0 0),(.int 0 0),(.ref 25),(.bool false),(.int 181 0),(.ref 26),.none,.none,.none,.none,(.int 201 0),(.int 5 0),(.str (Str.ofString "/claim/cut.py") 202)])) (List.toArray [])))
noncomputable def o_65 : Params→Obj := (fun x0=>(.mk (.type "frame") (@none Nat) @Data.plain (List.toArray [(some (.ref 27)),(some (.ref 3)),(some (.ref 24)),(@Option.none.{0} @Value),(some (.str (Str.ofString "gateloom.errors") 194)),(@Option.none.{0} @Value),(some (.ref 0))])))
noncomputable def o_66 : Params→Obj := (fun x0=>(.mk (.type "tuple") (@none Nat) (.seq (List.toArray [(@Value.int (@Neg.neg.{0} @Int @Int.instNegInt (@OfNat.ofNat.{0} @Int (nat_lit 1) (@instOfNat (nat_lit 1)))) 209),(.str (Str.ofString "") 210)]) 0) (List.toArray [])))
noncomputable def o_67 : Params→Obj := (fun x0=>(o_43 x0))
noncomputable def o_68 : Params→Obj := (fun x0=>(o_53 x0))
noncomputable def o_69 : Params→Obj := (fun x0=>(.mk (.type "tuple") (@none Nat) (.seq (List.toArray [(.str (Str.ofString "self") 214),(.str (Str.ofString "kind") 215),(.str (Str.ofString "at") 216),(.str (Str.ofString "detail") 217)]) 0) (List.toArray [])))
noncomputable def o_70 : Params→Obj := (fun x0=>(o_43 x0))
noncomputable def o_71 : Params→Obj := (fun x0=>(.mk .none (@none Nat) (.func (.mk (Str.ofString "__init__") (Str.ofString "GateloomError.__init__") (fA (nN (fB (sN 2)) 0)) (.stmts (fB (nN (fB (sN 2)) 0))) (fS (nN (fB (sN 2)) 0)) 0 (@List.nil (Str×Nat)) .none .none .none .none (@none Nat) .none .none 0)) (List.toArray [])))
noncomputable def o_72 : Params→Obj := (fun x0=>(.mk (.type "code") (@none Nat) (.fields (List.toArray [(.str (Str.ofString "__init__") 211),(.str (Str.ofString "GateloomError.__init__") 212),(.str (Str.ofString "/claim/cut.py") 213),(.int 7 0),(.int 4 0),(.int 0 0),(.int 0 0),(.int 3 0),(.ref 30),(.bool true),(.int 181 0),(.ref 31),.none,(.ref 32),(.ref 33),(.ref 34),(.int 218 0),(.int 7 0),(.str (Str.ofString "/claim/cut.py") 219)])) (List.toArray [])))
noncomputable def o_73 : Params→Obj := (fun x0=>(.mk (.type "function") (@none Nat) (.func (.mk (Str.ofString "__init__") (Str.ofString "GateloomError.__init__") (fA (nN (fB (sN 2)) 0)) (.stmts (fB (nN (fB (sN 2)) 0))) (fS (nN (fB (sN 2)) 0)) 3 (@List.nil (Str×Nat)) (.ref 29) .none .none (.str (Str.ofString "gateloom.errors") 194) (@none Nat) (.ref 35) .none 0)) (List.toArray [])))
noncomputable def o_74 : Params→Obj := (fun x0=>(.mk (.type "tuple") (@none Nat) (.seq (List.toArray [(.str (Str.ofString "at") 221),(.str (Str.ofString "detail") 222),(.str (Str.ofString "kind") 223)]) 0) (List.toArray [])))
noncomputable def o_75 : Params→Obj := (fun x0=>(.mk (.type "dict") (@none Nat) (.dict (List.toArray [(.mk (PyData.keyHash x0 (Str.ofString "__module__")) (.str (Str.ofString "__module__") 203) (.str (Str.ofString "gateloom.errors") 194)),(.mk (PyData.keyHash x0 (Str.ofString "__firstlineno__")) (.str (Str.ofString "__firstlineno__") 207) (.int 5 206)),(.mk (PyData.keyHash x0 (Str.ofString "__init__")) (.str (Str.ofString "__init__") 220) (.ref 36)),(.mk (PyData.keyHash x0 (Str.ofString "__static_attributes__")) (.str (Str.ofString "__static_attributes__") 224) (.ref 37)),(.mk (PyData.keyHash x0 (Str.ofString "__weakref__")) (.str (Str.ofString "__weakref__") 226) (.ref 40)),(.mk (PyData.keyHash x0 (Str.ofString "__doc__")) (.str (Str.ofString "__doc__") 227) .none)]) 3) (List.toArray [])))
noncomputable def o_82 : Params→Obj := (fun x0=>(.mk (.type "type") (@none Nat) (.cls (@ClassData.mk (Str.ofString "GateloomError") (@List.cons @Value (.type "Exception") (@List.nil @Value)) (@List.cons @Value (.ref 39) (@List.cons @Value (.type "Exception") (@List.cons @Value (.type "BaseException") (@List.cons @Value (.type "object") (@List.nil @Value))))) 38 (Str.ofString "GateloomError") @Bool.true (@List.nil @Str) (@List.cons @Value (.ref 52) (@List.nil @Value)) @Bool.false (@Option.none.{0} @Bool) @Bool.false)) (List.toArray [(some (.ref 22)),(@Option.none.{0} @Value),(some (.str (Str.ofString "GateloomError") 196)),(some (.str (Str.ofString "GateloomError") 204)),(some (.builtin "Exception.__new__")),(some (.bool true))])))
noncomputable def o_77 : Params→Obj := (fun x0=>(.mk (.type "getset_descriptor") (@none Nat) (.fields (List.toArray [(.str (Str.ofString "__weakref__") 225),(.ref 39),(.builtin "ExceptionGroup.__weakref__"),.none])) (List.toArray [])))
noncomputable def o_78 : Params→Obj := (fun x0=>(.mk (.type "super") (@none Nat) (.fields (List.toArray [(.ref 39),(.ref 39),(.ref 39)])) (List.toArray [])))
noncomputable def o_79 : Params→Obj := (fun x0=>(.mk (.type "builtin_function_or_method") (@none Nat) (.fields (List.toArray [(.builtin "object.__init_subclass__"),(.ref 39)])) (List.toArray [])))
noncomputable def o_83 : Params→Obj := (fun x0=>(.mk (.type "tuple") (@none Nat) (.seq (List.toArray [(.ref 39)]) 0) (List.toArray [])))
noncomputable def o_84 : Params→Obj := (fun x0=>(o_60 x0))
noncomputable def o_85 : Params→Obj := (fun x0=>(.mk (.type "dict") (@none Nat) (.dict (List.toArray [(.mk (PyData.keyHash x0 (Str.ofString "__module__")) (.str (Str.ofString "__module__") 239) (.str (Str.ofString "gateloom.errors") 194)),(.mk (PyData.keyHash x0 (Str.ofString "__qualname__")) (.str (Str.ofString "__qualname__") 241) (.str (Str.ofString "SynthError") 240)),(.mk (PyData.keyHash x0 (Str.ofString "__firstlineno__")) (.str (Str.ofString "__firstlineno__") 243) (.int 11 242)),(.mk (PyData.keyHash x0 (Str.ofString "__static_attributes__")) (.str (Str.ofString "__static_attributes__") 244) (.ref 50))]) 4) (List.toArray [])))
noncomputable def o_86 : Params→Obj := (fun x0=>(o_43 x0))
noncomputable def o_87 : Params→Obj := (fun x0=>(o_53 x0))
noncomputable def o_88 : Params→Obj := (fun x0=>(.mk (.type "code") (@none Nat) (.fields (List.toArray [(.str (Str.ofString "SynthError") 234),(.str (Str.ofString "SynthError") 235),(.str (Str.ofString "/claim/cut.py") 236),(.int 11 0),(.int 0 0),(.int 0 0),(.int 0 0),(.int 0 0),(.ref 46),(.bool false),(.int 181 0),(.ref 47),.none,.none,.none,.none,(.int 237 0),(.int 11 0),(.str (Str.ofString "/claim/cut.py") 238)])) (List.toArray [])))
noncomputable def o_89 : Params→Obj := (fun x0=>(.mk (.type "frame") (@none Nat) @Data.plain (List.toArray [(some (.ref 48)),(some (.ref 3)),(some (.ref 45)),(@Option.none.{0} @Value),(some (.str (Str.ofString "gateloom.errors") 194)),(@Option.none.{0} @Value),(some (.ref 0))])))
noncomputable def o_90 : Params→Obj := (fun x0=>(o_43 x0))
noncomputable def o_91 : Params→Obj := (fun x0=>(.mk (.type "dict") (@none Nat) (.dict (List.toArray [(.mk (PyData.keyHash x0 (Str.ofString "__module__")) (.str (Str.ofString "__module__") 239) (.str (Str.ofString "gateloom.errors") 194)),(.mk (PyData.keyHash x0 (Str.ofString "__firstlineno__")) (.str (Str.ofString "__firstlineno__") 243) (.int 11 242)),(.mk (PyData.keyHash x0 (Str.ofString "__static_attributes__")) (.str (Str.ofString "__static_attributes__") 244) (.ref 50)),(.mk (PyData.keyHash x0 (Str.ofString "__doc__")) (.str (Str.ofString "__doc__") 245) .none)]) 2) (List.toArray [])))
noncomputable def o_92 : Params→Obj := (fun x0=>(.mk (.type "type") (@none Nat) (.cls (@ClassData.mk (Str.ofString "SynthError") (@List.cons @Value (.ref 39) (@List.nil @Value)) (@List.cons @Value (.ref 52) (@List.cons @Value (.ref 39) (@List.cons @Value (.type "Exception") (@List.cons @Value (.type "BaseException") (@List.cons @Value (.type "object") (@List.nil @Value)))))) 51 (Str.ofString "SynthError") @Bool.true (@List.nil @Str) (@List.nil @Value) @Bool.false (@Option.none.{0} @Bool) @Bool.false)) (List.toArray [(some (.ref 43)),(@Option.none.{0} @Value),(some (.str (Str.ofString "SynthError") 232)),(some (.str (Str.ofString "SynthError") 240)),(some (.builtin "Exception.__new__")),(some (.bool true))])))
noncomputable def o_93 : Params→Obj := (fun x0=>(.mk (.type "super") (@none Nat) (.fields (List.toArray [(.ref 52),(.ref 52),(.ref 52)])) (List.toArray [])))
noncomputable def o_94 : Params→Obj := (fun x0=>(.mk (.type "builtin_function_or_method") (@none Nat) (.fields (List.toArray [(.builtin "object.__init_subclass__"),(.ref 52)])) (List.toArray [])))
noncomputable def o_97 : Params→Obj := (fun x0=>(o_43 x0))
noncomputable def o_98 : Params→Obj := (fun x0=>(o_60 x0))
noncomputable def o_99 : Params→Obj := (fun x0=>(.mk (.type "dict") (@none Nat) (.dict (List.toArray [(.mk (PyData.keyHash x0 (Str.ofString "__module__")) (.str (Str.ofString "__module__") 257) (.str (Str.ofString "gateloom.synthwires") 248)),(.mk (PyData.keyHash x0 (Str.ofString "__qualname__")) (.str (Str.ofString "__qualname__") 259) (.str (Str.ofString "Wires") 258)),(.mk (PyData.keyHash x0 (Str.ofString "__firstlineno__")) (.str (Str.ofString "__firstlineno__") 261) (.int 14 260)),(.mk (PyData.keyHash x0 (Str.ofString "__init__")) (.str (Str.ofString "__init__") 268) (.ref 68)),(.mk (PyData.keyHash x0 (Str.ofString "drive")) (.str (Str.ofString "drive") 279) (.ref 75)),(.mk (PyData.keyHash x0 (Str.ofString "pull")) (.str (Str.ofString "pull") 291) (.ref 82)),(.mk (PyData.keyHash x0 (Str.ofString "__static_attributes__")) (.str (Str.ofString "__static_attributes__") 302) (.ref 83))]) 7) (List.toArray [])))
noncomputable def o_100 : Params→Obj := (fun x0=>(o_43 x0))
noncomputable def o_101 : Params→Obj := (fun x0=>(.mk .none (@none Nat) (.fields (List.toArray [(.int 16 0),(.int 4 0),(.ref 67),(.int 28 0),(.int 4 0),(.ref 74),(.int 34 0),(.int 4 0),(.ref 81)])) (List.toArray [])))
noncomputable def o_102 : Params→Obj := (fun x0=>(.mk (.type "code") (@none Nat) (.fields (List.toArray [(.str (Str.ofString "Wires") 252),(.str (Str.ofString "Wires") 253),(.str (Str.ofString "/claim/cut.py") 254),(.int 14 0),(.int 0 0),(.int 0 0),(.int 0 0),(.int 0 0),(.ref 58),(.bool false),(.int 181 0),(.ref 59),.none,.none,.none,.none,(.int 255 0),(.int 14 0),(.str (Str.ofString "/claim/cut.py") 256)])) (List.toArray [])))
noncomputable def o_103 : Params→Obj := (fun x0=>(.mk (.type "frame") (@none Nat) @Data.plain (List.toArray [(some (.ref 60)),(some (.ref 3)),(some (.ref 57)),(@Option.none.{0} @Value),(some (.str (Str.ofString "gateloom.synthwires") 248)),(@Option.none.{0} @Value),(some (.ref 0))])))
noncomputable def o_104 : Params→Obj := (fun x0=>(o_43 x0))
noncomputable def o_105 : Params→Obj := (fun x0=>(o_53 x0))
noncomputable def o_106 : Params→Obj := (fun x0=>(.mk (.type "tuple") (@none Nat) (.seq (List.toArray [(.str (Str.ofString "self") 265)]) 0) (List.toArray [])))
noncomputable def o_107 : Params→Obj := (fun x0=>(o_43 x0))
noncomputable def o_108 : Params→Obj := (fun x0=>(.mk .none (@none Nat) (.func (.mk (Str.ofString "__init__") (Str.ofString "Wires.__init__") (fA (nN (fB (sN 5)) 0)) (.stmts (fB (nN (fB (sN 5)) 0))) (fS (nN (fB (sN 5)) 0)) 0 (@List.nil (Str×Nat)) .none .none .none .none (@none Nat) .none .none 0)) (List.toArray [])))
noncomputable def o_109 : Params→Obj := (fun x0=>(.mk (.type "code") (@none Nat) (.fields (List.toArray [(.str (Str.ofString "__init__") 262),(.str (Str.ofString "Wires.__init__") 263),(.str (Str.ofString "/claim/cut.py") 264),(.int 16 0),(.int 1 0),(.int 0 0),(.int 0 0),(.int 3 0),(.ref 62),(.bool true),(.int 181 0),(.ref 63),.none,(.ref 64),(.ref 65),(.ref 66),(.int 266 0),(.int 16 0),(.str (Str.ofString "/claim/cut.py") 267)])) (List.toArray [])))
noncomputable def o_110 : Params→Obj := (fun x0=>(.mk (.type "function") (@none Nat) (.func (.mk (Str.ofString "__init__") (Str.ofString "Wires.__init__") (fA (nN (fB (sN 5)) 0)) (.stmts (fB (nN (fB (sN 5)) 0))) (fS (nN (fB (sN 5)) 0)) 3 (@List.nil (Str×Nat)) .none .none .none (.str (Str.ofString "gateloom.synthwires") 248) (@none Nat) (.ref 67) .none 0)) (List.toArray [])))
noncomputable def o_111 : Params→Obj := (fun x0=>(o_43 x0))
noncomputable def o_112 : Params→Obj := (fun x0=>(o_53 x0))
noncomputable def o_113 : Params→Obj := (fun x0=>(.mk (.type "tuple") (@none Nat) (.seq (List.toArray [(.str (Str.ofString "self") 272),(.str (Str.ofString "key") 273),(.str (Str.ofString "bit") 274),(.str (Str.ofString "net") 275),(.str (Str.ofString "place") 276)]) 0) (List.toArray [])))
noncomputable def o_114 : Params→Obj := (fun x0=>(o_43 x0))
noncomputable def o_115 : Params→Obj := (fun x0=>(.mk .none (@none Nat) (.func (.mk (Str.ofString "drive") (Str.ofString "Wires.drive") (fA (nN (fB (sN 5)) 1)) (.stmts (fB (nN (fB (sN 5)) 1))) (fS (nN (fB (sN 5)) 1)) 0 (@List.nil (Str×Nat)) .none .none .none .none (@none Nat) .none .none 0)) (List.toArray [])))
noncomputable def o_116 : Params→Obj := (fun x0=>(.mk (.type "code") (@none Nat) (.fields (List.toArray [(.str (Str.ofString "drive") 269),(.str (Str.ofString "Wires.drive") 270),(.str (Str.ofString "/claim/cut.py") 271),(.int 28 0),(.int 4 0),(.int 0 0),(.int 0 0),(.int 3 0),(.ref 69),(.bool true),(.int 181 0),(.ref 70),.none,(.ref 71),(.ref 72),(.ref 73),(.int 277 0),(.int 28 0),(.str (Str.ofString "/claim/cut.py") 278)])) (List.toArray [])))
noncomputable def o_117 : Params→Obj := (fun x0=>(.mk (.type "function") (@none Nat) (.func (.mk (Str.ofString "drive") (Str.ofString "Wires.drive") (fA (nN (fB (sN 5)) 1)) (.stmts (fB (nN (fB (sN 5)) 1))) (fS (nN (fB (sN 5)) 1)) 3 (@List.nil (Str×Nat)) .none .none .none (.str (Str.ofString "gateloom.synthwires") 248) (@none Nat) (.ref 74) .none 0)) (List.toArray [])))
noncomputable def o_118 : Params→Obj := (fun x0=>(o_43 x0))
noncomputable def o_119 : Params→Obj := (fun x0=>(o_53 x0))
noncomputable def o_120 : Params→Obj := (fun x0=>(.mk (.type "tuple") (@none Nat) (.seq (List.toArray [(.str (Str.ofString "self") 283),(.str (Str.ofString "signal") 284),(.str (Str.ofString "bit") 285),(.str (Str.ofString "net") 286),(.str (Str.ofString "level") 287),(.str (Str.ofString "place") 288)]) 0) (List.toArray [])))
noncomputable def o_121 : Params→Obj := (fun x0=>(o_43 x0))
noncomputable def o_122 : Params→Obj := (fun x0=>(.mk .none (@none Nat) (.func (.mk (Str.ofString "pull") (Str.ofString "Wires.pull") (fA (nN (fB (sN 5)) 2)) (.stmts (fB (nN (fB (sN 5)) 2))) (fS (nN (fB (sN 5)) 2)) 0 (@List.nil (Str×Nat)) .none .none .none .none (@none Nat) .none .none 0)) (List.toArray [])))
noncomputable def o_123 : Params→Obj := (fun x0=>(.mk (.type "code") (@none Nat) (.fields (List.toArray [(.str (Str.ofString "pull") 280),(.str (Str.ofString "Wires.pull") 281),(.str (Str.ofString "/claim/cut.py") 282),(.int 34 0),(.int 5 0),(.int 0 0),(.int 0 0),(.int 3 0),(.ref 76),(.bool true),(.int 181 0),(.ref 77),.none,(.ref 78),(.ref 79),(.ref 80),(.int 289 0),(.int 34 0),(.str (Str.ofString "/claim/cut.py") 290)])) (List.toArray [])))
noncomputable def o_124 : Params→Obj := (fun x0=>(.mk (.type "function") (@none Nat) (.func (.mk (Str.ofString "pull") (Str.ofString "Wires.pull") (fA (nN (fB (sN 5)) 2)) (.stmts (fB (nN (fB (sN 5)) 2))) (fS (nN (fB (sN 5)) 2)) 3 (@List.nil (Str×Nat)) .none .none .none (.str (Str.ofString "gateloom.synthwires") 248) (@none Nat) (.ref 81) .none 0)) (List.toArray [])))
noncomputable def o_125 : Params→Obj := (fun x0=>(.mk (.type "tuple") (@none Nat) (.seq (List.toArray [(.str (Str.ofString "drivers") 292),(.str (Str.ofString "floating") 293),(.str (Str.ofString "initial") 294),(.str (Str.ofString "loose") 295),(.str (Str.ofString "names") 296),(.str (Str.ofString "nets") 297),(.str (Str.ofString "pulls") 298),(.str (Str.ofString "strong") 299),(.str (Str.ofString "unclear") 300),(.str (Str.ofString "uneven") 301)]) 0) (List.toArray [])))
noncomputable def o_126 : Params→Obj := (fun x0=>(.mk (.type "dict") (@none Nat) (.dict (List.toArray [(.mk (PyData.keyHash x0 (Str.ofString "__module__")) (.str (Str.ofString "__module__") 257) (.str (Str.ofString "gateloom.synthwires") 248)),(.mk (PyData.keyHash x0 (Str.ofString "__firstlineno__")) (.str (Str.ofString "__firstlineno__") 261) (.int 14 260)),(.mk (PyData.keyHash x0 (Str.ofString "__init__")) (.str (Str.ofString "__init__") 268) (.ref 68)),(.mk (PyData.keyHash x0 (Str.ofString "drive")) (.str (Str.ofString "drive") 279) (.ref 75)),(.mk (PyData.keyHash x0 (Str.ofString "pull")) (.str (Str.ofString "pull") 291) (.ref 82)),(.mk (PyData.keyHash x0 (Str.ofString "__static_attributes__")) (.str (Str.ofString "__static_attributes__") 302) (.ref 83)),(.mk (PyData.keyHash x0 (Str.ofString "__dict__")) (.str (Str.ofString "__dict__") 304) (.ref 86)),(.mk (PyData.keyHash x0 (Str.ofString "__weakref__")) (.str (Str.ofString "__weakref__") 306) (.ref 87)),(.mk (PyData.keyHash x0 (Str.ofString "__doc__")) (.str (Str.ofString "__doc__") 307) .none)]) 4) (List.toArray [])))
noncomputable def o_127 : Params→Obj := (fun x0=>(.mk (.type "type") (@none Nat) (.cls (@ClassData.mk (Str.ofString "Wires") (@List.cons @Value (.type "object") (@List.nil @Value)) (@List.cons @Value (.ref 85) (@List.cons @Value (.type "object") (@List.nil @Value))) 84 (Str.ofString "Wires") @Bool.true (@List.nil @Str) (@List.nil @Value) @Bool.false (@Option.none.{0} @Bool) @Bool.false)) (List.toArray [(@Option.none.{0} @Value),(@Option.none.{0} @Value),(some (.str (Str.ofString "Wires") 250)),(some (.str (Str.ofString "Wires") 258)),(some (.builtin "object.__new__")),(some (.bool true))])))
noncomputable def o_128 : Params→Obj := (fun x0=>(.mk (.type "getset_descriptor") (@none Nat) (.fields (List.toArray [(.str (Str.ofString "__dict__") 303),(.ref 85),(.builtin "function.__dict__"),(.builtin "function.__dict__#set")])) (List.toArray [])))
noncomputable def o_129 : Params→Obj := (fun x0=>(.mk (.type "getset_descriptor") (@none Nat) (.fields (List.toArray [(.str (Str.ofString "__weakref__") 305),(.ref 85),(.builtin "ExceptionGroup.__weakref__"),.none])) (List.toArray [])))
noncomputable def o_130 : Params→Obj := (fun x0=>(.mk (.type "super") (@none Nat) (.fields (List.toArray [(.ref 85),(.ref 85),(.ref 85)])) (List.toArray [])))
noncomputable def o_131 : Params→Obj := (fun x0=>(.mk (.type "builtin_function_or_method") (@none Nat) (.fields (List.toArray [(.builtin "object.__init_subclass__"),(.ref 85)])) (List.toArray [])))
noncomputable def o_132 : Params→Obj := (fun x0=>(o_43 x0))
noncomputable def o_133 : Params→Obj := (fun x0=>(o_53 x0))
noncomputable def o_134 : Params→Obj := (fun x0=>(.mk (.type "tuple") (@none Nat) (.seq (List.toArray [(.str (Str.ofString "signal") 313)]) 0) (List.toArray [])))
noncomputable def o_135 : Params→Obj := (fun x0=>(o_43 x0))
noncomputable def o_136 : Params→Obj := (fun x0=>(.mk .none (@none Nat) (.func (.mk (Str.ofString "several") (Str.ofString "several") (fA (sN 6)) (.stmts (fB (sN 6))) (fS (sN 6)) 0 (@List.nil (Str×Nat)) .none .none .none .none (@none Nat) .none .none 0)) (List.toArray [])))
noncomputable def o_137 : Params→Obj := (fun x0=>(.mk (.type "code") (@none Nat) (.fields (List.toArray [(.str (Str.ofString "several") 310),(.str (Str.ofString "several") 311),(.str (Str.ofString "/claim/cut.py") 312),(.int 41 0),(.int 1 0),(.int 0 0),(.int 0 0),(.int 3 0),(.ref 90),(.bool true),(.int 181 0),(.ref 91),.none,(.ref 92),(.ref 93),(.ref 94),(.int 314 0),(.int 41 0),(.str (Str.ofString "/claim/cut.py") 315)])) (List.toArray [])))
noncomputable def o_138 : Params→Obj := (fun x0=>(.mk (.type "function") (@none Nat) (.func (.mk (Str.ofString "several") (Str.ofString "several") (fA (sN 6)) (.stmts (fB (sN 6))) (fS (sN 6)) 3 (@List.nil (Str×Nat)) .none .none .none (.str (Str.ofString "gateloom.synthwires") 248) (@none Nat) (.ref 95) .none 0)) (List.toArray [])))
noncomputable def o_139 : Params→Obj := (fun x0=>(o_43 x0))
noncomputable def o_140 : Params→Obj := (fun x0=>(o_53 x0))
noncomputable def o_141 : Params→Obj := (fun x0=>(.mk (.type "tuple") (@none Nat) (.seq (List.toArray [(.str (Str.ofString "signal") 320),(.str (Str.ofString "bit") 321),(.str (Str.ofString "path") 322)]) 0) (List.toArray [])))
noncomputable def o_142 : Params→Obj := (fun x0=>(o_43 x0))
noncomputable def o_143 : Params→Obj := (fun x0=>(.mk .none (@none Nat) (.func (.mk (Str.ofString "state_name") (Str.ofString "state_name") (fA (sN 7)) (.stmts (fB (sN 7))) (fS (sN 7)) 0 (@List.nil (Str×Nat)) .none .none .none .none (@none Nat) .none .none 0)) (List.toArray [])))
noncomputable def o_144 : Params→Obj := (fun x0=>(.mk (.type "code") (@none Nat) (.fields (List.toArray [(.str (Str.ofString "state_name") 317),(.str (Str.ofString "state_name") 318),(.str (Str.ofString "/claim/cut.py") 319),(.int 43 0),(.int 2 0),(.int 0 0),(.int 0 0),(.int 3 0),(.ref 97),(.bool true),(.int 181 0),(.ref 98),.none,(.ref 99),(.ref 100),(.ref 101),(.int 323 0),(.int 43 0),(.str (Str.ofString "/claim/cut.py") 324)])) (List.toArray [])))
noncomputable def o_145 : Params→Obj := (fun x0=>(.mk (.type "function") (@none Nat) (.func (.mk (Str.ofString "state_name") (Str.ofString "state_name") (fA (sN 7)) (.stmts (fB (sN 7))) (fS (sN 7)) 3 (@List.nil (Str×Nat)) .none .none .none (.str (Str.ofString "gateloom.synthwires") 248) (@none Nat) (.ref 102) .none 0)) (List.toArray [])))
noncomputable def o_148 : Params→Obj := (fun x0=>(o_43 x0))
noncomputable def o_149 : Params→Obj := (fun x0=>(o_53 x0))
noncomputable def o_150 : Params→Obj := (fun x0=>(.mk (.type "tuple") (@none Nat) (.seq (List.toArray [(.str (Str.ofString "wires") 331),(.str (Str.ofString "netlist") 332),(.str (Str.ofString "design") 333),(.str (Str.ofString "row") 334),(.str (Str.ofString "kind") 335),(.str (Str.ofString "key") 336),(.str (Str.ofString "bit") 337),(.str (Str.ofString "signal") 338),(.str (Str.ofString "name") 339),(.str (Str.ofString "init") 340),(.str (Str.ofString "out") 341)]) 0) (List.toArray [])))
noncomputable def o_151 : Params→Obj := (fun x0=>(o_43 x0))
noncomputable def o_152 : Params→Obj := (fun x0=>(.mk .none (@none Nat) (.func (.mk (Str.ofString "emit_row") (Str.ofString "emit_row") (fA (sN 9)) (.stmts (fB (sN 9))) (fS (sN 9)) 0 (@List.nil (Str×Nat)) .none .none .none .none (@none Nat) .none .none 0)) (List.toArray [])))
noncomputable def o_153 : Params→Obj := (fun x0=>(.mk (.type "code") (@none Nat) (.fields (List.toArray [(.str (Str.ofString "emit_row") 328),(.str (Str.ofString "emit_row") 329),(.str (Str.ofString "/claim/cut.py") 330),(.int 49 0),(.int 4 0),(.int 0 0),(.int 0 0),(.int 3 0),(.ref 104),(.bool true),(.int 181 0),(.ref 105),.none,(.ref 106),(.ref 107),(.ref 108),(.int 342 0),(.int 49 0),(.str (Str.ofString "/claim/cut.py") 343)])) (List.toArray [])))
noncomputable def o_154 : Params→Obj := (fun x0=>(.mk (.type "function") (@none Nat) (.func (.mk (Str.ofString "emit_row") (Str.ofString "emit_row") (fA (sN 9)) (.stmts (fB (sN 9))) (fS (sN 9)) 3 (@List.nil (Str×Nat)) .none .none .none (.str (Str.ofString "gateloom.synthmod") 326) (@none Nat) (.ref 109) .none 0)) (List.toArray [])))
noncomputable def o_155 : Params→Obj := (fun x0=>(o_43 x0))
noncomputable def o_156 : Params→Obj := (fun x0=>(o_53 x0))
noncomputable def o_157 : Params→Obj := (fun x0=>(.mk (.type "tuple") (@none Nat) (.seq (List.toArray [(.str (Str.ofString "wires") 348),(.str (Str.ofString "design") 349),(.str (Str.ofString "key") 350),(.str (Str.ofString "bit") 351),(.str (Str.ofString "signal") 352)]) 0) (List.toArray [])))
noncomputable def o_158 : Params→Obj := (fun x0=>(o_43 x0))
noncomputable def o_159 : Params→Obj := (fun x0=>(.mk .none (@none Nat) (.func (.mk (Str.ofString "check_variables") (Str.ofString "check_variables") (fA (sN 10)) (.stmts (fB (sN 10))) (fS (sN 10)) 0 (@List.nil (Str×Nat)) .none .none .none .none (@none Nat) .none .none 0)) (List.toArray [])))
noncomputable def o_160 : Params→Obj := (fun x0=>(.mk (.type "code") (@none Nat) (.fields (List.toArray [(.str (Str.ofString "check_variables") 345),(.str (Str.ofString "check_variables") 346),(.str (Str.ofString "/claim/cut.py") 347),(.int 67 0),(.int 2 0),(.int 0 0),(.int 0 0),(.int 3 0),(.ref 111),(.bool true),(.int 181 0),(.ref 112),.none,(.ref 113),(.ref 114),(.ref 115),(.int 353 0),(.int 67 0),(.str (Str.ofString "/claim/cut.py") 354)])) (List.toArray [])))
noncomputable def o_161 : Params→Obj := (fun x0=>(.mk (.type "function") (@none Nat) (.func (.mk (Str.ofString "check_variables") (Str.ofString "check_variables") (fA (sN 10)) (.stmts (fB (sN 10))) (fS (sN 10)) 3 (@List.nil (Str×Nat)) .none .none .none (.str (Str.ofString "gateloom.synthmod") 326) (@none Nat) (.ref 116) .none 0)) (List.toArray [])))
noncomputable def o_162 : Params→Obj := (fun x0=>(o_43 x0))
noncomputable def o_163 : Params→Obj := (fun x0=>(o_53 x0))
noncomputable def o_164 : Params→Obj := (fun x0=>(o_43 x0))
noncomputable def o_165 : Params→Obj := (fun x0=>(o_43 x0))
noncomputable def o_166 : Params→Obj := (fun x0=>(.mk .none (@none Nat) (.func (.mk (Str.ofString "net_kinds") (Str.ofString "net_kinds") (fA (sN 12)) (.stmts (fB (sN 12))) (fS (sN 12)) 0 (@List.nil (Str×Nat)) .none .none .none .none (@none Nat) .none .none 0)) (List.toArray [])))
noncomputable def o_167 : Params→Obj := (fun x0=>(.mk (.type "code") (@none Nat) (.fields (List.toArray [(.str (Str.ofString "net_kinds") 358),(.str (Str.ofString "net_kinds") 359),(.str (Str.ofString "/claim/cut.py") 360),(.int 73 0),(.int 0 0),(.int 0 0),(.int 0 0),(.int 3 0),(.ref 118),(.bool true),(.int 181 0),(.ref 119),.none,(.ref 120),(.ref 121),(.ref 122),(.int 361 0),(.int 73 0),(.str (Str.ofString "/claim/cut.py") 362)])) (List.toArray [])))
noncomputable def o_168 : Params→Obj := (fun x0=>(.mk (.type "function") (@none Nat) (.func (.mk (Str.ofString "net_kinds") (Str.ofString "net_kinds") (fA (sN 12)) (.stmts (fB (sN 12))) (fS (sN 12)) 3 (@List.nil (Str×Nat)) .none .none .none (.str (Str.ofString "gateloom.design") 356) (@none Nat) (.ref 123) .none 0)) (List.toArray [])))
noncomputable def o_171 : Params→Obj := (fun x0=>(o_43 x0))
noncomputable def o_172 : Params→Obj := (fun x0=>(o_60 x0))
noncomputable def o_173 : Params→Obj := (fun x0=>(.mk (.type "dict") (@none Nat) (.dict (List.toArray [(.mk (PyData.keyHash x0 (Str.ofString "__module__")) (.str (Str.ofString "__module__") 371) (.str (Str.ofString "gateloom.design") 356)),(.mk (PyData.keyHash x0 (Str.ofString "__qualname__")) (.str (Str.ofString "__qualname__") 373) (.str (Str.ofString "Signal") 372)),(.mk (PyData.keyHash x0 (Str.ofString "__firstlineno__")) (.str (Str.ofString "__firstlineno__") 375) (.int 75 374)),(.mk (PyData.keyHash x0 (Str.ofString "__init__")) (.str (Str.ofString "__init__") 389) (.ref 138)),(.mk (PyData.keyHash x0 (Str.ofString "is_net")) (.str (Str.ofString "is_net") 396) (.ref 145)),(.mk (PyData.keyHash x0 (Str.ofString "is_memory")) (.str (Str.ofString "is_memory") 403) (.ref 152)),(.mk (PyData.keyHash x0 (Str.ofString "words")) (.str (Str.ofString "words") 410) (.ref 159)),(.mk (PyData.keyHash x0 (Str.ofString "offset")) (.str (Str.ofString "offset") 419) (.ref 166)),(.mk (PyData.keyHash x0 (Str.ofString "place")) (.str (Str.ofString "place") 428) (.ref 173)),(.mk (PyData.keyHash x0 (Str.ofString "__static_attributes__")) (.str (Str.ofString "__static_attributes__") 441) (.ref 174))]) 10) (List.toArray [])))
noncomputable def o_174 : Params→Obj := (fun x0=>(o_43 x0))
noncomputable def o_175 : Params→Obj := (fun x0=>(.mk .none (@none Nat) (.fields (List.toArray [(.int 77 0),(.int 4 0),(.ref 137),(.int 91 0),(.int 4 0),(.ref 144),(.int 94 0),(.int 4 0),(.ref 151),(.int 97 0),(.int 4 0),(.ref 158),(.int 102 0),(.int 4 0),(.ref 165),(.int 111 0),(.int 4 0),(.ref 172)])) (List.toArray [])))
noncomputable def o_176 : Params→Obj := (fun x0=>(.mk (.type "code") (@none Nat) (.fields (List.toArray [(.str (Str.ofString "Signal") 366),(.str (Str.ofString "Signal") 367),(.str (Str.ofString "/claim/cut.py") 368),(.int 75 0),(.int 0 0),(.int 0 0),(.int 0 0),(.int 0 0),(.ref 128),(.bool false),(.int 181 0),(.ref 129),.none,.none,.none,.none,(.int 369 0),(.int 75 0),(.str (Str.ofString "/claim/cut.py") 370)])) (List.toArray [])))
noncomputable def o_177 : Params→Obj := (fun x0=>(.mk (.type "frame") (@none Nat) @Data.plain (List.toArray [(some (.ref 130)),(some (.ref 3)),(some (.ref 127)),(@Option.none.{0} @Value),(some (.str (Str.ofString "gateloom.design") 356)),(@Option.none.{0} @Value),(some (.ref 0))])))
noncomputable def o_178 : Params→Obj := (fun x0=>(o_43 x0))
noncomputable def o_179 : Params→Obj := (fun x0=>(o_53 x0))
noncomputable def o_180 : Params→Obj := (fun x0=>(.mk (.type "tuple") (@none Nat) (.seq (List.toArray [(.str (Str.ofString "self") 379),(.str (Str.ofString "key") 380),(.str (Str.ofString "path") 381),(.str (Str.ofString "kind") 382),(.str (Str.ofString "width") 383),(.str (Str.ofString "signed") 384),(.str (Str.ofString "msb") 385),(.str (Str.ofString "lsb") 386)]) 0) (List.toArray [])))
noncomputable def o_181 : Params→Obj := (fun x0=>(o_43 x0))
noncomputable def o_182 : Params→Obj := (fun x0=>(.mk .none (@none Nat) (.func (.mk (Str.ofString "__init__") (Str.ofString "Signal.__init__") (fA (nN (fB (sN 13)) 0)) (.stmts (fB (nN (fB (sN 13)) 0))) (fS (nN (fB (sN 13)) 0)) 0 (@List.nil (Str×Nat)) .none .none .none .none (@none Nat) .none .none 0)) (List.toArray [])))
noncomputable def o_183 : Params→Obj := (fun x0=>(.mk (.type "code") (@none Nat) (.fields (List.toArray [(.str (Str.ofString "__init__") 376),(.str (Str.ofString "Signal.__init__") 377),(.str (Str.ofString "/claim/cut.py") 378),(.int 77 0),(.int 8 0),(.int 0 0),(.int 0 0),(.int 3 0),(.ref 132),(.bool true),(.int 181 0),(.ref 133),.none,(.ref 134),(.ref 135),(.ref 136),(.int 387 0),(.int 77 0),(.str (Str.ofString "/claim/cut.py") 388)])) (List.toArray [])))
noncomputable def o_184 : Params→Obj := (fun x0=>(.mk (.type "function") (@none Nat) (.func (.mk (Str.ofString "__init__") (Str.ofString "Signal.__init__") (fA (nN (fB (sN 13)) 0)) (.stmts (fB (nN (fB (sN 13)) 0))) (fS (nN (fB (sN 13)) 0)) 3 (@List.nil (Str×Nat)) .none .none .none (.str (Str.ofString "gateloom.design") 356) (@none Nat) (.ref 137) .none 0)) (List.toArray [])))
noncomputable def o_185 : Params→Obj := (fun x0=>(o_43 x0))
noncomputable def o_186 : Params→Obj := (fun x0=>(o_53 x0))
noncomputable def o_187 : Params→Obj := (fun x0=>(.mk (.type "tuple") (@none Nat) (.seq (List.toArray [(.str (Str.ofString "self") 393)]) 0) (List.toArray [])))
noncomputable def o_188 : Params→Obj := (fun x0=>(o_43 x0))
noncomputable def o_189 : Params→Obj := (fun x0=>(.mk .none (@none Nat) (.func (.mk (Str.ofString "is_net") (Str.ofString "Signal.is_net") (fA (nN (fB (sN 13)) 1)) (.stmts (fB (nN (fB (sN 13)) 1))) (fS (nN (fB (sN 13)) 1)) 0 (@List.nil (Str×Nat)) .none .none .none .none (@none Nat) .none .none 0)) (List.toArray [])))
noncomputable def o_190 : Params→Obj := (fun x0=>(.mk (.type "code") (@none Nat) (.fields (List.toArray [(.str (Str.ofString "is_net") 390),(.str (Str.ofString "Signal.is_net") 391),(.str (Str.ofString "/claim/cut.py") 392),(.int 91 0),(.int 1 0),(.int 0 0),(.int 0 0),(.int 3 0),(.ref 139),(.bool true),(.int 181 0),(.ref 140),.none,(.ref 141),(.ref 142),(.ref 143),(.int 394 0),(.int 91 0),(.str (Str.ofString "/claim/cut.py") 395)])) (List.toArray [])))
noncomputable def o_191 : Params→Obj := (fun x0=>(.mk (.type "function") (@none Nat) (.func (.mk (Str.ofString "is_net") (Str.ofString "Signal.is_net") (fA (nN (fB (sN 13)) 1)) (.stmts (fB (nN (fB (sN 13)) 1))) (fS (nN (fB (sN 13)) 1)) 3 (@List.nil (Str×Nat)) .none .none .none (.str (Str.ofString "gateloom.design") 356) (@none Nat) (.ref 144) .none 0)) (List.toArray [])))
noncomputable def o_192 : Params→Obj := (fun x0=>(o_43 x0))
noncomputable def o_193 : Params→Obj := (fun x0=>(o_53 x0))
noncomputable def o_194 : Params→Obj := (fun x0=>(.mk (.type "tuple") (@none Nat) (.seq (List.toArray [(.str (Str.ofString "self") 400)]) 0) (List.toArray [])))
noncomputable def o_195 : Params→Obj := (fun x0=>(o_43 x0))
noncomputable def o_196 : Params→Obj := (fun x0=>(.mk .none (@none Nat) (.func (.mk (Str.ofString "is_memory") (Str.ofString "Signal.is_memory") (fA (nN (fB (sN 13)) 2)) (.stmts (fB (nN (fB (sN 13)) 2))) (fS (nN (fB (sN 5)) 0)) 0 (@List.nil (Str×Nat)) .none .none .none .none (@none Nat) .none .none 0)) (List.toArray [])))
noncomputable def o_197 : Params→Obj := (fun x0=>(.mk (.type "code") (@none Nat) (.fields (List.toArray [(.str (Str.ofString "is_memory") 397),(.str (Str.ofString "Signal.is_memory") 398),(.str (Str.ofString "/claim/cut.py") 399),(.int 94 0),(.int 1 0),(.int 0 0),(.int 0 0),(.int 3 0),(.ref 146),(.bool true),(.int 181 0),(.ref 147),.none,(.ref 148),(.ref 149),(.ref 150),(.int 401 0),(.int 94 0),(.str (Str.ofString "/claim/cut.py") 402)])) (List.toArray [])))
noncomputable def o_198 : Params→Obj := (fun x0=>(.mk (.type "function") (@none Nat) (.func (.mk (Str.ofString "is_memory") (Str.ofString "Signal.is_memory") (fA (nN (fB (sN 13)) 2)) (.stmts (fB (nN (fB (sN 13)) 2))) (fS (nN (fB (sN 5)) 0)) 3 (@List.nil (Str×Nat)) .none .none .none (.str (Str.ofString "gateloom.design") 356) (@none Nat) (.ref 151) .none 0)) (List.toArray [])))
noncomputable def o_199 : Params→Obj := (fun x0=>(o_43 x0))
noncomputable def o_200 : Params→Obj := (fun x0=>(o_53 x0))
noncomputable def o_201 : Params→Obj := (fun x0=>(.mk (.type "tuple") (@none Nat) (.seq (List.toArray [(.str (Str.ofString "self") 407)]) 0) (List.toArray [])))
noncomputable def o_202 : Params→Obj := (fun x0=>(o_43 x0))
noncomputable def o_203 : Params→Obj := (fun x0=>(.mk .none (@none Nat) (.func (.mk (Str.ofString "words") (Str.ofString "Signal.words") (fA (nN (fB (sN 13)) 3)) (.stmts (fB (nN (fB (sN 13)) 3))) (fS (nN (fB (sN 13)) 3)) 0 (@List.nil (Str×Nat)) .none .none .none .none (@none Nat) .none .none 0)) (List.toArray [])))
noncomputable def o_204 : Params→Obj := (fun x0=>(.mk (.type "code") (@none Nat) (.fields (List.toArray [(.str (Str.ofString "words") 404),(.str (Str.ofString "Signal.words") 405),(.str (Str.ofString "/claim/cut.py") 406),(.int 97 0),(.int 1 0),(.int 0 0),(.int 0 0),(.int 3 0),(.ref 153),(.bool true),(.int 181 0),(.ref 154),.none,(.ref 155),(.ref 156),(.ref 157),(.int 408 0),(.int 97 0),(.str (Str.ofString "/claim/cut.py") 409)])) (List.toArray [])))
noncomputable def o_205 : Params→Obj := (fun x0=>(.mk (.type "function") (@none Nat) (.func (.mk (Str.ofString "words") (Str.ofString "Signal.words") (fA (nN (fB (sN 13)) 3)) (.stmts (fB (nN (fB (sN 13)) 3))) (fS (nN (fB (sN 13)) 3)) 3 (@List.nil (Str×Nat)) .none .none .none (.str (Str.ofString "gateloom.design") 356) (@none Nat) (.ref 158) .none 0)) (List.toArray [])))
noncomputable def o_206 : Params→Obj := (fun x0=>(o_43 x0))
noncomputable def o_207 : Params→Obj := (fun x0=>(o_53 x0))
noncomputable def o_208 : Params→Obj := (fun x0=>(.mk (.type "tuple") (@none Nat) (.seq (List.toArray [(.str (Str.ofString "self") 414),(.str (Str.ofString "index") 415),(.str (Str.ofString "place") 416)]) 0) (List.toArray [])))
noncomputable def o_209 : Params→Obj := (fun x0=>(o_43 x0))
noncomputable def o_210 : Params→Obj := (fun x0=>(.mk .none (@none Nat) (.func (.mk (Str.ofString "offset") (Str.ofString "Signal.offset") (fA (nN (fB (sN 13)) 4)) (.stmts (fB (nN (fB (sN 13)) 4))) (fS (nN (fB (sN 13)) 4)) 0 (@List.nil (Str×Nat)) .none .none .none .none (@none Nat) .none .none 0)) (List.toArray [])))
noncomputable def o_211 : Params→Obj := (fun x0=>(.mk (.type "code") (@none Nat) (.fields (List.toArray [(.str (Str.ofString "offset") 411),(.str (Str.ofString "Signal.offset") 412),(.str (Str.ofString "/claim/cut.py") 413),(.int 102 0),(.int 2 0),(.int 0 0),(.int 0 0),(.int 3 0),(.ref 160),(.bool true),(.int 181 0),(.ref 161),.none,(.ref 162),(.ref 163),(.ref 164),(.int 417 0),(.int 102 0),(.str (Str.ofString "/claim/cut.py") 418)])) (List.toArray [])))
noncomputable def o_212 : Params→Obj := (fun x0=>(.mk (.type "function") (@none Nat) (.func (.mk (Str.ofString "offset") (Str.ofString "Signal.offset") (fA (nN (fB (sN 13)) 4)) (.stmts (fB (nN (fB (sN 13)) 4))) (fS (nN (fB (sN 13)) 4)) 3 (@List.nil (Str×Nat)) .none .none .none (.str (Str.ofString "gateloom.design") 356) (@none Nat) (.ref 165) .none 0)) (List.toArray [])))
noncomputable def o_213 : Params→Obj := (fun x0=>(o_43 x0))
noncomputable def o_214 : Params→Obj := (fun x0=>(o_53 x0))
noncomputable def o_215 : Params→Obj := (fun x0=>(.mk (.type "tuple") (@none Nat) (.seq (List.toArray [(.str (Str.ofString "self") 423),(.str (Str.ofString "index") 424),(.str (Str.ofString "place") 425)]) 0) (List.toArray [])))
noncomputable def o_216 : Params→Obj := (fun x0=>(o_43 x0))
noncomputable def o_217 : Params→Obj := (fun x0=>(.mk .none (@none Nat) (.func (.mk (Str.ofString "place") (Str.ofString "Signal.place") (fA (nN (fB (sN 13)) 5)) (.stmts (fB (nN (fB (sN 13)) 5))) (fS (nN (fB (sN 13)) 4)) 0 (@List.nil (Str×Nat)) .none .none .none .none (@none Nat) .none .none 0)) (List.toArray [])))
noncomputable def o_218 : Params→Obj := (fun x0=>(.mk (.type "code") (@none Nat) (.fields (List.toArray [(.str (Str.ofString "place") 420),(.str (Str.ofString "Signal.place") 421),(.str (Str.ofString "/claim/cut.py") 422),(.int 111 0),(.int 2 0),(.int 0 0),(.int 0 0),(.int 3 0),(.ref 167),(.bool true),(.int 181 0),(.ref 168),.none,(.ref 169),(.ref 170),(.ref 171),(.int 426 0),(.int 111 0),(.str (Str.ofString "/claim/cut.py") 427)])) (List.toArray [])))
noncomputable def o_219 : Params→Obj := (fun x0=>(.mk (.type "function") (@none Nat) (.func (.mk (Str.ofString "place") (Str.ofString "Signal.place") (fA (nN (fB (sN 13)) 5)) (.stmts (fB (nN (fB (sN 13)) 5))) (fS (nN (fB (sN 13)) 4)) 3 (@List.nil (Str×Nat)) .none .none .none (.str (Str.ofString "gateloom.design") 356) (@none Nat) (.ref 172) .none 0)) (List.toArray [])))
noncomputable def o_220 : Params→Obj := (fun x0=>(.mk (.type "tuple") (@none Nat) (.seq (List.toArray [(.str (Str.ofString "at") 429),(.str (Str.ofString "first") 430),(.str (Str.ofString "init") 431),(.str (Str.ofString "key") 432),(.str (Str.ofString "kind") 433),(.str (Str.ofString "last") 434),(.str (Str.ofString "lsb") 435),(.str (Str.ofString "msb") 436),(.str (Str.ofString "path") 437),(.str (Str.ofString "scalar") 438),(.str (Str.ofString "signed") 439),(.str (Str.ofString "width") 440)]) 0) (List.toArray [])))
noncomputable def o_221 : Params→Obj := (fun x0=>(.mk (.type "dict") (@none Nat) (.dict (List.toArray [(.mk (PyData.keyHash x0 (Str.ofString "__module__")) (.str (Str.ofString "__module__") 371) (.str (Str.ofString "gateloom.design") 356)),(.mk (PyData.keyHash x0 (Str.ofString "__firstlineno__")) (.str (Str.ofString "__firstlineno__") 375) (.int 75 374)),(.mk (PyData.keyHash x0 (Str.ofString "__init__")) (.str (Str.ofString "__init__") 389) (.ref 138)),(.mk (PyData.keyHash x0 (Str.ofString "is_net")) (.str (Str.ofString "is_net") 396) (.ref 145)),(.mk (PyData.keyHash x0 (Str.ofString "is_memory")) (.str (Str.ofString "is_memory") 403) (.ref 152)),(.mk (PyData.keyHash x0 (Str.ofString "words")) (.str (Str.ofString "words") 410) (.ref 159)),(.mk (PyData.keyHash x0 (Str.ofString "offset")) (.str (Str.ofString "offset") 419) (.ref 166)),(.mk (PyData.keyHash x0 (Str.ofString "place")) (.str (Str.ofString "place") 428) (.ref 173)),(.mk (PyData.keyHash x0 (Str.ofString "__static_attributes__")) (.str (Str.ofString "__static_attributes__") 441) (.ref 174)),(.mk (PyData.keyHash x0 (Str.ofString "__dict__")) (.str (Str.ofString "__dict__") 443) (.ref 177)),(.mk (PyData.keyHash x0 (Str.ofString "__weakref__")) (.str (Str.ofString "__weakref__") 445) (.ref 178)),(.mk (PyData.keyHash x0 (Str.ofString "__doc__")) (.str (Str.ofString "__doc__") 446) .none)]) 4) (List.toArray [])))
noncomputable def o_222 : Params→Obj := (fun x0=>(.mk (.type "type") (@none Nat) (.cls (@ClassData.mk (Str.ofString "Signal") (@List.cons @Value (.type "object") (@List.nil @Value)) (@List.cons @Value (.ref 176) (@List.cons @Value (.type "object") (@List.nil @Value))) 175 (Str.ofString "Signal") @Bool.true (@List.nil @Str) (@List.nil @Value) @Bool.false (@Option.none.{0} @Bool) @Bool.false)) (List.toArray [(@Option.none.{0} @Value),(@Option.none.{0} @Value),(some (.str (Str.ofString "Signal") 364)),(some (.str (Str.ofString "Signal") 372)),(some (.builtin "object.__new__")),(some (.bool true))])))
noncomputable def o_223 : Params→Obj := (fun x0=>(.mk (.type "getset_descriptor") (@none Nat) (.fields (List.toArray [(.str (Str.ofString "__dict__") 442),(.ref 176),(.builtin "function.__dict__"),(.builtin "function.__dict__#set")])) (List.toArray [])))
noncomputable def o_224 : Params→Obj := (fun x0=>(.mk (.type "getset_descriptor") (@none Nat) (.fields (List.toArray [(.str (Str.ofString "__weakref__") 444),(.ref 176),(.builtin "ExceptionGroup.__weakref__"),.none])) (List.toArray [])))
noncomputable def o_225 : Params→Obj := (fun x0=>(.mk (.type "super") (@none Nat) (.fields (List.toArray [(.ref 176),(.ref 176),(.ref 176)])) (List.toArray [])))
noncomputable def o_226 : Params→Obj := (fun x0=>(.mk (.type "builtin_function_or_method") (@none Nat) (.fields (List.toArray [(.builtin "object.__init_subclass__"),(.ref 176)])) (List.toArray [])))
noncomputable def o_229 : Params→Obj := (fun x0=>(o_43 x0))
noncomputable def o_230 : Params→Obj := (fun x0=>(o_60 x0))
noncomputable def o_231 : Params→Obj := (fun x0=>(.mk (.type "dict") (@none Nat) (.dict (List.toArray [(.mk (PyData.keyHash x0 (Str.ofString "__module__")) (.str (Str.ofString "__module__") 456) (.str (Str.ofString "gateloom.design") 356)),(.mk (PyData.keyHash x0 (Str.ofString "__qualname__")) (.str (Str.ofString "__qualname__") 458) (.str (Str.ofString "Design") 457)),(.mk (PyData.keyHash x0 (Str.ofString "__firstlineno__")) (.str (Str.ofString "__firstlineno__") 460) (.int 121 459)),(.mk (PyData.keyHash x0 (Str.ofString "__init__")) (.str (Str.ofString "__init__") 467) (.ref 194)),(.mk (PyData.keyHash x0 (Str.ofString "add_signal")) (.str (Str.ofString "add_signal") 482) (.ref 201)),(.mk (PyData.keyHash x0 (Str.ofString "add_scope")) (.str (Str.ofString "add_scope") 490) (.ref 208)),(.mk (PyData.keyHash x0 (Str.ofString "add_routine")) (.str (Str.ofString "add_routine") 501) (.ref 215)),(.mk (PyData.keyHash x0 (Str.ofString "add_process")) (.str (Str.ofString "add_process") 512) (.ref 222)),(.mk (PyData.keyHash x0 (Str.ofString "find")) (.str (Str.ofString "find") 520) (.ref 229)),(.mk (PyData.keyHash x0 (Str.ofString "routine")) (.str (Str.ofString "routine") 528) (.ref 236)),(.mk (PyData.keyHash x0 (Str.ofString "__static_attributes__")) (.str (Str.ofString "__static_attributes__") 541) (.ref 237))]) 11) (List.toArray [])))
noncomputable def o_232 : Params→Obj := (fun x0=>(o_43 x0))
noncomputable def o_233 : Params→Obj := (fun x0=>(.mk .none (@none Nat) (.fields (List.toArray [(.int 123 0),(.int 4 0),(.ref 193),(.int 137 0),(.int 4 0),(.ref 200),(.int 144 0),(.int 4 0),(.ref 207),(.int 147 0),(.int 4 0),(.ref 214),(.int 150 0),(.int 4 0),(.ref 221),(.int 153 0),(.int 4 0),(.ref 228),(.int 156 0),(.int 4 0),(.ref 235)])) (List.toArray [])))
noncomputable def o_234 : Params→Obj := (fun x0=>(.mk (.type "code") (@none Nat) (.fields (List.toArray [(.str (Str.ofString "Design") 451),(.str (Str.ofString "Design") 452),(.str (Str.ofString "/claim/cut.py") 453),(.int 121 0),(.int 0 0),(.int 0 0),(.int 0 0),(.int 0 0),(.ref 184),(.bool false),(.int 181 0),(.ref 185),.none,.none,.none,.none,(.int 454 0),(.int 121 0),(.str (Str.ofString "/claim/cut.py") 455)])) (List.toArray [])))
noncomputable def o_235 : Params→Obj := (fun x0=>(.mk (.type "frame") (@none Nat) @Data.plain (List.toArray [(some (.ref 186)),(some (.ref 3)),(some (.ref 183)),(@Option.none.{0} @Value),(some (.str (Str.ofString "gateloom.design") 356)),(@Option.none.{0} @Value),(some (.ref 0))])))
noncomputable def o_236 : Params→Obj := (fun x0=>(o_43 x0))
noncomputable def o_237 : Params→Obj := (fun x0=>(o_53 x0))
noncomputable def o_238 : Params→Obj := (fun x0=>(.mk (.type "tuple") (@none Nat) (.seq (List.toArray [(.str (Str.ofString "self") 464)]) 0) (List.toArray [])))
noncomputable def o_239 : Params→Obj := (fun x0=>(o_43 x0))
noncomputable def o_240 : Params→Obj := (fun x0=>(.mk .none (@none Nat) (.func (.mk (Str.ofString "__init__") (Str.ofString "Design.__init__") (fA (nN (fB (sN 14)) 0)) (.stmts (fB (nN (fB (sN 14)) 0))) (fS (nN (fB (sN 5)) 0)) 0 (@List.nil (Str×Nat)) .none .none .none .none (@none Nat) .none .none 0)) (List.toArray [])))
noncomputable def o_241 : Params→Obj := (fun x0=>(.mk (.type "code") (@none Nat) (.fields (List.toArray [(.str (Str.ofString "__init__") 461),(.str (Str.ofString "Design.__init__") 462),(.str (Str.ofString "/claim/cut.py") 463),(.int 123 0),(.int 1 0),(.int 0 0),(.int 0 0),(.int 3 0),(.ref 188),(.bool true),(.int 181 0),(.ref 189),.none,(.ref 190),(.ref 191),(.ref 192),(.int 465 0),(.int 123 0),(.str (Str.ofString "/claim/cut.py") 466)])) (List.toArray [])))
noncomputable def o_242 : Params→Obj := (fun x0=>(.mk (.type "function") (@none Nat) (.func (.mk (Str.ofString "__init__") (Str.ofString "Design.__init__") (fA (nN (fB (sN 14)) 0)) (.stmts (fB (nN (fB (sN 14)) 0))) (fS (nN (fB (sN 5)) 0)) 3 (@List.nil (Str×Nat)) .none .none .none (.str (Str.ofString "gateloom.design") 356) (@none Nat) (.ref 193) .none 0)) (List.toArray [])))
noncomputable def o_243 : Params→Obj := (fun x0=>(o_43 x0))
noncomputable def o_244 : Params→Obj := (fun x0=>(o_53 x0))
noncomputable def o_245 : Params→Obj := (fun x0=>(.mk (.type "tuple") (@none Nat) (.seq (List.toArray [(.str (Str.ofString "self") 471),(.str (Str.ofString "path") 472),(.str (Str.ofString "kind") 473),(.str (Str.ofString "width") 474),(.str (Str.ofString "signed") 475),(.str (Str.ofString "msb") 476),(.str (Str.ofString "lsb") 477),(.str (Str.ofString "at") 478),(.str (Str.ofString "signal") 479)]) 0) (List.toArray [])))
noncomputable def o_246 : Params→Obj := (fun x0=>(o_43 x0))
noncomputable def o_247 : Params→Obj := (fun x0=>(.mk .none (@none Nat) (.func (.mk (Str.ofString "add_signal") (Str.ofString "Design.add_signal") (fA (nN (fB (sN 14)) 1)) (.stmts (fB (nN (fB (sN 14)) 1))) (fS (nN (fB (sN 14)) 1)) 0 (@List.nil (Str×Nat)) .none .none .none .none (@none Nat) .none .none 0)) (List.toArray [])))
noncomputable def o_248 : Params→Obj := (fun x0=>(.mk (.type "code") (@none Nat) (.fields (List.toArray [(.str (Str.ofString "add_signal") 468),(.str (Str.ofString "Design.add_signal") 469),(.str (Str.ofString "/claim/cut.py") 470),(.int 137 0),(.int 8 0),(.int 0 0),(.int 0 0),(.int 3 0),(.ref 195),(.bool true),(.int 181 0),(.ref 196),.none,(.ref 197),(.ref 198),(.ref 199),(.int 480 0),(.int 137 0),(.str (Str.ofString "/claim/cut.py") 481)])) (List.toArray [])))
noncomputable def o_249 : Params→Obj := (fun x0=>(.mk (.type "function") (@none Nat) (.func (.mk (Str.ofString "add_signal") (Str.ofString "Design.add_signal") (fA (nN (fB (sN 14)) 1)) (.stmts (fB (nN (fB (sN 14)) 1))) (fS (nN (fB (sN 14)) 1)) 3 (@List.nil (Str×Nat)) .none .none .none (.str (Str.ofString "gateloom.design") 356) (@none Nat) (.ref 200) .none 0)) (List.toArray [])))
noncomputable def o_250 : Params→Obj := (fun x0=>(o_43 x0))
noncomputable def o_251 : Params→Obj := (fun x0=>(o_53 x0))
noncomputable def o_252 : Params→Obj := (fun x0=>(.mk (.type "tuple") (@none Nat) (.seq (List.toArray [(.str (Str.ofString "self") 486),(.str (Str.ofString "path") 487)]) 0) (List.toArray [])))
noncomputable def o_253 : Params→Obj := (fun x0=>(o_43 x0))
noncomputable def o_254 : Params→Obj := (fun x0=>(.mk .none (@none Nat) (.func (.mk (Str.ofString "add_scope") (Str.ofString "Design.add_scope") (fA (nN (fB (sN 14)) 2)) (.stmts (fB (nN (fB (sN 14)) 2))) (fS (nN (fB (sN 14)) 2)) 0 (@List.nil (Str×Nat)) .none .none .none .none (@none Nat) .none .none 0)) (List.toArray [])))
noncomputable def o_255 : Params→Obj := (fun x0=>(.mk (.type "code") (@none Nat) (.fields (List.toArray [(.str (Str.ofString "add_scope") 483),(.str (Str.ofString "Design.add_scope") 484),(.str (Str.ofString "/claim/cut.py") 485),(.int 144 0),(.int 2 0),(.int 0 0),(.int 0 0),(.int 3 0),(.ref 202),(.bool true),(.int 181 0),(.ref 203),.none,(.ref 204),(.ref 205),(.ref 206),(.int 488 0),(.int 144 0),(.str (Str.ofString "/claim/cut.py") 489)])) (List.toArray [])))
noncomputable def o_256 : Params→Obj := (fun x0=>(.mk (.type "function") (@none Nat) (.func (.mk (Str.ofString "add_scope") (Str.ofString "Design.add_scope") (fA (nN (fB (sN 14)) 2)) (.stmts (fB (nN (fB (sN 14)) 2))) (fS (nN (fB (sN 14)) 2)) 3 (@List.nil (Str×Nat)) .none .none .none (.str (Str.ofString "gateloom.design") 356) (@none Nat) (.ref 207) .none 0)) (List.toArray [])))
noncomputable def o_257 : Params→Obj := (fun x0=>(o_43 x0))
noncomputable def o_258 : Params→Obj := (fun x0=>(o_53 x0))
noncomputable def o_259 : Params→Obj := (fun x0=>(.mk (.type "tuple") (@none Nat) (.seq (List.toArray [(.str (Str.ofString "self") 494),(.str (Str.ofString "path") 495),(.str (Str.ofString "is_function") 496),(.str (Str.ofString "automatic") 497),(.str (Str.ofString "at") 498)]) 0) (List.toArray [])))
noncomputable def o_260 : Params→Obj := (fun x0=>(o_43 x0))
noncomputable def o_261 : Params→Obj := (fun x0=>(.mk .none (@none Nat) (.func (.mk (Str.ofString "add_routine") (Str.ofString "Design.add_routine") (fA (nN (fB (sN 14)) 3)) (.stmts (fB (nN (fB (sN 14)) 3))) (fS (nN (fB (sN 14)) 3)) 0 (@List.nil (Str×Nat)) .none .none .none .none (@none Nat) .none .none 0)) (List.toArray [])))
noncomputable def o_262 : Params→Obj := (fun x0=>(.mk (.type "code") (@none Nat) (.fields (List.toArray [(.str (Str.ofString "add_routine") 491),(.str (Str.ofString "Design.add_routine") 492),(.str (Str.ofString "/claim/cut.py") 493),(.int 147 0),(.int 5 0),(.int 0 0),(.int 0 0),(.int 3 0),(.ref 209),(.bool true),(.int 181 0),(.ref 210),.none,(.ref 211),(.ref 212),(.ref 213),(.int 499 0),(.int 147 0),(.str (Str.ofString "/claim/cut.py") 500)])) (List.toArray [])))
noncomputable def o_263 : Params→Obj := (fun x0=>(.mk (.type "function") (@none Nat) (.func (.mk (Str.ofString "add_routine") (Str.ofString "Design.add_routine") (fA (nN (fB (sN 14)) 3)) (.stmts (fB (nN (fB (sN 14)) 3))) (fS (nN (fB (sN 14)) 3)) 3 (@List.nil (Str×Nat)) .none .none .none (.str (Str.ofString "gateloom.design") 356) (@none Nat) (.ref 214) .none 0)) (List.toArray [])))
noncomputable def o_264 : Params→Obj := (fun x0=>(o_43 x0))
noncomputable def o_265 : Params→Obj := (fun x0=>(o_53 x0))
noncomputable def o_266 : Params→Obj := (fun x0=>(.mk (.type "tuple") (@none Nat) (.seq (List.toArray [(.str (Str.ofString "self") 505),(.str (Str.ofString "kind") 506),(.str (Str.ofString "body") 507),(.str (Str.ofString "path") 508),(.str (Str.ofString "at") 509)]) 0) (List.toArray [])))
noncomputable def o_267 : Params→Obj := (fun x0=>(o_43 x0))
noncomputable def o_268 : Params→Obj := (fun x0=>(.mk .none (@none Nat) (.func (.mk (Str.ofString "add_process") (Str.ofString "Design.add_process") (fA (nN (fB (sN 14)) 4)) (.stmts (fB (nN (fB (sN 14)) 4))) (fS (nN (fB (sN 14)) 4)) 0 (@List.nil (Str×Nat)) .none .none .none .none (@none Nat) .none .none 0)) (List.toArray [])))
noncomputable def o_269 : Params→Obj := (fun x0=>(.mk (.type "code") (@none Nat) (.fields (List.toArray [(.str (Str.ofString "add_process") 502),(.str (Str.ofString "Design.add_process") 503),(.str (Str.ofString "/claim/cut.py") 504),(.int 150 0),(.int 5 0),(.int 0 0),(.int 0 0),(.int 3 0),(.ref 216),(.bool true),(.int 181 0),(.ref 217),.none,(.ref 218),(.ref 219),(.ref 220),(.int 510 0),(.int 150 0),(.str (Str.ofString "/claim/cut.py") 511)])) (List.toArray [])))
noncomputable def o_270 : Params→Obj := (fun x0=>(.mk (.type "function") (@none Nat) (.func (.mk (Str.ofString "add_process") (Str.ofString "Design.add_process") (fA (nN (fB (sN 14)) 4)) (.stmts (fB (nN (fB (sN 14)) 4))) (fS (nN (fB (sN 14)) 4)) 3 (@List.nil (Str×Nat)) .none .none .none (.str (Str.ofString "gateloom.design") 356) (@none Nat) (.ref 221) .none 0)) (List.toArray [])))
noncomputable def o_271 : Params→Obj := (fun x0=>(o_43 x0))
noncomputable def o_272 : Params→Obj := (fun x0=>(o_53 x0))
noncomputable def o_273 : Params→Obj := (fun x0=>(.mk (.type "tuple") (@none Nat) (.seq (List.toArray [(.str (Str.ofString "self") 516),(.str (Str.ofString "path") 517)]) 0) (List.toArray [])))
noncomputable def o_274 : Params→Obj := (fun x0=>(o_43 x0))
noncomputable def o_275 : Params→Obj := (fun x0=>(.mk .none (@none Nat) (.func (.mk (Str.ofString "find") (Str.ofString "Design.find") (fA (nN (fB (sN 14)) 5)) (.stmts (fB (nN (fB (sN 14)) 5))) (fS (nN (fB (sN 14)) 2)) 0 (@List.nil (Str×Nat)) .none .none .none .none (@none Nat) .none .none 0)) (List.toArray [])))
noncomputable def o_276 : Params→Obj := (fun x0=>(.mk (.type "code") (@none Nat) (.fields (List.toArray [(.str (Str.ofString "find") 513),(.str (Str.ofString "Design.find") 514),(.str (Str.ofString "/claim/cut.py") 515),(.int 153 0),(.int 2 0),(.int 0 0),(.int 0 0),(.int 3 0),(.ref 223),(.bool true),(.int 181 0),(.ref 224),.none,(.ref 225),(.ref 226),(.ref 227),(.int 518 0),(.int 153 0),(.str (Str.ofString "/claim/cut.py") 519)])) (List.toArray [])))
noncomputable def o_277 : Params→Obj := (fun x0=>(.mk (.type "function") (@none Nat) (.func (.mk (Str.ofString "find") (Str.ofString "Design.find") (fA (nN (fB (sN 14)) 5)) (.stmts (fB (nN (fB (sN 14)) 5))) (fS (nN (fB (sN 14)) 2)) 3 (@List.nil (Str×Nat)) .none .none .none (.str (Str.ofString "gateloom.design") 356) (@none Nat) (.ref 228) .none 0)) (List.toArray [])))
noncomputable def o_278 : Params→Obj := (fun x0=>(o_43 x0))
noncomputable def o_279 : Params→Obj := (fun x0=>(o_53 x0))
noncomputable def o_280 : Params→Obj := (fun x0=>(.mk (.type "tuple") (@none Nat) (.seq (List.toArray [(.str (Str.ofString "self") 524),(.str (Str.ofString "n") 525)]) 0) (List.toArray [])))
noncomputable def o_281 : Params→Obj := (fun x0=>(o_43 x0))
noncomputable def o_282 : Params→Obj := (fun x0=>(.mk .none (@none Nat) (.func (.mk (Str.ofString "routine") (Str.ofString "Design.routine") (fA (nN (fB (sN 14)) 6)) (.stmts (fB (nN (fB (sN 14)) 6))) (fS (nN (fB (sN 14)) 6)) 0 (@List.nil (Str×Nat)) .none .none .none .none (@none Nat) .none .none 0)) (List.toArray [])))
noncomputable def o_283 : Params→Obj := (fun x0=>(.mk (.type "code") (@none Nat) (.fields (List.toArray [(.str (Str.ofString "routine") 521),(.str (Str.ofString "Design.routine") 522),(.str (Str.ofString "/claim/cut.py") 523),(.int 156 0),(.int 2 0),(.int 0 0),(.int 0 0),(.int 3 0),(.ref 230),(.bool true),(.int 181 0),(.ref 231),.none,(.ref 232),(.ref 233),(.ref 234),(.int 526 0),(.int 156 0),(.str (Str.ofString "/claim/cut.py") 527)])) (List.toArray [])))
noncomputable def o_284 : Params→Obj := (fun x0=>(.mk (.type "function") (@none Nat) (.func (.mk (Str.ofString "routine") (Str.ofString "Design.routine") (fA (nN (fB (sN 14)) 6)) (.stmts (fB (nN (fB (sN 14)) 6))) (fS (nN (fB (sN 14)) 6)) 3 (@List.nil (Str×Nat)) .none .none .none (.str (Str.ofString "gateloom.design") 356) (@none Nat) (.ref 235) .none 0)) (List.toArray [])))
noncomputable def o_285 : Params→Obj := (fun x0=>(.mk (.type "tuple") (@none Nat) (.seq (List.toArray [(.str (Str.ofString "assigns") 529),(.str (Str.ofString "by_path") 530),(.str (Str.ofString "gates") 531),(.str (Str.ofString "maker") 532),(.str (Str.ofString "nesting") 533),(.str (Str.ofString "ports") 534),(.str (Str.ofString "processes") 535),(.str (Str.ofString "routines") 536),(.str (Str.ofString "scopes") 537),(.str (Str.ofString "signals") 538),(.str (Str.ofString "tops") 539),(.str (Str.ofString "udps") 540)]) 0) (List.toArray [])))
noncomputable def o_286 : Params→Obj := (fun x0=>(.mk (.type "dict") (@none Nat) (.dict (List.toArray [(.mk (PyData.keyHash x0 (Str.ofString "__module__")) (.str (Str.ofString "__module__") 456) (.str (Str.ofString "gateloom.design") 356)),(.mk (PyData.keyHash x0 (Str.ofString "__firstlineno__")) (.str (Str.ofString "__firstlineno__") 460) (.int 121 459)),(.mk (PyData.keyHash x0 (Str.ofString "__init__")) (.str (Str.ofString "__init__") 467) (.ref 194)),(.mk (PyData.keyHash x0 (Str.ofString "add_signal")) (.str (Str.ofString "add_signal") 482) (.ref 201)),(.mk (PyData.keyHash x0 (Str.ofString "add_scope")) (.str (Str.ofString "add_scope") 490) (.ref 208)),(.mk (PyData.keyHash x0 (Str.ofString "add_routine")) (.str (Str.ofString "add_routine") 501) (.ref 215)),(.mk (PyData.keyHash x0 (Str.ofString "add_process")) (.str (Str.ofString "add_process") 512) (.ref 222)),(.mk (PyData.keyHash x0 (Str.ofString "find")) (.str (Str.ofString "find") 520) (.ref 229)),(.mk (PyData.keyHash x0 (Str.ofString "routine")) (.str (Str.ofString "routine") 528) (.ref 236)),(.mk (PyData.keyHash x0 (Str.ofString "__static_attributes__")) (.str (Str.ofString "__static_attributes__") 541) (.ref 237)),(.mk (PyData.keyHash x0 (Str.ofString "__dict__")) (.str (Str.ofString "__dict__") 543) (.ref 240)),(.mk (PyData.keyHash x0 (Str.ofString "__weakref__")) (.str (Str.ofString "__weakref__") 545) (.ref 241)),(.mk (PyData.keyHash x0 (Str.ofString "__doc__")) (.str (Str.ofString "__doc__") 546) .none)]) 4) (List.toArray [])))
noncomputable def o_287 : Params→Obj := (fun x0=>(.mk (.type "type") (@none Nat) (.cls (@ClassData.mk (Str.ofString "Design") (@List.cons @Value (.type "object") (@List.nil @Value)) (@List.cons @Value (.ref 239) (@List.cons @Value (.type "object") (@List.nil @Value))) 238 (Str.ofString "Design") @Bool.true (@List.nil @Str) (@List.nil @Value) @Bool.false (@Option.none.{0} @Bool) @Bool.false)) (List.toArray [(@Option.none.{0} @Value),(@Option.none.{0} @Value),(some (.str (Str.ofString "Design") 449)),(some (.str (Str.ofString "Design") 457)),(some (.builtin "object.__new__")),(some (.bool true))])))
noncomputable def o_288 : Params→Obj := (fun x0=>(.mk (.type "getset_descriptor") (@none Nat) (.fields (List.toArray [(.str (Str.ofString "__dict__") 542),(.ref 239),(.builtin "function.__dict__"),(.builtin "function.__dict__#set")])) (List.toArray [])))
noncomputable def o_289 : Params→Obj := (fun x0=>(.mk (.type "getset_descriptor") (@none Nat) (.fields (List.toArray [(.str (Str.ofString "__weakref__") 544),(.ref 239),(.builtin "ExceptionGroup.__weakref__"),.none])) (List.toArray [])))
noncomputable def o_290 : Params→Obj := (fun x0=>(.mk (.type "super") (@none Nat) (.fields (List.toArray [(.ref 239),(.ref 239),(.ref 239)])) (List.toArray [])))
noncomputable def o_291 : Params→Obj := (fun x0=>(.mk (.type "builtin_function_or_method") (@none Nat) (.fields (List.toArray [(.builtin "object.__init_subclass__"),(.ref 239)])) (List.toArray [])))
noncomputable def o_296 : Params→Obj := (fun x0=>(o_43 x0))
noncomputable def o_297 : Params→Obj := (fun x0=>(o_60 x0))
noncomputable def o_298 : Params→Obj := (fun x0=>(.mk (.type "dict") (@none Nat) (.dict (List.toArray [(.mk (PyData.keyHash x0 (Str.ofString "__module__")) (.str (Str.ofString "__module__") 558) (.str (Str.ofString "gateloom.netlist") 549)),(.mk (PyData.keyHash x0 (Str.ofString "__qualname__")) (.str (Str.ofString "__qualname__") 560) (.str (Str.ofString "Netlist") 559)),(.mk (PyData.keyHash x0 (Str.ofString "__firstlineno__")) (.str (Str.ofString "__firstlineno__") 562) (.int 159 561)),(.mk (PyData.keyHash x0 (Str.ofString "__init__")) (.str (Str.ofString "__init__") 570) (.ref 257)),(.mk (PyData.keyHash x0 (Str.ofString "new_net")) (.str (Str.ofString "new_net") 578) (.ref 264)),(.mk (PyData.keyHash x0 (Str.ofString "new_nets")) (.str (Str.ofString "new_nets") 584) (.ref 269)),(.mk (PyData.keyHash x0 (Str.ofString "add_input")) (.str (Str.ofString "add_input") 593) (.ref 276)),(.mk (PyData.keyHash x0 (Str.ofString "add_output")) (.str (Str.ofString "add_output") 602) (.ref 283)),(.mk (PyData.keyHash x0 (Str.ofString "add_cell")) (.str (Str.ofString "add_cell") 613) (.ref 291)),(.mk (PyData.keyHash x0 (Str.ofString "drive")) (.str (Str.ofString "drive") 624) (.ref 299)),(.mk (PyData.keyHash x0 (Str.ofString "sources")) (.str (Str.ofString "sources") 631) (.ref 306)),(.mk (PyData.keyHash x0 (Str.ofString "sinks")) (.str (Str.ofString "sinks") 638) (.ref 313)),(.mk (PyData.keyHash x0 (Str.ofString "__static_attributes__")) (.str (Str.ofString "__static_attributes__") 644) (.ref 314))]) 13) (List.toArray [])))
noncomputable def o_299 : Params→Obj := (fun x0=>(o_43 x0))
noncomputable def o_300 : Params→Obj := (fun x0=>(.mk .none (@none Nat) (.fields (List.toArray [(.int 161 0),(.int 4 0),(.ref 256),(.int 168 0),(.int 4 0),(.ref 263),(.int 173 0),(.int 4 0),(.ref 268),(.int 176 0),(.int 4 0),(.ref 275),(.int 179 0),(.int 4 0),(.ref 282),(.int 182 0),(.int 4 0),(.ref 290),(.int 187 0),(.int 4 0),(.ref 298),(.int 190 0),(.int 4 0),(.ref 305),(.int 193 0),(.int 4 0),(.ref 312)])) (List.toArray [])))
noncomputable def o_301 : Params→Obj := (fun x0=>(.mk (.type "code") (@none Nat) (.fields (List.toArray [(.str (Str.ofString "Netlist") 553),(.str (Str.ofString "Netlist") 554),(.str (Str.ofString "/claim/cut.py") 555),(.int 159 0),(.int 0 0),(.int 0 0),(.int 0 0),(.int 0 0),(.ref 247),(.bool false),(.int 181 0),(.ref 248),.none,.none,.none,.none,(.int 556 0),(.int 159 0),(.str (Str.ofString "/claim/cut.py") 557)])) (List.toArray [])))
noncomputable def o_302 : Params→Obj := (fun x0=>(.mk (.type "frame") (@none Nat) @Data.plain (List.toArray [(some (.ref 249)),(some (.ref 3)),(some (.ref 246)),(@Option.none.{0} @Value),(some (.str (Str.ofString "gateloom.netlist") 549)),(@Option.none.{0} @Value),(some (.ref 0))])))
noncomputable def o_303 : Params→Obj := (fun x0=>(o_43 x0))
noncomputable def o_304 : Params→Obj := (fun x0=>(o_53 x0))
noncomputable def o_305 : Params→Obj := (fun x0=>(.mk (.type "tuple") (@none Nat) (.seq (List.toArray [(.str (Str.ofString "self") 566),(.str (Str.ofString "name") 567)]) 0) (List.toArray [])))
noncomputable def o_306 : Params→Obj := (fun x0=>(o_43 x0))
noncomputable def o_307 : Params→Obj := (fun x0=>(.mk .none (@none Nat) (.func (.mk (Str.ofString "__init__") (Str.ofString "Netlist.__init__") (fA (nN (fB (sN 16)) 0)) (.stmts (fB (nN (fB (sN 16)) 0))) (fS (nN (fB (sN 16)) 0)) 0 (@List.nil (Str×Nat)) .none .none .none .none (@none Nat) .none .none 0)) (List.toArray [])))
noncomputable def o_308 : Params→Obj := (fun x0=>(.mk (.type "code") (@none Nat) (.fields (List.toArray [(.str (Str.ofString "__init__") 563),(.str (Str.ofString "Netlist.__init__") 564),(.str (Str.ofString "/claim/cut.py") 565),(.int 161 0),(.int 2 0),(.int 0 0),(.int 0 0),(.int 3 0),(.ref 251),(.bool true),(.int 181 0),(.ref 252),.none,(.ref 253),(.ref 254),(.ref 255),(.int 568 0),(.int 161 0),(.str (Str.ofString "/claim/cut.py") 569)])) (List.toArray [])))
noncomputable def o_309 : Params→Obj := (fun x0=>(.mk (.type "function") (@none Nat) (.func (.mk (Str.ofString "__init__") (Str.ofString "Netlist.__init__") (fA (nN (fB (sN 16)) 0)) (.stmts (fB (nN (fB (sN 16)) 0))) (fS (nN (fB (sN 16)) 0)) 3 (@List.nil (Str×Nat)) .none .none .none (.str (Str.ofString "gateloom.netlist") 549) (@none Nat) (.ref 256) .none 0)) (List.toArray [])))
noncomputable def o_310 : Params→Obj := (fun x0=>(o_43 x0))
noncomputable def o_311 : Params→Obj := (fun x0=>(o_53 x0))
noncomputable def o_312 : Params→Obj := (fun x0=>(.mk (.type "tuple") (@none Nat) (.seq (List.toArray [(.str (Str.ofString "self") 574),(.str (Str.ofString "net") 575)]) 0) (List.toArray [])))
noncomputable def o_313 : Params→Obj := (fun x0=>(o_43 x0))
noncomputable def o_314 : Params→Obj := (fun x0=>(.mk .none (@none Nat) (.func (.mk (Str.ofString "new_net") (Str.ofString "Netlist.new_net") (fA (nN (fB (sN 16)) 1)) (.stmts (fB (nN (fB (sN 16)) 1))) (fS (nN (fB (sN 16)) 1)) 0 (@List.nil (Str×Nat)) .none .none .none .none (@none Nat) .none .none 0)) (List.toArray [])))
noncomputable def o_315 : Params→Obj := (fun x0=>(.mk (.type "code") (@none Nat) (.fields (List.toArray [(.str (Str.ofString "new_net") 571),(.str (Str.ofString "Netlist.new_net") 572),(.str (Str.ofString "/claim/cut.py") 573),(.int 168 0),(.int 1 0),(.int 0 0),(.int 0 0),(.int 3 0),(.ref 258),(.bool true),(.int 181 0),(.ref 259),.none,(.ref 260),(.ref 261),(.ref 262),(.int 576 0),(.int 168 0),(.str (Str.ofString "/claim/cut.py") 577)])) (List.toArray [])))
noncomputable def o_316 : Params→Obj := (fun x0=>(.mk (.type "function") (@none Nat) (.func (.mk (Str.ofString "new_net") (Str.ofString "Netlist.new_net") (fA (nN (fB (sN 16)) 1)) (.stmts (fB (nN (fB (sN 16)) 1))) (fS (nN (fB (sN 16)) 1)) 3 (@List.nil (Str×Nat)) .none .none .none (.str (Str.ofString "gateloom.netlist") 549) (@none Nat) (.ref 263) .none 0)) (List.toArray [])))
noncomputable def o_317 : Params→Obj := (fun x0=>(o_43 x0))
noncomputable def o_318 : Params→Obj := (fun x0=>(o_53 x0))
noncomputable def o_319 : Params→Obj := (fun x0=>(.mk .none (@none Nat) (.func (.mk (Str.ofString "new_nets") (Str.ofString "Netlist.new_nets") (fA (nN (fB (sN 16)) 2)) (.stmts (fB (nN (fB (sN 16)) 2))) (fS (nN (fB (sN 16)) 2)) 0 (@List.nil (Str×Nat)) .none .none .none .none (@none Nat) .none .none 0)) (List.toArray [])))
noncomputable def o_320 : Params→Obj := (fun x0=>(.mk (.type "code") (@none Nat) (.fields (List.toArray [(.str (Str.ofString "new_nets") 579),(.str (Str.ofString "Netlist.new_nets") 580),(.str (Str.ofString "/claim/cut.py") 581),(.int 173 0),(.int 2 0),(.int 0 0),(.int 0 0),(.int 3 0),(.ref 265),(.bool true),(.int 181 0),(.ref 266),.none,.none,.none,(.ref 267),(.int 582 0),(.int 173 0),(.str (Str.ofString "/claim/cut.py") 583)])) (List.toArray [])))
noncomputable def o_321 : Params→Obj := (fun x0=>(.mk (.type "function") (@none Nat) (.func (.mk (Str.ofString "new_nets") (Str.ofString "Netlist.new_nets") (fA (nN (fB (sN 16)) 2)) (.stmts (fB (nN (fB (sN 16)) 2))) (fS (nN (fB (sN 16)) 2)) 3 (@List.nil (Str×Nat)) .none .none .none (.str (Str.ofString "gateloom.netlist") 549) (@none Nat) (.ref 268) .none 0)) (List.toArray [])))
noncomputable def o_322 : Params→Obj := (fun x0=>(o_43 x0))
noncomputable def o_323 : Params→Obj := (fun x0=>(o_53 x0))
noncomputable def o_324 : Params→Obj := (fun x0=>(.mk (.type "tuple") (@none Nat) (.seq (List.toArray [(.str (Str.ofString "self") 588),(.str (Str.ofString "name") 589),(.str (Str.ofString "width") 590)]) 0) (List.toArray [])))
noncomputable def o_325 : Params→Obj := (fun x0=>(o_43 x0))
noncomputable def o_326 : Params→Obj := (fun x0=>(.mk .none (@none Nat) (.func (.mk (Str.ofString "add_input") (Str.ofString "Netlist.add_input") (fA (nN (fB (sN 16)) 3)) (.stmts (fB (nN (fB (sN 16)) 3))) (fS (nN (fB (sN 16)) 3)) 0 (@List.nil (Str×Nat)) .none .none .none .none (@none Nat) .none .none 0)) (List.toArray [])))
noncomputable def o_327 : Params→Obj := (fun x0=>(.mk (.type "code") (@none Nat) (.fields (List.toArray [(.str (Str.ofString "add_input") 585),(.str (Str.ofString "Netlist.add_input") 586),(.str (Str.ofString "/claim/cut.py") 587),(.int 176 0),(.int 3 0),(.int 0 0),(.int 0 0),(.int 3 0),(.ref 270),(.bool true),(.int 181 0),(.ref 271),.none,(.ref 272),(.ref 273),(.ref 274),(.int 591 0),(.int 176 0),(.str (Str.ofString "/claim/cut.py") 592)])) (List.toArray [])))
noncomputable def o_328 : Params→Obj := (fun x0=>(.mk (.type "function") (@none Nat) (.func (.mk (Str.ofString "add_input") (Str.ofString "Netlist.add_input") (fA (nN (fB (sN 16)) 3)) (.stmts (fB (nN (fB (sN 16)) 3))) (fS (nN (fB (sN 16)) 3)) 3 (@List.nil (Str×Nat)) .none .none .none (.str (Str.ofString "gateloom.netlist") 549) (@none Nat) (.ref 275) .none 0)) (List.toArray [])))
noncomputable def o_329 : Params→Obj := (fun x0=>(o_43 x0))
noncomputable def o_330 : Params→Obj := (fun x0=>(o_53 x0))
noncomputable def o_331 : Params→Obj := (fun x0=>(.mk (.type "tuple") (@none Nat) (.seq (List.toArray [(.str (Str.ofString "self") 597),(.str (Str.ofString "name") 598),(.str (Str.ofString "nets") 599)]) 0) (List.toArray [])))
noncomputable def o_332 : Params→Obj := (fun x0=>(o_43 x0))
noncomputable def o_333 : Params→Obj := (fun x0=>(.mk .none (@none Nat) (.func (.mk (Str.ofString "add_output") (Str.ofString "Netlist.add_output") (fA (nN (fB (sN 16)) 4)) (.stmts (fB (nN (fB (sN 16)) 4))) (fS (nN (fB (sN 16)) 4)) 0 (@List.nil (Str×Nat)) .none .none .none .none (@none Nat) .none .none 0)) (List.toArray [])))
noncomputable def o_334 : Params→Obj := (fun x0=>(.mk (.type "code") (@none Nat) (.fields (List.toArray [(.str (Str.ofString "add_output") 594),(.str (Str.ofString "Netlist.add_output") 595),(.str (Str.ofString "/claim/cut.py") 596),(.int 179 0),(.int 3 0),(.int 0 0),(.int 0 0),(.int 3 0),(.ref 277),(.bool true),(.int 181 0),(.ref 278),.none,(.ref 279),(.ref 280),(.ref 281),(.int 600 0),(.int 179 0),(.str (Str.ofString "/claim/cut.py") 601)])) (List.toArray [])))
noncomputable def o_335 : Params→Obj := (fun x0=>(.mk (.type "function") (@none Nat) (.func (.mk (Str.ofString "add_output") (Str.ofString "Netlist.add_output") (fA (nN (fB (sN 16)) 4)) (.stmts (fB (nN (fB (sN 16)) 4))) (fS (nN (fB (sN 16)) 4)) 3 (@List.nil (Str×Nat)) .none .none .none (.str (Str.ofString "gateloom.netlist") 549) (@none Nat) (.ref 282) .none 0)) (List.toArray [])))
noncomputable def o_336 : Params→Obj := (fun x0=>(.mk (.type "tuple") (@none Nat) (.seq (List.toArray [.none]) 0) (List.toArray [])))
noncomputable def o_337 : Params→Obj := (fun x0=>(o_43 x0))
noncomputable def o_338 : Params→Obj := (fun x0=>(o_53 x0))
noncomputable def o_339 : Params→Obj := (fun x0=>(.mk (.type "tuple") (@none Nat) (.seq (List.toArray [(.str (Str.ofString "self") 606),(.str (Str.ofString "kind") 607),(.str (Str.ofString "ins") 608),(.str (Str.ofString "param") 609),(.str (Str.ofString "out") 610)]) 0) (List.toArray [])))
noncomputable def o_340 : Params→Obj := (fun x0=>(o_43 x0))
noncomputable def o_341 : Params→Obj := (fun x0=>(.mk .none (@none Nat) (.func (.mk (Str.ofString "add_cell") (Str.ofString "Netlist.add_cell") (fA (nN (fB (sN 16)) 5)) (.stmts (fB (nN (fB (sN 16)) 5))) (fS (nN (fB (sN 16)) 5)) 0 (@List.nil (Str×Nat)) .none .none .none .none (@none Nat) .none .none 0)) (List.toArray [])))
noncomputable def o_342 : Params→Obj := (fun x0=>(.mk (.type "code") (@none Nat) (.fields (List.toArray [(.str (Str.ofString "add_cell") 603),(.str (Str.ofString "Netlist.add_cell") 604),(.str (Str.ofString "/claim/cut.py") 605),(.int 182 0),(.int 4 0),(.int 0 0),(.int 0 0),(.int 3 0),(.ref 285),(.bool true),(.int 181 0),(.ref 286),.none,(.ref 287),(.ref 288),(.ref 289),(.int 611 0),(.int 182 0),(.str (Str.ofString "/claim/cut.py") 612)])) (List.toArray [])))
noncomputable def o_343 : Params→Obj := (fun x0=>(.mk (.type "function") (@none Nat) (.func (.mk (Str.ofString "add_cell") (Str.ofString "Netlist.add_cell") (fA (nN (fB (sN 16)) 5)) (.stmts (fB (nN (fB (sN 16)) 5))) (fS (nN (fB (sN 16)) 5)) 3 (@List.nil (Str×Nat)) (.ref 284) .none .none (.str (Str.ofString "gateloom.netlist") 549) (@none Nat) (.ref 290) .none 0)) (List.toArray [])))
noncomputable def o_344 : Params→Obj := (fun x0=>(o_336 x0))
noncomputable def o_345 : Params→Obj := (fun x0=>(o_43 x0))
noncomputable def o_346 : Params→Obj := (fun x0=>(o_53 x0))
noncomputable def o_347 : Params→Obj := (fun x0=>(.mk (.type "tuple") (@none Nat) (.seq (List.toArray [(.str (Str.ofString "self") 617),(.str (Str.ofString "out") 618),(.str (Str.ofString "kind") 619),(.str (Str.ofString "ins") 620),(.str (Str.ofString "param") 621)]) 0) (List.toArray [])))
noncomputable def o_348 : Params→Obj := (fun x0=>(o_43 x0))
noncomputable def o_349 : Params→Obj := (fun x0=>(.mk .none (@none Nat) (.func (.mk (Str.ofString "drive") (Str.ofString "Netlist.drive") (fA (nN (fB (sN 16)) 6)) (.stmts (fB (nN (fB (sN 16)) 6))) (fS (nN (fB (sN 16)) 6)) 0 (@List.nil (Str×Nat)) .none .none .none .none (@none Nat) .none .none 0)) (List.toArray [])))
noncomputable def o_350 : Params→Obj := (fun x0=>(.mk (.type "code") (@none Nat) (.fields (List.toArray [(.str (Str.ofString "drive") 614),(.str (Str.ofString "Netlist.drive") 615),(.str (Str.ofString "/claim/cut.py") 616),(.int 187 0),(.int 5 0),(.int 0 0),(.int 0 0),(.int 3 0),(.ref 293),(.bool true),(.int 181 0),(.ref 294),.none,(.ref 295),(.ref 296),(.ref 297),(.int 622 0),(.int 187 0),(.str (Str.ofString "/claim/cut.py") 623)])) (List.toArray [])))
noncomputable def o_351 : Params→Obj := (fun x0=>(.mk (.type "function") (@none Nat) (.func (.mk (Str.ofString "drive") (Str.ofString "Netlist.drive") (fA (nN (fB (sN 16)) 6)) (.stmts (fB (nN (fB (sN 16)) 6))) (fS (nN (fB (sN 16)) 6)) 3 (@List.nil (Str×Nat)) (.ref 292) .none .none (.str (Str.ofString "gateloom.netlist") 549) (@none Nat) (.ref 298) .none 0)) (List.toArray [])))
noncomputable def o_352 : Params→Obj := (fun x0=>(o_43 x0))
noncomputable def o_353 : Params→Obj := (fun x0=>(o_53 x0))
noncomputable def o_354 : Params→Obj := (fun x0=>(.mk (.type "tuple") (@none Nat) (.seq (List.toArray [(.str (Str.ofString "self") 628)]) 0) (List.toArray [])))
noncomputable def o_355 : Params→Obj := (fun x0=>(o_43 x0))
noncomputable def o_356 : Params→Obj := (fun x0=>(.mk .none (@none Nat) (.func (.mk (Str.ofString "sources") (Str.ofString "Netlist.sources") (fA (nN (fB (sN 16)) 7)) (.stmts (fB (nN (fB (sN 16)) 7))) (fS (nN (fB (sN 16)) 7)) 0 (@List.nil (Str×Nat)) .none .none .none .none (@none Nat) .none .none 0)) (List.toArray [])))
noncomputable def o_357 : Params→Obj := (fun x0=>(.mk (.type "code") (@none Nat) (.fields (List.toArray [(.str (Str.ofString "sources") 625),(.str (Str.ofString "Netlist.sources") 626),(.str (Str.ofString "/claim/cut.py") 627),(.int 190 0),(.int 1 0),(.int 0 0),(.int 0 0),(.int 3 0),(.ref 300),(.bool true),(.int 181 0),(.ref 301),.none,(.ref 302),(.ref 303),(.ref 304),(.int 629 0),(.int 190 0),(.str (Str.ofString "/claim/cut.py") 630)])) (List.toArray [])))
noncomputable def o_358 : Params→Obj := (fun x0=>(.mk (.type "function") (@none Nat) (.func (.mk (Str.ofString "sources") (Str.ofString "Netlist.sources") (fA (nN (fB (sN 16)) 7)) (.stmts (fB (nN (fB (sN 16)) 7))) (fS (nN (fB (sN 16)) 7)) 3 (@List.nil (Str×Nat)) .none .none .none (.str (Str.ofString "gateloom.netlist") 549) (@none Nat) (.ref 305) .none 0)) (List.toArray [])))
noncomputable def o_359 : Params→Obj := (fun x0=>(o_43 x0))
noncomputable def o_360 : Params→Obj := (fun x0=>(o_53 x0))
noncomputable def o_361 : Params→Obj := (fun x0=>(.mk (.type "tuple") (@none Nat) (.seq (List.toArray [(.str (Str.ofString "self") 635)]) 0) (List.toArray [])))
noncomputable def o_362 : Params→Obj := (fun x0=>(o_43 x0))
noncomputable def o_363 : Params→Obj := (fun x0=>(.mk .none (@none Nat) (.func (.mk (Str.ofString "sinks") (Str.ofString "Netlist.sinks") (fA (nN (fB (sN 16)) 8)) (.stmts (fB (nN (fB (sN 16)) 8))) (fS (nN (fB (sN 16)) 7)) 0 (@List.nil (Str×Nat)) .none .none .none .none (@none Nat) .none .none 0)) (List.toArray [])))
noncomputable def o_364 : Params→Obj := (fun x0=>(.mk (.type "code") (@none Nat) (.fields (List.toArray [(.str (Str.ofString "sinks") 632),(.str (Str.ofString "Netlist.sinks") 633),(.str (Str.ofString "/claim/cut.py") 634),(.int 193 0),(.int 1 0),(.int 0 0),(.int 0 0),(.int 3 0),(.ref 307),(.bool true),(.int 181 0),(.ref 308),.none,(.ref 309),(.ref 310),(.ref 311),(.int 636 0),(.int 193 0),(.str (Str.ofString "/claim/cut.py") 637)])) (List.toArray [])))
noncomputable def o_365 : Params→Obj := (fun x0=>(.mk (.type "function") (@none Nat) (.func (.mk (Str.ofString "sinks") (Str.ofString "Netlist.sinks") (fA (nN (fB (sN 16)) 8)) (.stmts (fB (nN (fB (sN 16)) 8))) (fS (nN (fB (sN 16)) 7)) 3 (@List.nil (Str×Nat)) .none .none .none (.str (Str.ofString "gateloom.netlist") 549) (@none Nat) (.ref 312) .none 0)) (List.toArray [])))
noncomputable def o_366 : Params→Obj := (fun x0=>(.mk (.type "tuple") (@none Nat) (.seq (List.toArray [(.str (Str.ofString "cells") 639),(.str (Str.ofString "count") 640),(.str (Str.ofString "inputs") 641),(.str (Str.ofString "name") 642),(.str (Str.ofString "outputs") 643)]) 0) (List.toArray [])))
noncomputable def o_367 : Params→Obj := (fun x0=>(.mk (.type "dict") (@none Nat) (.dict (List.toArray [(.mk (PyData.keyHash x0 (Str.ofString "__module__")) (.str (Str.ofString "__module__") 558) (.str (Str.ofString "gateloom.netlist") 549)),(.mk (PyData.keyHash x0 (Str.ofString "__firstlineno__")) (.str (Str.ofString "__firstlineno__") 562) (.int 159 561)),(.mk (PyData.keyHash x0 (Str.ofString "__init__")) (.str (Str.ofString "__init__") 570) (.ref 257)),(.mk (PyData.keyHash x0 (Str.ofString "new_net")) (.str (Str.ofString "new_net") 578) (.ref 264)),(.mk (PyData.keyHash x0 (Str.ofString "new_nets")) (.str (Str.ofString "new_nets") 584) (.ref 269)),(.mk (PyData.keyHash x0 (Str.ofString "add_input")) (.str (Str.ofString "add_input") 593) (.ref 276)),(.mk (PyData.keyHash x0 (Str.ofString "add_output")) (.str (Str.ofString "add_output") 602) (.ref 283)),(.mk (PyData.keyHash x0 (Str.ofString "add_cell")) (.str (Str.ofString "add_cell") 613) (.ref 291)),(.mk (PyData.keyHash x0 (Str.ofString "drive")) (.str (Str.ofString "drive") 624) (.ref 299)),(.mk (PyData.keyHash x0 (Str.ofString "sources")) (.str (Str.ofString "sources") 631) (.ref 306)),(.mk (PyData.keyHash x0 (Str.ofString "sinks")) (.str (Str.ofString "sinks") 638) (.ref 313)),(.mk (PyData.keyHash x0 (Str.ofString "__static_attributes__")) (.str (Str.ofString "__static_attributes__") 644) (.ref 314)),(.mk (PyData.keyHash x0 (Str.ofString "__dict__")) (.str (Str.ofString "__dict__") 646) (.ref 317)),(.mk (PyData.keyHash x0 (Str.ofString "__weakref__")) (.str (Str.ofString "__weakref__") 648) (.ref 318)),(.mk (PyData.keyHash x0 (Str.ofString "__doc__")) (.str (Str.ofString "__doc__") 649) .none)]) 4) (List.toArray [])))
noncomputable def o_368 : Params→Obj := (fun x0=>(.mk (.type "type") (@none Nat) (.cls (@ClassData.mk (Str.ofString "Netlist") (@List.cons @Value (.type "object") (@List.nil @Value)) (@List.cons @Value (.ref 316) (@List.cons @Value (.type "object") (@List.nil @Value))) 315 (Str.ofString "Netlist") @Bool.true (@List.nil @Str) (@List.nil @Value) @Bool.false (@Option.none.{0} @Bool) @Bool.false)) (List.toArray [(@Option.none.{0} @Value),(@Option.none.{0} @Value),(some (.str (Str.ofString "Netlist") 551)),(some (.str (Str.ofString "Netlist") 559)),(some (.builtin "object.__new__")),(some (.bool true))])))
noncomputable def o_369 : Params→Obj := (fun x0=>(.mk (.type "getset_descriptor") (@none Nat) (.fields (List.toArray [(.str (Str.ofString "__dict__") 645),(.ref 316),(.builtin "function.__dict__"),(.builtin "function.__dict__#set")])) (List.toArray [])))
noncomputable def o_370 : Params→Obj := (fun x0=>(.mk (.type "getset_descriptor") (@none Nat) (.fields (List.toArray [(.str (Str.ofString "__weakref__") 647),(.ref 316),(.builtin "ExceptionGroup.__weakref__"),.none])) (List.toArray [])))
noncomputable def o_371 : Params→Obj := (fun x0=>(.mk (.type "super") (@none Nat) (.fields (List.toArray [(.ref 316),(.ref 316),(.ref 316)])) (List.toArray [])))
noncomputable def o_372 : Params→Obj := (fun x0=>(.mk (.type "builtin_function_or_method") (@none Nat) (.fields (List.toArray [(.builtin "object.__init_subclass__"),(.ref 316)])) (List.toArray [])))
noncomputable def o_375 : Params→Obj := (fun x0=>(o_43 x0))
noncomputable def o_376 : Params→Obj := (fun x0=>(o_53 x0))
noncomputable def o_377 : Params→Obj := (fun x0=>(.mk (.type "tuple") (@none Nat) (.seq (List.toArray [(.str (Str.ofString "script") 657),(.str (Str.ofString "coins") 658),(.str (Str.ofString "cell") 659),(.str (Str.ofString "money") 660)]) 0) (List.toArray [])))
noncomputable def o_378 : Params→Obj := (fun x0=>(o_43 x0))
noncomputable def o_379 : Params→Obj := (fun x0=>(.mk .none (@none Nat) (.func (.mk (Str.ofString "_law_purse") (Str.ofString "_law_purse") (fA (sN 18)) (.stmts (fB (sN 18))) (fS (sN 18)) 0 (@List.nil (Str×Nat)) .none .none .none .none (@none Nat) .none .none 0)) (List.toArray [])))
noncomputable def o_380 : Params→Obj := (fun x0=>(.mk (.type "code") (@none Nat) (.fields (List.toArray [(.str (Str.ofString "_law_purse") 654),(.str (Str.ofString "_law_purse") 655),(.str (Str.ofString "/claim/cut.py") 656),(.int 196 0),(.int 1 0),(.int 0 0),(.int 0 0),(.int 3 0),(.ref 321),(.bool true),(.int 181 0),(.ref 322),.none,(.ref 323),(.ref 324),(.ref 325),(.int 661 0),(.int 196 0),(.str (Str.ofString "/claim/cut.py") 662)])) (List.toArray [])))
noncomputable def o_381 : Params→Obj := (fun x0=>(.mk (.type "function") (@none Nat) (.func (.mk (Str.ofString "_law_purse") (Str.ofString "_law_purse") (fA (sN 18)) (.stmts (fB (sN 18))) (fS (sN 18)) 3 (@List.nil (Str×Nat)) .none .none .none (.str (Str.ofString "law_sj0046_01") 652) (@none Nat) (.ref 326) .none 0)) (List.toArray [])))
noncomputable def o_382 : Params→Obj := (fun x0=>(o_43 x0))
noncomputable def o_383 : Params→Obj := (fun x0=>(o_53 x0))
noncomputable def o_384 : Params→Obj := (fun x0=>(.mk (.type "tuple") (@none Nat) (.seq (List.toArray [(.str (Str.ofString "purse") 667),(.str (Str.ofString "many") 668)]) 0) (List.toArray [])))
noncomputable def o_385 : Params→Obj := (fun x0=>(o_43 x0))
noncomputable def o_386 : Params→Obj := (fun x0=>(.mk .none (@none Nat) (.func (.mk (Str.ofString "_law_coin") (Str.ofString "_law_coin") (fA (sN 19)) (.stmts (fB (sN 19))) (fS (sN 19)) 0 (@List.nil (Str×Nat)) .none .none .none .none (@none Nat) .none .none 0)) (List.toArray [])))
noncomputable def o_387 : Params→Obj := (fun x0=>(.mk (.type "code") (@none Nat) (.fields (List.toArray [(.str (Str.ofString "_law_coin") 664),(.str (Str.ofString "_law_coin") 665),(.str (Str.ofString "/claim/cut.py") 666),(.int 206 0),(.int 2 0),(.int 0 0),(.int 0 0),(.int 3 0),(.ref 328),(.bool true),(.int 181 0),(.ref 329),.none,(.ref 330),(.ref 331),(.ref 332),(.int 669 0),(.int 206 0),(.str (Str.ofString "/claim/cut.py") 670)])) (List.toArray [])))
noncomputable def o_388 : Params→Obj := (fun x0=>(.mk (.type "function") (@none Nat) (.func (.mk (Str.ofString "_law_coin") (Str.ofString "_law_coin") (fA (sN 19)) (.stmts (fB (sN 19))) (fS (sN 19)) 3 (@List.nil (Str×Nat)) .none .none .none (.str (Str.ofString "law_sj0046_01") 652) (@none Nat) (.ref 333) .none 0)) (List.toArray [])))
noncomputable def o_389 : Params→Obj := (fun x0=>(o_43 x0))
noncomputable def o_390 : Params→Obj := (fun x0=>(o_53 x0))
noncomputable def o_391 : Params→Obj := (fun x0=>(o_43 x0))
noncomputable def o_392 : Params→Obj := (fun x0=>(o_43 x0))
noncomputable def o_393 : Params→Obj := (fun x0=>(.mk .none (@none Nat) (.func (.mk (Str.ofString "_law_names") (Str.ofString "_law_names") (fA (sN 12)) (.stmts (fB (sN 20))) (fS (sN 12)) 0 (@List.nil (Str×Nat)) .none .none .none .none (@none Nat) .none .none 0)) (List.toArray [])))
noncomputable def o_394 : Params→Obj := (fun x0=>(.mk (.type "code") (@none Nat) (.fields (List.toArray [(.str (Str.ofString "_law_names") 672),(.str (Str.ofString "_law_names") 673),(.str (Str.ofString "/claim/cut.py") 674),(.int 211 0),(.int 0 0),(.int 0 0),(.int 0 0),(.int 3 0),(.ref 335),(.bool true),(.int 181 0),(.ref 336),.none,(.ref 337),(.ref 338),(.ref 339),(.int 675 0),(.int 211 0),(.str (Str.ofString "/claim/cut.py") 676)])) (List.toArray [])))
noncomputable def o_395 : Params→Obj := (fun x0=>(.mk (.type "function") (@none Nat) (.func (.mk (Str.ofString "_law_names") (Str.ofString "_law_names") (fA (sN 12)) (.stmts (fB (sN 20))) (fS (sN 12)) 3 (@List.nil (Str×Nat)) .none .none .none (.str (Str.ofString "law_sj0046_01") 652) (@none Nat) (.ref 340) .none 0)) (List.toArray [])))
noncomputable def o_396 : Params→Obj := (fun x0=>(o_43 x0))
noncomputable def o_397 : Params→Obj := (fun x0=>(o_53 x0))
noncomputable def o_398 : Params→Obj := (fun x0=>(o_43 x0))
noncomputable def o_399 : Params→Obj := (fun x0=>(o_43 x0))
noncomputable def o_400 : Params→Obj := (fun x0=>(.mk .none (@none Nat) (.func (.mk (Str.ofString "_law_paths") (Str.ofString "_law_paths") (fA (sN 12)) (.stmts (fB (sN 21))) (fS (sN 12)) 0 (@List.nil (Str×Nat)) .none .none .none .none (@none Nat) .none .none 0)) (List.toArray [])))
noncomputable def o_401 : Params→Obj := (fun x0=>(.mk (.type "code") (@none Nat) (.fields (List.toArray [(.str (Str.ofString "_law_paths") 678),(.str (Str.ofString "_law_paths") 679),(.str (Str.ofString "/claim/cut.py") 680),(.int 213 0),(.int 0 0),(.int 0 0),(.int 0 0),(.int 3 0),(.ref 342),(.bool true),(.int 181 0),(.ref 343),.none,(.ref 344),(.ref 345),(.ref 346),(.int 681 0),(.int 213 0),(.str (Str.ofString "/claim/cut.py") 682)])) (List.toArray [])))
noncomputable def o_402 : Params→Obj := (fun x0=>(.mk (.type "function") (@none Nat) (.func (.mk (Str.ofString "_law_paths") (Str.ofString "_law_paths") (fA (sN 12)) (.stmts (fB (sN 21))) (fS (sN 12)) 3 (@List.nil (Str×Nat)) .none .none .none (.str (Str.ofString "law_sj0046_01") 652) (@none Nat) (.ref 347) .none 0)) (List.toArray [])))
noncomputable def o_403 : Params→Obj := (fun x0=>(o_43 x0))
noncomputable def o_404 : Params→Obj := (fun x0=>(o_53 x0))
noncomputable def o_405 : Params→Obj := (fun x0=>(.mk (.type "tuple") (@none Nat) (.seq (List.toArray [(.str (Str.ofString "design") 687),(.str (Str.ofString "memory") 688)]) 0) (List.toArray [])))
noncomputable def o_406 : Params→Obj := (fun x0=>(o_43 x0))
noncomputable def o_407 : Params→Obj := (fun x0=>(.mk .none (@none Nat) (.func (.mk (Str.ofString "_law_design") (Str.ofString "_law_design") (fA (sN 12)) (.stmts (fB (sN 22))) (fS (sN 22)) 0 (@List.nil (Str×Nat)) .none .none .none .none (@none Nat) .none .none 0)) (List.toArray [])))
noncomputable def o_408 : Params→Obj := (fun x0=>(.mk (.type "code") (@none Nat) (.fields (List.toArray [(.str (Str.ofString "_law_design") 684),(.str (Str.ofString "_law_design") 685),(.str (Str.ofString "/claim/cut.py") 686),(.int 215 0),(.int 0 0),(.int 0 0),(.int 0 0),(.int 3 0),(.ref 349),(.bool true),(.int 181 0),(.ref 350),.none,(.ref 351),(.ref 352),(.ref 353),(.int 689 0),(.int 215 0),(.str (Str.ofString "/claim/cut.py") 690)])) (List.toArray [])))
noncomputable def o_409 : Params→Obj := (fun x0=>(.mk (.type "function") (@none Nat) (.func (.mk (Str.ofString "_law_design") (Str.ofString "_law_design") (fA (sN 12)) (.stmts (fB (sN 22))) (fS (sN 22)) 3 (@List.nil (Str×Nat)) .none .none .none (.str (Str.ofString "law_sj0046_01") 652) (@none Nat) (.ref 354) .none 0)) (List.toArray [])))
noncomputable def o_410 : Params→Obj := (fun x0=>(o_43 x0))
noncomputable def o_411 : Params→Obj := (fun x0=>(o_53 x0))
noncomputable def o_412 : Params→Obj := (fun x0=>(.mk (.type "tuple") (@none Nat) (.seq (List.toArray [(.str (Str.ofString "wires") 695),(.str (Str.ofString "netlist") 696),(.str (Str.ofString "design") 697),(.str (Str.ofString "row") 698),(.str (Str.ofString "error") 699)]) 0) (List.toArray [])))
noncomputable def o_413 : Params→Obj := (fun x0=>(o_43 x0))
noncomputable def o_414 : Params→Obj := (fun x0=>(.mk .none (@none Nat) (.func (.mk (Str.ofString "_law_emitted") (Str.ofString "_law_emitted") (fA (sN 23)) (.stmts (fB (sN 23))) (fS (sN 23)) 0 (@List.nil (Str×Nat)) .none .none .none .none (@none Nat) .none .none 0)) (List.toArray [])))
noncomputable def o_415 : Params→Obj := (fun x0=>(.mk (.type "code") (@none Nat) (.fields (List.toArray [(.str (Str.ofString "_law_emitted") 692),(.str (Str.ofString "_law_emitted") 693),(.str (Str.ofString "/claim/cut.py") 694),(.int 225 0),(.int 4 0),(.int 0 0),(.int 0 0),(.int 3 0),(.ref 356),(.bool true),(.int 181 0),(.ref 357),.none,(.ref 358),(.ref 359),(.ref 360),(.int 700 0),(.int 225 0),(.str (Str.ofString "/claim/cut.py") 701)])) (List.toArray [])))
noncomputable def o_416 : Params→Obj := (fun x0=>(.mk (.type "function") (@none Nat) (.func (.mk (Str.ofString "_law_emitted") (Str.ofString "_law_emitted") (fA (sN 23)) (.stmts (fB (sN 23))) (fS (sN 23)) 3 (@List.nil (Str×Nat)) .none .none .none (.str (Str.ofString "law_sj0046_01") 652) (@none Nat) (.ref 361) .none 0)) (List.toArray [])))
noncomputable def o_417 : Params→Obj := (fun x0=>(o_43 x0))
noncomputable def o_418 : Params→Obj := (fun x0=>(o_53 x0))
noncomputable def o_419 : Params→Obj := (fun x0=>(.mk (.type "tuple") (@none Nat) (.seq (List.toArray [(.str (Str.ofString "wires") 706),(.str (Str.ofString "design") 707),(.str (Str.ofString "error") 708)]) 0) (List.toArray [])))
noncomputable def o_420 : Params→Obj := (fun x0=>(o_43 x0))
noncomputable def o_421 : Params→Obj := (fun x0=>(.mk .none (@none Nat) (.func (.mk (Str.ofString "_law_checked") (Str.ofString "_law_checked") (fA (sN 24)) (.stmts (fB (sN 24))) (fS (sN 24)) 0 (@List.nil (Str×Nat)) .none .none .none .none (@none Nat) .none .none 0)) (List.toArray [])))
noncomputable def o_422 : Params→Obj := (fun x0=>(.mk (.type "code") (@none Nat) (.fields (List.toArray [(.str (Str.ofString "_law_checked") 703),(.str (Str.ofString "_law_checked") 704),(.str (Str.ofString "/claim/cut.py") 705),(.int 231 0),(.int 2 0),(.int 0 0),(.int 0 0),(.int 3 0),(.ref 363),(.bool true),(.int 181 0),(.ref 364),.none,(.ref 365),(.ref 366),(.ref 367),(.int 709 0),(.int 231 0),(.str (Str.ofString "/claim/cut.py") 710)])) (List.toArray [])))
noncomputable def o_423 : Params→Obj := (fun x0=>(.mk (.type "function") (@none Nat) (.func (.mk (Str.ofString "_law_checked") (Str.ofString "_law_checked") (fA (sN 24)) (.stmts (fB (sN 24))) (fS (sN 24)) 3 (@List.nil (Str×Nat)) .none .none .none (.str (Str.ofString "law_sj0046_01") 652) (@none Nat) (.ref 368) .none 0)) (List.toArray [])))
noncomputable def o_424 : Params→Obj := (fun x0=>(o_43 x0))
noncomputable def o_425 : Params→Obj := (fun x0=>(o_53 x0))
noncomputable def o_426 : Params→Obj := (fun x0=>(.mk (.type "tuple") (@none Nat) (.seq (List.toArray [(.str (Str.ofString "driven") 715),(.str (Str.ofString "ref") 716),(.str (Str.ofString "bit") 717)]) 0) (List.toArray [])))
noncomputable def o_427 : Params→Obj := (fun x0=>(o_43 x0))
noncomputable def o_428 : Params→Obj := (fun x0=>(.mk .none (@none Nat) (.func (.mk (Str.ofString "_law_twice") (Str.ofString "_law_twice") (fA (sN 25)) (.stmts (fB (sN 25))) (fS (sN 25)) 0 (@List.nil (Str×Nat)) .none .none .none .none (@none Nat) .none .none 0)) (List.toArray [])))
noncomputable def o_429 : Params→Obj := (fun x0=>(.mk (.type "code") (@none Nat) (.fields (List.toArray [(.str (Str.ofString "_law_twice") 712),(.str (Str.ofString "_law_twice") 713),(.str (Str.ofString "/claim/cut.py") 714),(.int 237 0),(.int 1 0),(.int 0 0),(.int 0 0),(.int 3 0),(.ref 370),(.bool true),(.int 181 0),(.ref 371),.none,(.ref 372),(.ref 373),(.ref 374),(.int 718 0),(.int 237 0),(.str (Str.ofString "/claim/cut.py") 719)])) (List.toArray [])))
noncomputable def o_430 : Params→Obj := (fun x0=>(.mk (.type "function") (@none Nat) (.func (.mk (Str.ofString "_law_twice") (Str.ofString "_law_twice") (fA (sN 25)) (.stmts (fB (sN 25))) (fS (sN 25)) 3 (@List.nil (Str×Nat)) .none .none .none (.str (Str.ofString "law_sj0046_01") 652) (@none Nat) (.ref 375) .none 0)) (List.toArray [])))
noncomputable def o_431 : Params→Obj := (fun x0=>(o_43 x0))
noncomputable def o_432 : Params→Obj := (fun x0=>(o_53 x0))
noncomputable def o_433 : Params→Obj := (fun x0=>(.mk (.type "tuple") (@none Nat) (.seq (List.toArray [(.str (Str.ofString "rows") 724),(.str (Str.ofString "starts") 725),(.str (Str.ofString "design") 726),(.str (Str.ofString "netlist") 727),(.str (Str.ofString "wires") 728),(.str (Str.ofString "ref") 729),(.str (Str.ofString "cells") 730),(.str (Str.ofString "driven") 731),(.str (Str.ofString "taken") 732),(.str (Str.ofString "row") 733),(.str (Str.ofString "bit") 734),(.str (Str.ofString "name") 735),(.str (Str.ofString "due") 736),(.str (Str.ofString "param") 737)]) 0) (List.toArray [])))
noncomputable def o_434 : Params→Obj := (fun x0=>(o_43 x0))
noncomputable def o_435 : Params→Obj := (fun x0=>(.mk .none (@none Nat) (.func (.mk (Str.ofString "_law_case") (Str.ofString "_law_case") (fA (sN 26)) (.stmts (fB (sN 26))) (fS (sN 26)) 0 (@List.nil (Str×Nat)) .none .none .none .none (@none Nat) .none .none 0)) (List.toArray [])))
noncomputable def o_436 : Params→Obj := (fun x0=>(.mk (.type "code") (@none Nat) (.fields (List.toArray [(.str (Str.ofString "_law_case") 721),(.str (Str.ofString "_law_case") 722),(.str (Str.ofString "/claim/cut.py") 723),(.int 243 0),(.int 2 0),(.int 0 0),(.int 0 0),(.int 3 0),(.ref 377),(.bool true),(.int 181 0),(.ref 378),.none,(.ref 379),(.ref 380),(.ref 381),(.int 738 0),(.int 243 0),(.str (Str.ofString "/claim/cut.py") 739)])) (List.toArray [])))
noncomputable def o_437 : Params→Obj := (fun x0=>(.mk (.type "function") (@none Nat) (.func (.mk (Str.ofString "_law_case") (Str.ofString "_law_case") (fA (sN 26)) (.stmts (fB (sN 26))) (fS (sN 26)) 3 (@List.nil (Str×Nat)) .none .none .none (.str (Str.ofString "law_sj0046_01") 652) (@none Nat) (.ref 382) .none 0)) (List.toArray [])))
noncomputable def o_438 : Params→Obj := (fun x0=>(o_43 x0))
noncomputable def o_439 : Params→Obj := (fun x0=>(o_53 x0))
noncomputable def o_440 : Params→Obj := (fun x0=>(.mk .none (@none Nat) (.func (.mk (Str.ofString "law") (Str.ofString "law") (fA (sN 27)) (.stmts (fB (sN 27))) (fS (sN 27)) 0 (@List.nil (Str×Nat)) .none .none .none .none (@none Nat) .none .none 0)) (List.toArray [])))
noncomputable def o_441 : Params→Obj := (fun x0=>(.mk (.type "code") (@none Nat) (.fields (List.toArray [(.str (Str.ofString "law") 741),(.str (Str.ofString "law") 742),(.str (Str.ofString "/claim/cut.py") 743),(.int 278 0),(.int 1 0),(.int 0 0),(.int 0 0),(.int 3 0),(.ref 384),(.bool true),(.int 181 0),(.ref 385),.none,.none,.none,(.ref 386),(.int 744 0),(.int 278 0),(.str (Str.ofString "/claim/cut.py") 745)])) (List.toArray [])))
noncomputable def o_442 : Params→Obj := (fun x0=>(.mk (.type "function") (@none Nat) (.func (.mk (Str.ofString "law") (Str.ofString "law") (fA (sN 27)) (.stmts (fB (sN 27))) (fS (sN 27)) 3 (@List.nil (Str×Nat)) .none .none .none (.str (Str.ofString "law_sj0046_01") 652) (@none Nat) (.ref 387) .none 0)) (List.toArray [])))
noncomputable def o_44 : Params→Obj := (fun x0=>(o_53 x0))
noncomputable def heap_46 : ((x0:@PySem.Params)→@PySem.Heap) := (fun (x0:@PySem.Params)=>(@PySem.Heap.mk (@Array.mk.{0} @PySem.Obj (@List.cons.{0} @PySem.Obj (@PySem.W.boot_o_0 x0) (@List.cons.{0} @PySem.Obj (@PySem.W.boot_o_1 x0) (@List.cons.{0} @PySem.Obj (@PySem.W.boot_o_2 x0) (@List.cons.{0} @PySem.Obj (@PySem.W.boot_o_3 x0) (@List.cons.{0} @PySem.Obj (@PySem.W.boot_o_4 x0) (@List.cons.{0} @PySem.Obj (@PySem.W.boot_o_5 x0) (@List.cons.{0} @PySem.Obj (@PySem.W.boot_o_6 x0) (@List.cons.{0} @PySem.Obj (@PySem.W.boot_o_7 x0) (@List.cons.{0} @PySem.Obj (@PySem.W.boot_o_8 x0) (@List.cons.{0} @PySem.Obj (@PySem.W.boot_o_9 x0) (@List.cons.{0} @PySem.Obj (@PySem.W.boot_o_10 x0) (@List.cons.{0} @PySem.Obj (o_43 x0) (@List.cons.{0} @PySem.Obj (o_44 x0) (@List.cons.{0} @PySem.Obj (o_45 x0) (@List.cons.{0} @PySem.Obj (o_46 x0) (@List.nil.{0} @PySem.Obj))))))))))))))))) (@PySem.Life.mk (@List.nil.{0} @Nat) (@List.nil.{0} @Nat) (@List.nil.{0} @Nat) 0 (@List.nil.{0} (@Prod.{0,0} @Nat @Nat)) (@List.nil.{0} @Nat) @Bool.false (@List.toArray.{0} @Nat (@List.nil.{0} @Nat)) (@List.nil.{0} @Nat) 0 @Bool.false @Bool.false @Bool.false (@OfNat.ofNat.{0} @Int (nat_lit 0) (@instOfNat (nat_lit 0))) (@List.cons.{0} @Int (@OfNat.ofNat.{0} @Int (nat_lit 2000) (@instOfNat (nat_lit 2000))) (@List.cons.{0} @Int (@OfNat.ofNat.{0} @Int (nat_lit 10) (@instOfNat (nat_lit 10))) (@List.cons.{0} @Int (@OfNat.ofNat.{0} @Int (nat_lit 10) (@instOfNat (nat_lit 10))) (@List.nil.{0} @Int)))) @Bool.false 0 @Bool.true (@List.nil.{0} @Nat) (@List.nil.{0} @Nat) 0 @Bool.false)))
noncomputable def env_41 : @Env := (@Env.mk (@Module.scope (@Program.main ((@W.OpenRow.toRowW (@W.OpenLaw.row @Challenge.rw_sj0046_01))).1)) @mainNs @mainNs (@List.nil (@Prod.{0,0} @Str @Addr)) @Str.empty (@Option.none.{0} @Addr) (.ref 13) (@Option.some.{0} @Addr (@OfNat.ofNat.{0} @Addr (nat_lit 14) (@instOfNatNat (nat_lit 14)))) (@OfNat.ofNat.{0} @Addr (nat_lit 0) (@instOfNatNat (nat_lit 0))))
noncomputable def heap_443 : ((x0:@Params)→@Heap) := (fun x0=>(@Heap.mk (@Array.mk.{0} @Obj (@List.cons @Obj (@W.boot_o_0 x0) (@List.cons @Obj (@W.boot_o_1 x0) (@List.cons @Obj (o_49 x0) (@List.cons @Obj (o_373 x0) (@List.cons @Obj (@W.boot_o_4 x0) (@List.cons @Obj (@W.boot_o_5 x0) (@List.cons @Obj (@W.boot_o_6 x0) (@List.cons @Obj (@W.boot_o_7 x0) (@List.cons @Obj (@W.boot_o_8 x0) (@List.cons @Obj (@W.boot_o_9 x0) (@List.cons @Obj (@W.boot_o_10 x0) (@List.cons @Obj (o_43 x0) (@List.cons @Obj (o_374 x0) (@List.cons @Obj (o_45 x0) (@List.cons @Obj (o_46 x0) (@List.cons @Obj (o_52 x0) (@List.cons @Obj (o_53 x0) (@List.cons @Obj (o_54 x0) (@List.cons @Obj (o_55 x0) (@List.cons @Obj (o_56 x0) (@List.cons @Obj (o_57 x0) (@List.cons @Obj (o_58 x0) (@List.cons @Obj (o_59 x0) (@List.cons @Obj (o_60 x0) (@List.cons @Obj (o_61 x0) (@List.cons @Obj (o_62 x0) (@List.cons @Obj (o_63 x0) (@List.cons @Obj (o_64 x0) (@List.cons @Obj (o_65 x0) (@List.cons @Obj (o_66 x0) (@List.cons @Obj (o_67 x0) (@List.cons @Obj (o_68 x0) (@List.cons @Obj (o_69 x0) (@List.cons @Obj (o_70 x0) (@List.cons @Obj (o_71 x0) (@List.cons @Obj (o_72 x0) (@List.cons @Obj (o_73 x0) (@List.cons @Obj (o_74 x0) (@List.cons @Obj (o_75 x0) (@List.cons @Obj (o_82 x0) (@List.cons @Obj (o_77 x0) (@List.cons @Obj (o_78 x0) (@List.cons @Obj (o_79 x0) (@List.cons @Obj (o_83 x0) (@List.cons @Obj (o_84 x0) (@List.cons @Obj (o_85 x0) (@List.cons @Obj (o_86 x0) (@List.cons @Obj (o_87 x0) (@List.cons @Obj (o_88 x0) (@List.cons @Obj (o_89 x0) (@List.cons @Obj (o_90 x0) (@List.cons @Obj (o_91 x0) (@List.cons @Obj (o_92 x0) (@List.cons @Obj (o_93 x0) (@List.cons @Obj (o_94 x0) (@List.cons @Obj (o_97 x0) (@List.cons @Obj (o_98 x0) (@List.cons @Obj (o_99 x0) (@List.cons @Obj (o_100 x0) (@List.cons @Obj (o_101 x0) (@List.cons @Obj (o_102 x0) (@List.cons @Obj (o_103 x0) (@List.cons @Obj (o_104 x0) (@List.cons @Obj (o_105 x0) (@List.cons @Obj (o_106 x0) (@List.cons @Obj (o_107 x0) (@List.cons @Obj (o_108 x0) (@List.cons @Obj (o_109 x0) (@List.cons @Obj (o_110 x0) (@List.cons @Obj (o_111 x0) (@List.cons @Obj (o_112 x0) (@List.cons @Obj (o_113 x0) (@List.cons @Obj (o_114 x0) (@List.cons @Obj (o_115 x0) (@List.cons @Obj (o_116 x0) (@List.cons @Obj (o_117 x0) (@List.cons @Obj (o_118 x0) (@List.cons @Obj (o_119 x0) (@List.cons @Obj (o_120 x0) (@List.cons @Obj (o_121 x0) (@List.cons @Obj (o_122 x0) (@List.cons @Obj (o_123 x0) (@List.cons @Obj (o_124 x0) (@List.cons @Obj (o_125 x0) (@List.cons @Obj (o_126 x0) (@List.cons @Obj (o_127 x0) (@List.cons @Obj (o_128 x0) (@List.cons @Obj (o_129 x0) (@List.cons @Obj (o_130 x0) (@List.cons @Obj (o_131 x0) (@List.cons @Obj (o_132 x0) (@List.cons @Obj (o_133 x0) (@List.cons @Obj (o_134 x0) (@List.cons @Obj (o_135 x0) (@List.cons @Obj (o_136 x0) (@List.cons @Obj (o_137 x0) (@List.cons @Obj (o_138 x0) (@List.cons @Obj (o_139 x0) (@List.cons @Obj (o_140 x0) (@List.cons @Obj (o_141 x0) (@List.cons @Obj (o_142 x0) (@List.cons @Obj (o_143 x0) (@List.cons @Obj (o_144 x0) (@List.cons @Obj (o_145 x0) (@List.cons @Obj (o_148 x0) (@List.cons @Obj (o_149 x0) (@List.cons @Obj (o_150 x0) (@List.cons @Obj (o_151 x0) (@List.cons @Obj (o_152 x0) (@List.cons @Obj (o_153 x0) (@List.cons @Obj (o_154 x0) (@List.cons @Obj (o_155 x0) (@List.cons @Obj (o_156 x0) (@List.cons @Obj (o_157 x0) (@List.cons @Obj (o_158 x0) (@List.cons @Obj (o_159 x0) (@List.cons @Obj (o_160 x0) (@List.cons @Obj (o_161 x0) (@List.cons @Obj (o_162 x0) (@List.cons @Obj (o_163 x0) (@List.cons @Obj (o_164 x0) (@List.cons @Obj (o_165 x0) (@List.cons @Obj (o_166 x0) (@List.cons @Obj (o_167 x0) (@List.cons @Obj (o_168 x0) (@List.cons @Obj (o_171 x0) (@List.cons @Obj (o_172 x0) (@List.cons @Obj (o_173 x0) (@List.cons @Obj (o_174 x0) (@List.cons @Obj (o_175 x0) (@List.cons @Obj (o_176 x0) (@List.cons @Obj (o_177 x0) (@List.cons @Obj (o_178 x0) (@List.cons @Obj (o_179 x0) (@List.cons @Obj (o_180 x0) (@List.cons @Obj (o_181 x0) (@List.cons @Obj (o_182 x0) (@List.cons @Obj (o_183 x0) (@List.cons @Obj (o_184 x0) (@List.cons @Obj (o_185 x0) (@List.cons @Obj (o_186 x0) (@List.cons @Obj (o_187 x0) (@List.cons @Obj (o_188 x0) (@List.cons @Obj (o_189 x0) (@List.cons @Obj (o_190 x0) (@List.cons @Obj (o_191 x0) (@List.cons @Obj (o_192 x0) (@List.cons @Obj (o_193 x0) (@List.cons @Obj (o_194 x0) (@List.cons @Obj (o_195 x0) (@List.cons @Obj (o_196 x0) (@List.cons @Obj (o_197 x0) (@List.cons @Obj (o_198 x0) (@List.cons @Obj (o_199 x0) (@List.cons @Obj (o_200 x0) (@List.cons @Obj (o_201 x0) (@List.cons @Obj (o_202 x0) (@List.cons @Obj (o_203 x0) (@List.cons @Obj (o_204 x0) (@List.cons @Obj (o_205 x0) (@List.cons @Obj (o_206 x0) (@List.cons @Obj (o_207 x0) (@List.cons @Obj (o_208 x0) (@List.cons @Obj (o_209 x0) (@List.cons @Obj (o_210 x0) (@List.cons @Obj (o_211 x0) (@List.cons @Obj (o_212 x0) (@List.cons @Obj (o_213 x0) (@List.cons @Obj (o_214 x0) (@List.cons @Obj (o_215 x0) (@List.cons @Obj (o_216 x0) (@List.cons @Obj (o_217 x0) (@List.cons @Obj (o_218 x0) (@List.cons @Obj (o_219 x0) (@List.cons @Obj (o_220 x0) (@List.cons @Obj (o_221 x0) (@List.cons @Obj (o_222 x0) (@List.cons @Obj (o_223 x0) (@List.cons @Obj (o_224 x0) (@List.cons @Obj (o_225 x0) (@List.cons @Obj (o_226 x0) (@List.cons @Obj (o_229 x0) (@List.cons @Obj (o_230 x0) (@List.cons @Obj (o_231 x0) (@List.cons @Obj (o_232 x0) (@List.cons @Obj (o_233 x0) (@List.cons @Obj (o_234 x0) (@List.cons @Obj (o_235 x0) (@List.cons @Obj (o_236 x0) (@List.cons @Obj (o_237 x0) (@List.cons @Obj (o_238 x0) (@List.cons @Obj (o_239 x0) (@List.cons @Obj (o_240 x0) (@List.cons @Obj (o_241 x0) (@List.cons @Obj (o_242 x0) (@List.cons @Obj (o_243 x0) (@List.cons @Obj (o_244 x0) (@List.cons @Obj (o_245 x0) (@List.cons @Obj (o_246 x0) (@List.cons @Obj (o_247 x0) (@List.cons @Obj (o_248 x0) (@List.cons @Obj (o_249 x0) (@List.cons @Obj (o_250 x0) (@List.cons @Obj (o_251 x0) (@List.cons @Obj (o_252 x0) (@List.cons @Obj (o_253 x0) (@List.cons @Obj (o_254 x0) (@List.cons @Obj (o_255 x0) (@List.cons @Obj (o_256 x0) (@List.cons @Obj (o_257 x0) (@List.cons @Obj (o_258 x0) (@List.cons @Obj (o_259 x0) (@List.cons @Obj (o_260 x0) (@List.cons @Obj (o_261 x0) (@List.cons @Obj (o_262 x0) (@List.cons @Obj (o_263 x0) (@List.cons @Obj (o_264 x0) (@List.cons @Obj (o_265 x0) (@List.cons @Obj (o_266 x0) (@List.cons @Obj (o_267 x0) (@List.cons @Obj (o_268 x0) (@List.cons @Obj (o_269 x0) (@List.cons @Obj (o_270 x0) (@List.cons @Obj (o_271 x0) (@List.cons @Obj (o_272 x0) (@List.cons @Obj (o_273 x0) (@List.cons @Obj (o_274 x0) (@List.cons @Obj (o_275 x0) (@List.cons @Obj (o_276 x0) (@List.cons @Obj (o_277 x0) (@List.cons @Obj (o_278 x0) (@List.cons @Obj (o_279 x0) (@List.cons @Obj (o_280 x0) (@List.cons @Obj (o_281 x0) (@List.cons @Obj (o_282 x0) (@List.cons @Obj (o_283 x0) (@List.cons @Obj (o_284 x0) (@List.cons @Obj (o_285 x0) (@List.cons @Obj (o_286 x0) (@List.cons @Obj (o_287 x0) (@List.cons @Obj (o_288 x0) (@List.cons @Obj (o_289 x0) (@List.cons @Obj (o_290 x0) (@List.cons @Obj (o_291 x0) (@List.cons @Obj (o_296 x0) (@List.cons @Obj (o_297 x0) (@List.cons @Obj (o_298 x0) (@List.cons @Obj (o_299 x0) (@List.cons @Obj (o_300 x0) (@List.cons @Obj (o_301 x0) (@List.cons @Obj (o_302 x0) (@List.cons @Obj (o_303 x0) (@List.cons @Obj (o_304 x0) (@List.cons @Obj (o_305 x0) (@List.cons @Obj (o_306 x0) (@List.cons @Obj (o_307 x0) (@List.cons @Obj (o_308 x0) (@List.cons @Obj (o_309 x0) (@List.cons @Obj (o_310 x0) (@List.cons @Obj (o_311 x0) (@List.cons @Obj (o_312 x0) (@List.cons @Obj (o_313 x0) (@List.cons @Obj (o_314 x0) (@List.cons @Obj (o_315 x0) (@List.cons @Obj (o_316 x0) (@List.cons @Obj (o_317 x0) (@List.cons @Obj (o_318 x0) (@List.cons @Obj (o_319 x0) (@List.cons @Obj (o_320 x0) (@List.cons @Obj (o_321 x0) (@List.cons @Obj (o_322 x0) (@List.cons @Obj (o_323 x0) (@List.cons @Obj (o_324 x0) (@List.cons @Obj (o_325 x0) (@List.cons @Obj (o_326 x0) (@List.cons @Obj (o_327 x0) (@List.cons @Obj (o_328 x0) (@List.cons @Obj (o_329 x0) (@List.cons @Obj (o_330 x0) (@List.cons @Obj (o_331 x0) (@List.cons @Obj (o_332 x0) (@List.cons @Obj (o_333 x0) (@List.cons @Obj (o_334 x0) (@List.cons @Obj (o_335 x0) (@List.cons @Obj (o_336 x0) (@List.cons @Obj (o_337 x0) (@List.cons @Obj (o_338 x0) (@List.cons @Obj (o_339 x0) (@List.cons @Obj (o_340 x0) (@List.cons @Obj (o_341 x0) (@List.cons @Obj (o_342 x0) (@List.cons @Obj (o_343 x0) (@List.cons @Obj (o_344 x0) (@List.cons @Obj (o_345 x0) (@List.cons @Obj (o_346 x0) (@List.cons @Obj (o_347 x0) (@List.cons @Obj (o_348 x0) (@List.cons @Obj (o_349 x0) (@List.cons @Obj (o_350 x0) (@List.cons @Obj (o_351 x0) (@List.cons @Obj (o_352 x0) (@List.cons @Obj (o_353 x0) (@List.cons @Obj (o_354 x0) (@List.cons @Obj (o_355 x0) (@List.cons @Obj (o_356 x0) (@List.cons @Obj (o_357 x0) (@List.cons @Obj (o_358 x0) (@List.cons @Obj (o_359 x0) (@List.cons @Obj (o_360 x0) (@List.cons @Obj (o_361 x0) (@List.cons @Obj (o_362 x0) (@List.cons @Obj (o_363 x0) (@List.cons @Obj (o_364 x0) (@List.cons @Obj (o_365 x0) (@List.cons @Obj (o_366 x0) (@List.cons @Obj (o_367 x0) (@List.cons @Obj (o_368 x0) (@List.cons @Obj (o_369 x0) (@List.cons @Obj (o_370 x0) (@List.cons @Obj (o_371 x0) (@List.cons @Obj (o_372 x0) (@List.cons @Obj (o_375 x0) (@List.cons @Obj (o_376 x0) (@List.cons @Obj (o_377 x0) (@List.cons @Obj (o_378 x0) (@List.cons @Obj (o_379 x0) (@List.cons @Obj (o_380 x0) (@List.cons @Obj (o_381 x0) (@List.cons @Obj (o_382 x0) (@List.cons @Obj (o_383 x0) (@List.cons @Obj (o_384 x0) (@List.cons @Obj (o_385 x0) (@List.cons @Obj (o_386 x0) (@List.cons @Obj (o_387 x0) (@List.cons @Obj (o_388 x0) (@List.cons @Obj (o_389 x0) (@List.cons @Obj (o_390 x0) (@List.cons @Obj (o_391 x0) (@List.cons @Obj (o_392 x0) (@List.cons @Obj (o_393 x0) (@List.cons @Obj (o_394 x0) (@List.cons @Obj (o_395 x0) (@List.cons @Obj (o_396 x0) (@List.cons @Obj (o_397 x0) (@List.cons @Obj (o_398 x0) (@List.cons @Obj (o_399 x0) (@List.cons @Obj (o_400 x0) (@List.cons @Obj (o_401 x0) (@List.cons @Obj (o_402 x0) (@List.cons @Obj (o_403 x0) (@List.cons @Obj (o_404 x0) (@List.cons @Obj (o_405 x0) (@List.cons @Obj (o_406 x0) (@List.cons @Obj (o_407 x0) (@List.cons @Obj (o_408 x0) (@List.cons @Obj (o_409 x0) (@List.cons @Obj (o_410 x0) (@List.cons @Obj (o_411 x0) (@List.cons @Obj (o_412 x0) (@List.cons @Obj (o_413 x0) (@List.cons @Obj (o_414 x0) (@List.cons @Obj (o_415 x0) (@List.cons @Obj (o_416 x0) (@List.cons @Obj (o_417 x0) (@List.cons @Obj (o_418 x0) (@List.cons @Obj (o_419 x0) (@List.cons @Obj (o_420 x0) (@List.cons @Obj (o_421 x0) (@List.cons @Obj (o_422 x0) (@List.cons @Obj (o_423 x0) (@List.cons @Obj (o_424 x0) (@List.cons @Obj (o_425 x0) (@List.cons @Obj (o_426 x0) (@List.cons @Obj (o_427 x0) (@List.cons @Obj (o_428 x0) (@List.cons @Obj (o_429 x0) (@List.cons @Obj (o_430 x0) (@List.cons @Obj (o_431 x0) (@List.cons @Obj (o_432 x0) (@List.cons @Obj (o_433 x0) (@List.cons @Obj (o_434 x0) (@List.cons @Obj (o_435 x0) (@List.cons @Obj (o_436 x0) (@List.cons @Obj (o_437 x0) (@List.cons @Obj (o_438 x0) (@List.cons @Obj (o_439 x0) (@List.cons @Obj (o_440 x0) (@List.cons @Obj (o_441 x0) (@List.cons @Obj (o_442 x0) (@List.nil @Obj))))))))))))))))))))))))))))))))))))))))))))))))))))))))))))))))))))))))))))))))))))))))))))))))))))))))))))))))))))))))))))))))))))))))))))))))))))))))))))))))))))))))))))))))))))))))))))))))))))))))))))))))))))))))))))))))))))))))))))))))))))))))))))))))))))))))))))))))))))))))))))))))))))))))))))))))))))))))))))))))))))))))))))))))))))))))))))))))))))))))))))))))))))))))))))))))))))))) (@Life.mk (@List.nil @Nat) (@List.nil @Nat) (@List.nil @Nat) 0 (@List.nil (@Prod.{0,0} @Nat @Nat)) (@List.nil @Nat) @Bool.false (@List.toArray.{0} @Nat (@List.nil @Nat)) (@List.nil @Nat) 0 @Bool.false @Bool.false @Bool.false (@OfNat.ofNat.{0} @Int (nat_lit 0) (@instOfNat (nat_lit 0))) (@List.cons @Int (@OfNat.ofNat.{0} @Int (nat_lit 2000) (@instOfNat (nat_lit 2000))) (@List.cons @Int (@OfNat.ofNat.{0} @Int (nat_lit 10) (@instOfNat (nat_lit 10))) (@List.cons @Int (@OfNat.ofNat.{0} @Int (nat_lit 10) (@instOfNat (nat_lit 10))) (@List.nil @Int)))) @Bool.false 0 @Bool.true (@List.nil @Nat) (@List.nil @Nat) 0 @Bool.false)))
noncomputable def heap_39 : ((x0:@Params)→@W.Frag) := (fun x0=>(@List.cons (Nat×Obj) (@Prod.mk Nat Obj (nat_lit 2) (o_49 x0)) (@List.cons (Nat×Obj) (@Prod.mk Nat Obj (nat_lit 3) (o_373 x0)) (@List.cons (Nat×Obj) (@Prod.mk Nat Obj (nat_lit 15) (o_43 x0)) (@List.cons (Nat×Obj) (@Prod.mk Nat Obj (nat_lit 17) (o_54 x0)) (@List.cons (Nat×Obj) (@Prod.mk Nat Obj (nat_lit 18) (o_43 x0)) (@List.cons (Nat×Obj) (@Prod.mk Nat Obj (nat_lit 20) (o_57 x0)) (@List.cons (Nat×Obj) (@Prod.mk Nat Obj (nat_lit 21) (o_58 x0)) (@List.cons (Nat×Obj) (@Prod.mk Nat Obj (nat_lit 22) (o_59 x0)) (@List.cons (Nat×Obj) (@Prod.mk Nat Obj (nat_lit 29) (o_66 x0)) (@List.cons (Nat×Obj) (@Prod.mk Nat Obj (nat_lit 30) (o_43 x0)) (@List.cons (Nat×Obj) (@Prod.mk Nat Obj (nat_lit 32) (o_69 x0)) (@List.cons (Nat×Obj) (@Prod.mk Nat Obj (nat_lit 33) (o_43 x0)) (@List.cons (Nat×Obj) (@Prod.mk Nat Obj (nat_lit 35) (o_72 x0)) (@List.cons (Nat×Obj) (@Prod.mk Nat Obj (nat_lit 36) (o_73 x0)) (@List.cons (Nat×Obj) (@Prod.mk Nat Obj (nat_lit 37) (o_74 x0)) (@List.cons (Nat×Obj) (@Prod.mk Nat Obj (nat_lit 38) (o_75 x0)) (@List.cons (Nat×Obj) (@Prod.mk Nat Obj (nat_lit 39) (o_82 x0)) (@List.cons (Nat×Obj) (@Prod.mk Nat Obj (nat_lit 40) (o_77 x0)) (@List.cons (Nat×Obj) (@Prod.mk Nat Obj (nat_lit 43) (o_83 x0)) (@List.cons (Nat×Obj) (@Prod.mk Nat Obj (nat_lit 50) (o_43 x0)) (@List.cons (Nat×Obj) (@Prod.mk Nat Obj (nat_lit 51) (o_91 x0)) (@List.cons (Nat×Obj) (@Prod.mk Nat Obj (nat_lit 52) (o_92 x0)) (@List.cons (Nat×Obj) (@Prod.mk Nat Obj (nat_lit 62) (o_43 x0)) (@List.cons (Nat×Obj) (@Prod.mk Nat Obj (nat_lit 64) (o_106 x0)) (@List.cons (Nat×Obj) (@Prod.mk Nat Obj (nat_lit 65) (o_43 x0)) (@List.cons (Nat×Obj) (@Prod.mk Nat Obj (nat_lit 67) (o_109 x0)) (@List.cons (Nat×Obj) (@Prod.mk Nat Obj (nat_lit 68) (o_110 x0)) (@List.cons (Nat×Obj) (@Prod.mk Nat Obj (nat_lit 69) (o_43 x0)) (@List.cons (Nat×Obj) (@Prod.mk Nat Obj (nat_lit 71) (o_113 x0)) (@List.cons (Nat×Obj) (@Prod.mk Nat Obj (nat_lit 72) (o_43 x0)) (@List.cons (Nat×Obj) (@Prod.mk Nat Obj (nat_lit 74) (o_116 x0)) (@List.cons (Nat×Obj) (@Prod.mk Nat Obj (nat_lit 75) (o_117 x0)) (@List.cons (Nat×Obj) (@Prod.mk Nat Obj (nat_lit 76) (o_43 x0)) (@List.cons (Nat×Obj) (@Prod.mk Nat Obj (nat_lit 78) (o_120 x0)) (@List.cons (Nat×Obj) (@Prod.mk Nat Obj (nat_lit 79) (o_43 x0)) (@List.cons (Nat×Obj) (@Prod.mk Nat Obj (nat_lit 81) (o_123 x0)) (@List.cons (Nat×Obj) (@Prod.mk Nat Obj (nat_lit 82) (o_124 x0)) (@List.cons (Nat×Obj) (@Prod.mk Nat Obj (nat_lit 83) (o_125 x0)) (@List.cons (Nat×Obj) (@Prod.mk Nat Obj (nat_lit 84) (o_126 x0)) (@List.cons (Nat×Obj) (@Prod.mk Nat Obj (nat_lit 85) (o_127 x0)) (@List.cons (Nat×Obj) (@Prod.mk Nat Obj (nat_lit 86) (o_128 x0)) (@List.cons (Nat×Obj) (@Prod.mk Nat Obj (nat_lit 87) (o_129 x0)) (@List.cons (Nat×Obj) (@Prod.mk Nat Obj (nat_lit 90) (o_43 x0)) (@List.cons (Nat×Obj) (@Prod.mk Nat Obj (nat_lit 92) (o_134 x0)) (@List.cons (Nat×Obj) (@Prod.mk Nat Obj (nat_lit 93) (o_43 x0)) (@List.cons (Nat×Obj) (@Prod.mk Nat Obj (nat_lit 95) (o_137 x0)) (@List.cons (Nat×Obj) (@Prod.mk Nat Obj (nat_lit 96) (o_138 x0)) (@List.cons (Nat×Obj) (@Prod.mk Nat Obj (nat_lit 97) (o_43 x0)) (@List.cons (Nat×Obj) (@Prod.mk Nat Obj (nat_lit 99) (o_141 x0)) (@List.cons (Nat×Obj) (@Prod.mk Nat Obj (nat_lit 100) (o_43 x0)) (@List.cons (Nat×Obj) (@Prod.mk Nat Obj (nat_lit 102) (o_144 x0)) (@List.cons (Nat×Obj) (@Prod.mk Nat Obj (nat_lit 103) (o_145 x0)) (@List.cons (Nat×Obj) (@Prod.mk Nat Obj (nat_lit 104) (o_43 x0)) (@List.cons (Nat×Obj) (@Prod.mk Nat Obj (nat_lit 106) (o_150 x0)) (@List.cons (Nat×Obj) (@Prod.mk Nat Obj (nat_lit 107) (o_43 x0)) (@List.cons (Nat×Obj) (@Prod.mk Nat Obj (nat_lit 109) (o_153 x0)) (@List.cons (Nat×Obj) (@Prod.mk Nat Obj (nat_lit 110) (o_154 x0)) (@List.cons (Nat×Obj) (@Prod.mk Nat Obj (nat_lit 111) (o_43 x0)) (@List.cons (Nat×Obj) (@Prod.mk Nat Obj (nat_lit 113) (o_157 x0)) (@List.cons (Nat×Obj) (@Prod.mk Nat Obj (nat_lit 114) (o_43 x0)) (@List.cons (Nat×Obj) (@Prod.mk Nat Obj (nat_lit 116) (o_160 x0)) (@List.cons (Nat×Obj) (@Prod.mk Nat Obj (nat_lit 117) (o_161 x0)) (@List.cons (Nat×Obj) (@Prod.mk Nat Obj (nat_lit 118) (o_43 x0)) (@List.cons (Nat×Obj) (@Prod.mk Nat Obj (nat_lit 120) (o_43 x0)) (@List.cons (Nat×Obj) (@Prod.mk Nat Obj (nat_lit 121) (o_43 x0)) (@List.cons (Nat×Obj) (@Prod.mk Nat Obj (nat_lit 123) (o_167 x0)) (@List.cons (Nat×Obj) (@Prod.mk Nat Obj (nat_lit 124) (o_168 x0)) (@List.cons (Nat×Obj) (@Prod.mk Nat Obj (nat_lit 132) (o_43 x0)) (@List.cons (Nat×Obj) (@Prod.mk Nat Obj (nat_lit 134) (o_180 x0)) (@List.cons (Nat×Obj) (@Prod.mk Nat Obj (nat_lit 135) (o_43 x0)) (@List.cons (Nat×Obj) (@Prod.mk Nat Obj (nat_lit 137) (o_183 x0)) (@List.cons (Nat×Obj) (@Prod.mk Nat Obj (nat_lit 138) (o_184 x0)) (@List.cons (Nat×Obj) (@Prod.mk Nat Obj (nat_lit 139) (o_43 x0)) (@List.cons (Nat×Obj) (@Prod.mk Nat Obj (nat_lit 141) (o_187 x0)) (@List.cons (Nat×Obj) (@Prod.mk Nat Obj (nat_lit 142) (o_43 x0)) (@List.cons (Nat×Obj) (@Prod.mk Nat Obj (nat_lit 144) (o_190 x0)) (@List.cons (Nat×Obj) (@Prod.mk Nat Obj (nat_lit 145) (o_191 x0)) (@List.cons (Nat×Obj) (@Prod.mk Nat Obj (nat_lit 146) (o_43 x0)) (@List.cons (Nat×Obj) (@Prod.mk Nat Obj (nat_lit 148) (o_194 x0)) (@List.cons (Nat×Obj) (@Prod.mk Nat Obj (nat_lit 149) (o_43 x0)) (@List.cons (Nat×Obj) (@Prod.mk Nat Obj (nat_lit 151) (o_197 x0)) (@List.cons (Nat×Obj) (@Prod.mk Nat Obj (nat_lit 152) (o_198 x0)) (@List.cons (Nat×Obj) (@Prod.mk Nat Obj (nat_lit 153) (o_43 x0)) (@List.cons (Nat×Obj) (@Prod.mk Nat Obj (nat_lit 155) (o_201 x0)) (@List.cons (Nat×Obj) (@Prod.mk Nat Obj (nat_lit 156) (o_43 x0)) (@List.cons (Nat×Obj) (@Prod.mk Nat Obj (nat_lit 158) (o_204 x0)) (@List.cons (Nat×Obj) (@Prod.mk Nat Obj (nat_lit 159) (o_205 x0)) (@List.cons (Nat×Obj) (@Prod.mk Nat Obj (nat_lit 160) (o_43 x0)) (@List.cons (Nat×Obj) (@Prod.mk Nat Obj (nat_lit 162) (o_208 x0)) (@List.cons (Nat×Obj) (@Prod.mk Nat Obj (nat_lit 163) (o_43 x0)) (@List.cons (Nat×Obj) (@Prod.mk Nat Obj (nat_lit 165) (o_211 x0)) (@List.cons (Nat×Obj) (@Prod.mk Nat Obj (nat_lit 166) (o_212 x0)) (@List.cons (Nat×Obj) (@Prod.mk Nat Obj (nat_lit 167) (o_43 x0)) (@List.cons (Nat×Obj) (@Prod.mk Nat Obj (nat_lit 169) (o_215 x0)) (@List.cons (Nat×Obj) (@Prod.mk Nat Obj (nat_lit 170) (o_43 x0)) (@List.cons (Nat×Obj) (@Prod.mk Nat Obj (nat_lit 172) (o_218 x0)) (@List.cons (Nat×Obj) (@Prod.mk Nat Obj (nat_lit 173) (o_219 x0)) (@List.cons (Nat×Obj) (@Prod.mk Nat Obj (nat_lit 174) (o_220 x0)) (@List.cons (Nat×Obj) (@Prod.mk Nat Obj (nat_lit 175) (o_221 x0)) (@List.cons (Nat×Obj) (@Prod.mk Nat Obj (nat_lit 176) (o_222 x0)) (@List.cons (Nat×Obj) (@Prod.mk Nat Obj (nat_lit 177) (o_223 x0)) (@List.cons (Nat×Obj) (@Prod.mk Nat Obj (nat_lit 178) (o_224 x0)) (@List.cons (Nat×Obj) (@Prod.mk Nat Obj (nat_lit 188) (o_43 x0)) (@List.cons (Nat×Obj) (@Prod.mk Nat Obj (nat_lit 190) (o_238 x0)) (@List.cons (Nat×Obj) (@Prod.mk Nat Obj (nat_lit 191) (o_43 x0)) (@List.cons (Nat×Obj) (@Prod.mk Nat Obj (nat_lit 193) (o_241 x0)) (@List.cons (Nat×Obj) (@Prod.mk Nat Obj (nat_lit 194) (o_242 x0)) (@List.cons (Nat×Obj) (@Prod.mk Nat Obj (nat_lit 195) (o_43 x0)) (@List.cons (Nat×Obj) (@Prod.mk Nat Obj (nat_lit 197) (o_245 x0)) (@List.cons (Nat×Obj) (@Prod.mk Nat Obj (nat_lit 198) (o_43 x0)) (@List.cons (Nat×Obj) (@Prod.mk Nat Obj (nat_lit 200) (o_248 x0)) (@List.cons (Nat×Obj) (@Prod.mk Nat Obj (nat_lit 201) (o_249 x0)) (@List.cons (Nat×Obj) (@Prod.mk Nat Obj (nat_lit 202) (o_43 x0)) (@List.cons (Nat×Obj) (@Prod.mk Nat Obj (nat_lit 204) (o_252 x0)) (@List.cons (Nat×Obj) (@Prod.mk Nat Obj (nat_lit 205) (o_43 x0)) (@List.cons (Nat×Obj) (@Prod.mk Nat Obj (nat_lit 207) (o_255 x0)) (@List.cons (Nat×Obj) (@Prod.mk Nat Obj (nat_lit 208) (o_256 x0)) (@List.cons (Nat×Obj) (@Prod.mk Nat Obj (nat_lit 209) (o_43 x0)) (@List.cons (Nat×Obj) (@Prod.mk Nat Obj (nat_lit 211) (o_259 x0)) (@List.cons (Nat×Obj) (@Prod.mk Nat Obj (nat_lit 212) (o_43 x0)) (@List.cons (Nat×Obj) (@Prod.mk Nat Obj (nat_lit 214) (o_262 x0)) (@List.cons (Nat×Obj) (@Prod.mk Nat Obj (nat_lit 215) (o_263 x0)) (@List.cons (Nat×Obj) (@Prod.mk Nat Obj (nat_lit 216) (o_43 x0)) (@List.cons (Nat×Obj) (@Prod.mk Nat Obj (nat_lit 218) (o_266 x0)) (@List.cons (Nat×Obj) (@Prod.mk Nat Obj (nat_lit 219) (o_43 x0)) (@List.cons (Nat×Obj) (@Prod.mk Nat Obj (nat_lit 221) (o_269 x0)) (@List.cons (Nat×Obj) (@Prod.mk Nat Obj (nat_lit 222) (o_270 x0)) (@List.cons (Nat×Obj) (@Prod.mk Nat Obj (nat_lit 223) (o_43 x0)) (@List.cons (Nat×Obj) (@Prod.mk Nat Obj (nat_lit 225) (o_273 x0)) (@List.cons (Nat×Obj) (@Prod.mk Nat Obj (nat_lit 226) (o_43 x0)) (@List.cons (Nat×Obj) (@Prod.mk Nat Obj (nat_lit 228) (o_276 x0)) (@List.cons (Nat×Obj) (@Prod.mk Nat Obj (nat_lit 229) (o_277 x0)) (@List.cons (Nat×Obj) (@Prod.mk Nat Obj (nat_lit 230) (o_43 x0)) (@List.cons (Nat×Obj) (@Prod.mk Nat Obj (nat_lit 232) (o_280 x0)) (@List.cons (Nat×Obj) (@Prod.mk Nat Obj (nat_lit 233) (o_43 x0)) (@List.cons (Nat×Obj) (@Prod.mk Nat Obj (nat_lit 235) (o_283 x0)) (@List.cons (Nat×Obj) (@Prod.mk Nat Obj (nat_lit 236) (o_284 x0)) (@List.cons (Nat×Obj) (@Prod.mk Nat Obj (nat_lit 237) (o_285 x0)) (@List.cons (Nat×Obj) (@Prod.mk Nat Obj (nat_lit 238) (o_286 x0)) (@List.cons (Nat×Obj) (@Prod.mk Nat Obj (nat_lit 239) (o_287 x0)) (@List.cons (Nat×Obj) (@Prod.mk Nat Obj (nat_lit 240) (o_288 x0)) (@List.cons (Nat×Obj) (@Prod.mk Nat Obj (nat_lit 241) (o_289 x0)) (@List.cons (Nat×Obj) (@Prod.mk Nat Obj (nat_lit 251) (o_43 x0)) (@List.cons (Nat×Obj) (@Prod.mk Nat Obj (nat_lit 253) (o_305 x0)) (@List.cons (Nat×Obj) (@Prod.mk Nat Obj (nat_lit 254) (o_43 x0)) (@List.cons (Nat×Obj) (@Prod.mk Nat Obj (nat_lit 256) (o_308 x0)) (@List.cons (Nat×Obj) (@Prod.mk Nat Obj (nat_lit 257) (o_309 x0)) (@List.cons (Nat×Obj) (@Prod.mk Nat Obj (nat_lit 258) (o_43 x0)) (@List.cons (Nat×Obj) (@Prod.mk Nat Obj (nat_lit 260) (o_312 x0)) (@List.cons (Nat×Obj) (@Prod.mk Nat Obj (nat_lit 261) (o_43 x0)) (@List.cons (Nat×Obj) (@Prod.mk Nat Obj (nat_lit 263) (o_315 x0)) (@List.cons (Nat×Obj) (@Prod.mk Nat Obj (nat_lit 264) (o_316 x0)) (@List.cons (Nat×Obj) (@Prod.mk Nat Obj (nat_lit 265) (o_43 x0)) (@List.cons (Nat×Obj) (@Prod.mk Nat Obj (nat_lit 268) (o_320 x0)) (@List.cons (Nat×Obj) (@Prod.mk Nat Obj (nat_lit 269) (o_321 x0)) (@List.cons (Nat×Obj) (@Prod.mk Nat Obj (nat_lit 270) (o_43 x0)) (@List.cons (Nat×Obj) (@Prod.mk Nat Obj (nat_lit 272) (o_324 x0)) (@List.cons (Nat×Obj) (@Prod.mk Nat Obj (nat_lit 273) (o_43 x0)) (@List.cons (Nat×Obj) (@Prod.mk Nat Obj (nat_lit 275) (o_327 x0)) (@List.cons (Nat×Obj) (@Prod.mk Nat Obj (nat_lit 276) (o_328 x0)) (@List.cons (Nat×Obj) (@Prod.mk Nat Obj (nat_lit 277) (o_43 x0)) (@List.cons (Nat×Obj) (@Prod.mk Nat Obj (nat_lit 279) (o_331 x0)) (@List.cons (Nat×Obj) (@Prod.mk Nat Obj (nat_lit 280) (o_43 x0)) (@List.cons (Nat×Obj) (@Prod.mk Nat Obj (nat_lit 282) (o_334 x0)) (@List.cons (Nat×Obj) (@Prod.mk Nat Obj (nat_lit 283) (o_335 x0)) (@List.cons (Nat×Obj) (@Prod.mk Nat Obj (nat_lit 284) (o_336 x0)) (@List.cons (Nat×Obj) (@Prod.mk Nat Obj (nat_lit 285) (o_43 x0)) (@List.cons (Nat×Obj) (@Prod.mk Nat Obj (nat_lit 287) (o_339 x0)) (@List.cons (Nat×Obj) (@Prod.mk Nat Obj (nat_lit 288) (o_43 x0)) (@List.cons (Nat×Obj) (@Prod.mk Nat Obj (nat_lit 290) (o_342 x0)) (@List.cons (Nat×Obj) (@Prod.mk Nat Obj (nat_lit 291) (o_343 x0)) (@List.cons (Nat×Obj) (@Prod.mk Nat Obj (nat_lit 292) (o_336 x0)) (@List.cons (Nat×Obj) (@Prod.mk Nat Obj (nat_lit 293) (o_43 x0)) (@List.cons (Nat×Obj) (@Prod.mk Nat Obj (nat_lit 295) (o_347 x0)) (@List.cons (Nat×Obj) (@Prod.mk Nat Obj (nat_lit 296) (o_43 x0)) (@List.cons (Nat×Obj) (@Prod.mk Nat Obj (nat_lit 298) (o_350 x0)) (@List.cons (Nat×Obj) (@Prod.mk Nat Obj (nat_lit 299) (o_351 x0)) (@List.cons (Nat×Obj) (@Prod.mk Nat Obj (nat_lit 300) (o_43 x0)) (@List.cons (Nat×Obj) (@Prod.mk Nat Obj (nat_lit 302) (o_354 x0)) (@List.cons (Nat×Obj) (@Prod.mk Nat Obj (nat_lit 303) (o_43 x0)) (@List.cons (Nat×Obj) (@Prod.mk Nat Obj (nat_lit 305) (o_357 x0)) (@List.cons (Nat×Obj) (@Prod.mk Nat Obj (nat_lit 306) (o_358 x0)) (@List.cons (Nat×Obj) (@Prod.mk Nat Obj (nat_lit 307) (o_43 x0)) (@List.cons (Nat×Obj) (@Prod.mk Nat Obj (nat_lit 309) (o_361 x0)) (@List.cons (Nat×Obj) (@Prod.mk Nat Obj (nat_lit 310) (o_43 x0)) (@List.cons (Nat×Obj) (@Prod.mk Nat Obj (nat_lit 312) (o_364 x0)) (@List.cons (Nat×Obj) (@Prod.mk Nat Obj (nat_lit 313) (o_365 x0)) (@List.cons (Nat×Obj) (@Prod.mk Nat Obj (nat_lit 314) (o_366 x0)) (@List.cons (Nat×Obj) (@Prod.mk Nat Obj (nat_lit 315) (o_367 x0)) (@List.cons (Nat×Obj) (@Prod.mk Nat Obj (nat_lit 316) (o_368 x0)) (@List.cons (Nat×Obj) (@Prod.mk Nat Obj (nat_lit 317) (o_369 x0)) (@List.cons (Nat×Obj) (@Prod.mk Nat Obj (nat_lit 318) (o_370 x0)) (@List.cons (Nat×Obj) (@Prod.mk Nat Obj (nat_lit 321) (o_43 x0)) (@List.cons (Nat×Obj) (@Prod.mk Nat Obj (nat_lit 323) (o_377 x0)) (@List.cons (Nat×Obj) (@Prod.mk Nat Obj (nat_lit 324) (o_43 x0)) (@List.cons (Nat×Obj) (@Prod.mk Nat Obj (nat_lit 326) (o_380 x0)) (@List.cons (Nat×Obj) (@Prod.mk Nat Obj (nat_lit 327) (o_381 x0)) (@List.cons (Nat×Obj) (@Prod.mk Nat Obj (nat_lit 328) (o_43 x0)) (@List.cons (Nat×Obj) (@Prod.mk Nat Obj (nat_lit 330) (o_384 x0)) (@List.cons (Nat×Obj) (@Prod.mk Nat Obj (nat_lit 331) (o_43 x0)) (@List.cons (Nat×Obj) (@Prod.mk Nat Obj (nat_lit 333) (o_387 x0)) (@List.cons (Nat×Obj) (@Prod.mk Nat Obj (nat_lit 334) (o_388 x0)) (@List.cons (Nat×Obj) (@Prod.mk Nat Obj (nat_lit 335) (o_43 x0)) (@List.cons (Nat×Obj) (@Prod.mk Nat Obj (nat_lit 337) (o_43 x0)) (@List.cons (Nat×Obj) (@Prod.mk Nat Obj (nat_lit 338) (o_43 x0)) (@List.cons (Nat×Obj) (@Prod.mk Nat Obj (nat_lit 340) (o_394 x0)) (@List.cons (Nat×Obj) (@Prod.mk Nat Obj (nat_lit 341) (o_395 x0)) (@List.cons (Nat×Obj) (@Prod.mk Nat Obj (nat_lit 342) (o_43 x0)) (@List.cons (Nat×Obj) (@Prod.mk Nat Obj (nat_lit 344) (o_43 x0)) (@List.cons (Nat×Obj) (@Prod.mk Nat Obj (nat_lit 345) (o_43 x0)) (@List.cons (Nat×Obj) (@Prod.mk Nat Obj (nat_lit 347) (o_401 x0)) (@List.cons (Nat×Obj) (@Prod.mk Nat Obj (nat_lit 348) (o_402 x0)) (@List.cons (Nat×Obj) (@Prod.mk Nat Obj (nat_lit 349) (o_43 x0)) (@List.cons (Nat×Obj) (@Prod.mk Nat Obj (nat_lit 351) (o_405 x0)) (@List.cons (Nat×Obj) (@Prod.mk Nat Obj (nat_lit 352) (o_43 x0)) (@List.cons (Nat×Obj) (@Prod.mk Nat Obj (nat_lit 354) (o_408 x0)) (@List.cons (Nat×Obj) (@Prod.mk Nat Obj (nat_lit 355) (o_409 x0)) (@List.cons (Nat×Obj) (@Prod.mk Nat Obj (nat_lit 356) (o_43 x0)) (@List.cons (Nat×Obj) (@Prod.mk Nat Obj (nat_lit 358) (o_412 x0)) (@List.cons (Nat×Obj) (@Prod.mk Nat Obj (nat_lit 359) (o_43 x0)) (@List.cons (Nat×Obj) (@Prod.mk Nat Obj (nat_lit 361) (o_415 x0)) (@List.cons (Nat×Obj) (@Prod.mk Nat Obj (nat_lit 362) (o_416 x0)) (@List.cons (Nat×Obj) (@Prod.mk Nat Obj (nat_lit 363) (o_43 x0)) (@List.cons (Nat×Obj) (@Prod.mk Nat Obj (nat_lit 365) (o_419 x0)) (@List.cons (Nat×Obj) (@Prod.mk Nat Obj (nat_lit 366) (o_43 x0)) (@List.cons (Nat×Obj) (@Prod.mk Nat Obj (nat_lit 368) (o_422 x0)) (@List.cons (Nat×Obj) (@Prod.mk Nat Obj (nat_lit 369) (o_423 x0)) (@List.cons (Nat×Obj) (@Prod.mk Nat Obj (nat_lit 370) (o_43 x0)) (@List.cons (Nat×Obj) (@Prod.mk Nat Obj (nat_lit 372) (o_426 x0)) (@List.cons (Nat×Obj) (@Prod.mk Nat Obj (nat_lit 373) (o_43 x0)) (@List.cons (Nat×Obj) (@Prod.mk Nat Obj (nat_lit 375) (o_429 x0)) (@List.cons (Nat×Obj) (@Prod.mk Nat Obj (nat_lit 376) (o_430 x0)) (@List.cons (Nat×Obj) (@Prod.mk Nat Obj (nat_lit 377) (o_43 x0)) (@List.cons (Nat×Obj) (@Prod.mk Nat Obj (nat_lit 379) (o_433 x0)) (@List.cons (Nat×Obj) (@Prod.mk Nat Obj (nat_lit 380) (o_43 x0)) (@List.cons (Nat×Obj) (@Prod.mk Nat Obj (nat_lit 382) (o_436 x0)) (@List.cons (Nat×Obj) (@Prod.mk Nat Obj (nat_lit 383) (o_437 x0)) (@List.cons (Nat×Obj) (@Prod.mk Nat Obj (nat_lit 384) (o_43 x0)) (@List.cons (Nat×Obj) (@Prod.mk Nat Obj (nat_lit 387) (o_441 x0)) (@List.cons (Nat×Obj) (@Prod.mk Nat Obj (nat_lit 388) (o_442 x0)) (@List.nil (Nat×Obj)))))))))))))))))))))))))))))))))))))))))))))))))))))))))))))))))))))))))))))))))))))))))))))))))))))))))))))))))))))))))))))))))))))))))))))))))))))))))))))))))))))))))))))))))))))))))))))))))))))))))))))))))))))))))))))))))))))))))))))))))))
noncomputable def dLaw : PySem.DefRec := (@DefRec.mk (Str.ofString "law") (fA (sN 27)) (fB (sN 27)) (fS (sN 27)) (@Pos.mk 278 0 298 34))
end Mine.hd
namespace Mine
open PySem PySem.W
theorem hd_said : PySem.Challenge.rw_sj0046_01.wellSaid = true := by
  rw [PySem.W.Fast.te9446332074065402090]
  kernel_rfl
noncomputable abbrev pz : Pos := ⟨0, 0, 0, 0⟩
noncomputable abbrev prg : Program := PySem.Challenge.rw_sj0046_01.row.prog
noncomputable abbrev hdC : Code := .body (behindTheImports prg) hd.env_41
noncomputable def treeGo : List Obj → Nat → BT → BT
  | [], _, t => t
  | o :: r, i, t => treeGo r (i + 1) (t.ins i o)
noncomputable def treeOf (h : Heap) : BT := treeGo h.objs.toList 0 .nil
theorem hd_go (w : World) (os : OsState) : topGo treeTable prg w 11 (some (.ref 6)) 12 ⟨boot_heap w.params, Array.mk [], boot_drawn, boot_toks, os⟩ (topStub prg) = some (⟨hd.heap_46 w.params, Array.mk [], {}, 187, os⟩, ⟨denote treeTable hdC, hdC, pz, [topFrame pz]⟩) := by kernel_rfl
theorem hd_block (w : World) (os : OsState) : segRun treeTable prg w 11 (some (.ref 6)) 1 1 ⟨hd.heap_46 w.params, Array.mk [], {}, 187, os⟩ (blockOf (behindTheImports prg) hd.env_41 hdC pz [topFrame pz]) = some (.next, SharedT.abs ⟨treeOf (hd.heap_46 w.params), 15, {}, Array.mk [], {}, 187, os⟩, hdC, pz) := by kernel_rfl
theorem hd_whole (w : World) (os : OsState) : segRunT treeTable prg w 11 (some (.ref 6)) 1 2638 ⟨treeOf (hd.heap_46 w.params), 15, {}, Array.mk [], {}, 187, os⟩ (piecesOf (behindTheImports prg) hd.env_41 hdC pz [topFrame pz]) = some (.next, ⟨treeOf (hd.heap_443 w.params), 389, {}, Array.mk [], {}, 747, os⟩, hdC, ⟨278, 0, 298, 34⟩) := by
  simp only [PySem.W.Fast.te10110043849684766642, PySem.W.Fast.te14364793385576792824, piecesOf, PySem.W.Fast.te12563942051412417395]
  kernel_rfl
theorem hd_fin (w : World) (os : OsState) : topRun treeTable prg w 11 (some (.ref 6)) 2 (SharedT.abs ⟨treeOf (hd.heap_443 w.params), 389, {}, Array.mk [], {}, 747, os⟩) ⟨doneF .next, hdC, ⟨278, 0, 298, 34⟩, [topFrame pz]⟩ = some ⟨hd.heap_443 w.params, Array.mk [], {}, 747, os⟩ := by kernel_rfl
theorem hd_run (w : World) (os : OsState) : topRun treeTable PySem.Challenge.rw_sj0046_01.row.prog w 11 (some (.ref 6)) 2653 ⟨boot_heap w.params, Array.mk [], boot_drawn, boot_toks, os⟩ (topStub PySem.Challenge.rw_sj0046_01.row.prog) = some ⟨hd.heap_443 w.params, Array.mk [], {}, 747, os⟩ := by
  have h := piece_app (rest := []) (segRun_of (hd_whole w os)) (piece_nil (hd_fin w os))
  rw [List.append_nil] at h
  exact go_top (hd_go w os) (piece_block (hd_block w os) h)
noncomputable abbrev hdX : Shared → Bool := fun s => xlAt hd.view_39 [] s && recOk PySem.Challenge.rw_sj0046_01.row.records s
noncomputable abbrev hdK := kHook hd.heap_39 [2, 3, 15, 17, 18, 20, 21, 22, 29, 30, 32, 33, 35, 36, 37, 38, 39, 40, 43, 50, 51, 52, 62, 64, 65, 67, 68, 69, 71, 72, 74, 75, 76, 78, 79, 81, 82, 83, 84, 85, 86, 87, 90, 92, 93, 95, 96, 97, 99, 100, 102, 103, 104, 106, 107, 109, 110, 111, 113, 114, 116, 117, 118, 120, 121, 123, 124, 132, 134, 135, 137, 138, 139, 141, 142, 144, 145, 146, 148, 149, 151, 152, 153, 155, 156, 158, 159, 160, 162, 163, 165, 166, 167, 169, 170, 172, 173, 174, 175, 176, 177, 178, 188, 190, 191, 193, 194, 195, 197, 198, 200, 201, 202, 204, 205, 207, 208, 209, 211, 212, 214, 215, 216, 218, 219, 221, 222, 223, 225, 226, 228, 229, 230, 232, 233, 235, 236, 237, 238, 239, 240, 241, 251, 253, 254, 256, 257, 258, 260, 261, 263, 264, 265, 268, 269, 270, 272, 273, 275, 276, 277, 279, 280, 282, 283, 284, 285, 287, 288, 290, 291, 292, 293, 295, 296, 298, 299, 300, 302, 303, 305, 306, 307, 309, 310, 312, 313, 314, 315, 316, 317, 318, 321, 323, 324, 326, 327, 328, 330, 331, 333, 334, 335, 337, 338, 340, 341, 342, 344, 345, 347, 348, 349, 351, 352, 354, 355, 356, 358, 359, 361, 362, 363, 365, 366, 368, 369, 370, 372, 373, 375, 376, 377, 379, 380, 382, 383, 384, 387, 388] (fun _ => by kernel_rfl)
theorem hd_left : LeftO PySem.Challenge.rw_sj0046_01.row.toRowW.1 hd.view_39 [Str.ofString "GateloomError"] hdX hdK.obs hdK.val 5384 :=
  LeftO.of_pieces (g0 := true) (H₀ := boot_heap) (H₁ := hd.heap_443) (gs₀ := Array.mk []) (gs₁ := Array.mk []) (d₀ := boot_drawn) (d₁ := {}) (k₀ := boot_toks) (k₁ := 747) (m₀ := 11) (ann := some (.ref 6)) (M := 2653)
    (boot_open (by kernel_rfl) (by kernel_rfl) (fun s => by kernel_rfl)) (fun w => by kernel_rfl) hd_run (by kernel_rfl) (fun w => by kernel_rfl)
theorem hd (walk : WalkO hd.view_39 [Str.ofString "GateloomError"] (XL hd.view_39 []) hdK.says PySem.Challenge.rw_sj0046_01.row.toRowW hd.dLaw [] fun f vs => PySem.call f vs) : PySem.Challenge.rw_sj0046_01.Holds :=
  holds_law hd_said fun said => holds_open (Xt := hdX) hd_left hdK.of hdK.keeps (fun s e => xl_of s (Bool.and_eq_true_iff.mp e).left) XL.keeps (by kernel_rfl) (by kernel_rfl) (by kernel_rfl) (fun s e => recFacts_of (Bool.and_eq_true_iff.mp e).right) (by kernel_rfl) said (by kernel_rfl) ⟨rfl, rfl, rfl, rfl, rfl, by kernel_rfl⟩ ⟨[WData.list []], by kernel_rfl, by kernel_rfl⟩ walk
end Mine
open PySem PySem.W PySem.Calls PyProof.Rows PyProof.V PySem.Spec
set_option maxRecDepth 100000
namespace Mine
theorem fCm {α : Type} {p : α → Prop} {a : α} {l : List α} (h : p a ∧ ∀ x ∈ l, p x) : ∀ x ∈ a :: l, p x := List.forall_mem_cons.mpr h
theorem fNm {α : Type} (p : α → Prop) : ∀ x ∈ ([] : List α), p x := List.forall_mem_nil p
theorem wpf {α : Type} {M : Model} {A : Around} {c : Sem α} {Q : α → Shared → Prop} {E : Value → Shared → Prop} {s : Shared} (h : let qk := Q; let ek := E; wpAny M A c qk ek s) : wpAny M A c Q E s := h
theorem k_readyJ (w : World) (h : Heap) (x : (Mine.hd.heap_39 w.params).In h) : (model PySem.Challenge.rw_sj0046_01.row.prog w).prog = (model PySem.Challenge.rw_sj0046_01.row.prog w).prog ∧ (Mine.hd.heap_39 w.params).In h := by
  k_fill
  exact ⟨rfl, x⟩
local macro_rules | `(tactic| tb_start) => `(tactic| ((case k6 | k7 => k_is); (case k9 => first | exact BindsTo.of_eq rfl | exact binds_K (by k_in) rfl (by k_is) rfl rfl rfl); (case c5 => decide); (case kB => exact locs rfl); (case c2 | c3 | c4 => exact rfl)))
theorem hu_of {A : Around} {n k : Nat} (h : A.units < n) (e : n + 3 + k ≤ 9900) : ∀ env, (A.deeper env).units + k < cLine := fun env => by rw [units_deeper, cLine_is]; lia
theorem i63 {r n : Nat} (h : r < n) (e : n ≤ 1000) : (r : Int) < 2 ^ 63 := by lia
theorem roomD {A : Around} {e : Env} {n m : Nat} (h : A.depth < n) (k : n + 1 ≤ m) : (A.deeper e).depth < m := Nat.lt_of_lt_of_le (Nat.succ_lt_succ h) k
theorem roomU {A : Around} {e : Env} {n m : Nat} (h : A.units < n) (k : n + 3 ≤ m) : (A.deeper e).units < m := Nat.lt_of_lt_of_le (Nat.add_lt_add_right h 3) k
theorem hold {G : Prop} (h : ∀ P : Prop, (G → P) → P) : G := h G id
theorem sub_any {prog : Program} {w : World} {A : Around} {E : Value → Shared → Prop} {s : Shared} {value slice : PySem.Expr} {o i : Value} {T id : String} {Q : Value → Shared → Prop} (hT : s.TypeIs o T)
    (hl : typeLookup (.type T) "__getitem__" = pure (some (.builtin id))) (h : wpAny (model prog w) A (getItem o i) Q E s) (hs : subscripted slice false o i = operate [o, i] (getItem o i)) :
    wpAny (model prog w) A (subscriptTail value slice o i) Q E s := kba_turn (value' := PySem.Expr.Name (PySem.Str.ofString "_") ⟨0, 0, 0, 0⟩) (fun _ => rfl) (subscriptTail_builtin hT hl h hs (by intro _; with_unfolding_all rfl))

noncomputable def Kept (S : List Addr) (h h' : Heap) : Prop := ∀ b o, h.get? b = some o → b ∉ S → h'.get? b = some o
theorem Kept.refl (S : List Addr) (h : Heap) : Kept S h h := fun _ _ e _ => e
theorem Kept.trans {S : List Addr} {h h₁ h₂ : Heap} (x : Kept S h h₁) (y : Kept S h₁ h₂) : Kept S h h₂ := fun b o e n => y b o (x b o e n) n
theorem Kept.mono {S T : List Addr} {h h' : Heap} (x : Kept S h h') (k : ∀ b ∈ S, b ∈ T) : Kept T h h' := fun b o e n => x b o e fun m => n (k b m)
theorem Kept.nil {h h' : Heap} (x : Kept [] h h') : ∀ b o, h.get? b = some o → h'.get? b = some o := fun b o e => x b o e (List.not_mem_nil)

section
variable {prog : Program} {w : World} {A : Around} {s : Shared} {base : Heap} {outer : List Env} {K : Frag}
  {p : Program} {loose : List Str} {mean : ExcName → Option Value} {mg mb : Str → Option Value}
  {R : Result → Shared → Prop} {name qual : Str} {params : Arguments} {body : List Stmt} {scope : Scope} {dV kV doc pm cdv ct oc : Value} {an od : Option Addr} {osl : Array (Option Value)} {f : Addr} {args : Args} {binds : List (Str × Value)}

theorem enter (sub : List (Addr × Obj)) (B : Below A base outer s.heap) (XB : K.In base) (TB : Top p loose mean mg mb base)
    (hsub : ∀ q ∈ sub, s.heap.get? q.1 = some q.2) (hsb : ∀ q ∈ sub, base.get? q.1 = none) (hsf : ∀ env ∈ outer, ∀ q ∈ sub, env.frame ≠ some q.1)
    (ho : K.lookup f = some ⟨oc, od, .func (fnOf name qual params body scope dV kV doc pm an cdv ct), osl⟩) (hcd : codeIn K cdv qual = true) (hroom : A.depth < recursionLimit)
    (hbind : BindsTo s (fnOf name qual params body scope dV kV doc pm an cdv ct) args binds) (hloc : ∀ y ∈ binds, scope.names.lookup y.1 = some .local)
    (h : ∀ g L h₁, (∀ b o, s.heap.get? b = some o → b ∉ sub.map (·.1) → g.get? b = some o) → (∀ b o, g.get? b = some o → s.heap.get? b = some o) → L = s.heap.objs.size → Fr g L h₁ (fun y => binds.reverse.lookup y) → News g L h₁ sub →
      Below A base outer g → K.In g → Top p loose mean mg mb g →
      wpAny (model prog w) (A.deeper (envOf qual scope L f cdv)) (execs body (envOf qual scope L f cdv))
        (fun fl s' => R (.ok (.ret (match fl with | .ret v => v | _ => .none))) s')
        (fun e s' => wpAny (model prog w) (A.deeper (envOf qual scope L f cdv)) (leaving (envOf qual scope L f cdv) e) (fun _ s'' => R (.error e) s'') (fun e' s'' => R (.error e') s'') s')
        { s with heap := h₁, toks := s.toks + binds.length })
    (hco : scope.isCoroutine = false) (hgen : scope.isGenerator = false) (hk : scope.kind = .function)
    (hcell : ∀ x ∈ scope.names, x.2 ≠ .cell) : codeAny (model prog w) A (.call (.ref f) args) R s := by
  have X := XB.keeps B.stays
  refine codeAny_call_def (fd := fnOf name qual params body scope dV kV doc pm an cdv ct) (body := body) (binds := binds) hroom (X _ _ ho) rfl (TB.nolimit.keeps B.stays) (codeRec_of X hcd) rfl hbind hcell hloc (fun h₁ hns hk₁ => ?_) hco hgen hk
  have st : base.StaysIn (hideAll s.heap (sub.map (·.1))) := fun b o e => hideAll_get _ (B.stays b o e) fun q => by
    obtain ⟨z, hz, rfl⟩ := List.mem_map.mp q
    rw [hsb z hz] at e; cases e
  have X' := XB.keeps st
  have T' := TB.keeps st
  refine h (hideAll s.heap (sub.map (·.1))) _ h₁ (fun b o e n => hideAll_get _ e n) (fun b o e => of_hideAll _ e) rfl ⟨hns, fun b o e => hk₁ b o (of_hideAll _ e), Nat.le_of_eq (hideAll_size _ _)⟩
    (fun q hq => ⟨hk₁ _ _ (hsub q hq), Nat.ne_of_lt (Heap.lt_size (hsub q hq)), hideAll_none _ (List.mem_map_of_mem hq)⟩) ⟨B.stack, st, funFrames_hideAll B.frames fun env he b hb hf => ?_⟩ X' T'
  obtain ⟨z, hz, rfl⟩ := List.mem_map.mp hb
  exact hsf env he z hz hf
end

theorem below_fresh {A : Around} {base h : Heap} {outer : List Env} {a : Addr} (B : Below A base outer h) (ha : h.get? a = none) : base.get? a = none := by
  cases q : base.get? a with
  | none => rfl
  | some o => rw [B.stays a o q] at ha; cases ha
theorem below_frames {A : Around} {base h : Heap} {outer : List Env} {a : Addr} (B : Below A base outer h) (ha : h.get? a = none) : ∀ env ∈ outer, env.frame ≠ some a := fun env he hf => by
  obtain ⟨L, o, hl, ho⟩ := funFrames_in B.frames env he
  rw [hf] at hl
  cases hl
  rw [ha] at ho; cases ho
theorem below_under {A : Around} {base h : Heap} {outer : List Env} {id : String} {args : Args} (B : Below A base outer h) (hi : (Code.builtin id args).envs = []) : Below (A.under (.builtin id args)) base outer h := by
  refine ⟨?_, B.stays, B.frames⟩
  have q : (A.under (.builtin id args)).frames = pushEnvs (Code.builtin id args).envs A.frames := rfl
  rw [q, hi]
  exact B.stack
theorem below_grow {A : Around} {base h h' : Heap} {outer : List Env} (B : Below A base outer h) (k : ∀ b o, h.get? b = some o → h'.get? b = some o) : Below A base outer h' :=
  ⟨B.stack, fun b o e => k b o (B.stays b o e), B.frames.of_keeps fun b o e _ => ⟨o, k b o e, rfl⟩⟩
section
variable {prog : Program} {w : World} {A : Around} {E : Value → Shared → Prop} {h : Heap} {g : Array GenState} {d : Drawn} {t : Nat} {os : OsState} {K : Frag}
variable {nm q : Str} {C N fI : Addr} {bs bm bmB : List Value} {hdct : Bool} {sn : List Str} {sub : List Value} {ab : Bool} {col : Option Bool} {dd : Option Addr} {k0 k1 k2 k3 k5 : Option Value} {B newId initId : String}

noncomputable abbrev excOf (C : Addr) (tp : Addr) : Obj := { cls := .ref C, data := .fields #[.ref tp, .none, .none, .none, .bool false, .none] }
noncomputable abbrev tupOf (vs : List Value) : Obj := { cls := .type "tuple", data := .seq vs.toArray }

theorem x_check_new (F : ExcBaseFacts B newId initId bmB) (hcB : bm.contains (.type B) = true) {M : Model} {rest : List Value} {Q : Unit → Shared → Prop} (hC : h.get? C = some (excClassObj nm q C N bs bm hdct sn sub ab col dd k0 k1 k2 k3 k5 newId))
    (hq : Q () ⟨h, g, d, t, os⟩) : wpAny M A (checkBuiltinCall newId ⟨.ref C :: rest, []⟩) Q E ⟨h, g, d, t, os⟩ := by
  have hcont : (Value.ref C :: bm).contains (.type B) = true := by rw [List.contains_cons, hcB, Bool.or_true]
  have hstar := F.noStar
  simp only [checkBuiltinCall, F.newKind, F.newSplit, F.newRow]
  repeat (first | refine wpAny_loadPart_at hC ?_ | (refine wpAny_isSubtype_exc hC ?_; rw [hcont]) | refine wpAny_staticBase_exc hC ?_ | refine wpAny_madeBy_exc hC ?_ | simp only [bne_self_eq_false, Bool.false_eq_true, if_false] | wp_step)
  exact hq

theorem x_new (F : ExcBaseFacts B newId initId bmB) (hcB0 : bm.contains (.type B) = true) (hcA0 : bm.contains (.type "AttributeError") = false) (hcN0 : bm.contains (.type "NameError") = false) {R : Result → Shared → Prop} {rest : List Value}
    (hC : h.get? C = some (excClassObj nm q C N bs bm hdct sn sub ab col dd k0 k1 k2 k3 k5 newId))
    (hq : R (.ok (.ret (.ref (h.objs.size + 1)))) ⟨(h.push (tupOf rest)).push (excOf C h.objs.size), g, d, t, os⟩) (hrest : rest.length ≤ sizeLine) :
    codeAny (model prog w) A (.builtin newId ⟨.ref C :: rest, []⟩) R ⟨h, g, d, t, os⟩ := by
  have hends := F.ends
  have hcB : (Value.ref C :: bm).contains (.type B) = true := by rw [List.contains_cons, hcB0, Bool.or_true]
  have hcA : (Value.ref C :: bm).contains (.type "AttributeError") = false := by rw [List.contains_cons, hcA0]; rfl
  have hcN : (Value.ref C :: bm).contains (.type "NameError") = false := by rw [List.contains_cons, hcN0]; rfl
  refine codeAny_builtinAt F.entry ?_
  unfold Builtin.«BaseException.__new__»
  refine PySem.wpAt_bind ?_
  show PySem.wpAt _ _ _ (stack >>= _) _ _ _
  refine PySem.wpAt_bind (PySem.wpAt_stack fun p below => PySem.wpAt_of_wpAny ?_)
  wp_walk
  refine PySem.wpAt_of_wpAny ?_
  rw [F.owner]
  repeat (first | with_reducible refine wpAny_madeHere_exc F.canon hC ?_ | with_reducible refine wpAny_loadPart_at hC ?_ | (with_reducible refine wpAny_isSubtype_exc hC ?_; first | rw [hcB] | rw [hcA] | rw [hcN]) | wp_step)
  show R _ _
  rw [Heap.size_push]
  exact hq

theorem x_call (F : ExcBaseFacts B newId initId bmB) (hcB : bm.contains (.type B) = true) (hcA : bm.contains (.type "AttributeError") = false) (hcN : bm.contains (.type "NameError") = false) {rest : List Value} {Q : Value → Shared → Prop}
    (X : K.In h) (hC : K.lookup C = some (excClassObj nm q C N bs bm hdct sn sub ab col dd k0 k1 k2 k3 k5 newId)) (hi : findIn K (.ref C) "__init__" = some (some (.ref fI))) (hf : typeIn K (.ref fI) = some (.type "function"))
    (hrest : rest.length ≤ sizeLine)
    (hq : codeAny (model prog w) (A.under (.builtin "type.__call__" ⟨.ref C :: rest, []⟩)) (.call (.ref fI) ⟨.ref (h.objs.size + 1) :: rest, []⟩)
      (fun r s' => match r with | .ok (.ret v) => v = .none ∧ Q (.ref (h.objs.size + 1)) s' | .ok _ => False | .error e => E e s') ⟨(h.push (tupOf rest)).push (excOf C h.objs.size), g, d, t, os⟩) :
    wpAny (model prog w) A (call (.ref C) rest) Q E ⟨h, g, d, t, os⟩ := by
  have f1 := tc_lookup
  have f2 := tc_bind (.ref C)
  have hC0 := X _ _ hC
  have hT : (⟨h, g, d, t, os⟩ : Shared).TypeIs (.ref C) "type" := ⟨_, hC0, rfl⟩
  refine wpAny_call (codeAny_of_tree ?_)
  show wpAny _ _ (callAny (.ref C) _) _ _ _
  repeat (any_goals (first | assumption | with_reducible refine wpAny_loadPart_at hC0 ?_ | wp_step))
  refine ⟨rfl, ?_⟩
  refine codeAny_call_builtin_at (Code.quiet_builtin _ (by decide +kernel)) entry_typeCall (wpAny_check_type_call_sub hC0 ?_)
  repeat (first | with_reducible refine wpAny_loadPart_at hC0 ?_ | with_reducible refine wpAny_madeBy_exc hC0 ?_ | wp_step)
  refine codeAny_call_builtin_code (Code.quiet_builtin _ F.quiet) (x_check_new F hcB hC0 ?_)
  refine x_new F hcB hcA hcN hC0 ?_ hrest
  show wpAny _ _ _ _ _ _
  have kk : ∀ b o, h.get? b = some o → ((h.push (tupOf rest)).push (excOf C h.objs.size)).get? b = some o := fun b o e => Heap.get?_push_of_some _ (Heap.get?_push_of_some _ e)
  have hC₁ := kk _ _ hC0
  have X₁ : K.In ((h.push (tupOf rest)).push (excOf C h.objs.size)) := X.keeps kk
  have hget : ((h.push (tupOf rest)).push (excOf C h.objs.size)).get? (h.objs.size + 1) = some (excOf C h.objs.size) := by heap_get
  have hcC : (Value.ref C :: bm).contains (.ref C) = true := by simp
  unfold isInstance
  repeat (first | with_reducible refine wpAny_loadPart_at hget ?_ | wp_step)
  refine wpAny_isSubtype_exc hC₁ ?_
  rw [hcC]
  refine wpAny_ite ?_
  rw [if_neg (by decide)]
  refine wpAny_bind (wpAny_holding (special_fn X₁ (od := none) ⟨hget, rfl, rfl, trivial⟩ hi hf (wpAny_call (codeAny_mono hq fun r s' z => ?_))))
  rcases r with e | (v | _ | _ | _) <;> first | exact z | exact z.elim | skip
  obtain ⟨rfl, z⟩ := z
  exact wpAny_pure z
end
open PySem PySem.W PySem.Calls PyProof.Rows PyProof.V PySem.Spec Builtin Builtin.ObjectAttr

theorem x_refuse0 (self : Value) : refuseLoop self "__setattr__" [.type "Exception", .type "BaseException", .type "object"] = pure () := by kernel_rfl
theorem x_refuse (self : Value) : refuseLoop self "__setattr__" [.ref 52, .ref 39, .type "Exception", .type "BaseException", .type "object"] = pure () := by rw [refuseLoop_ref, refuseLoop_ref]; exact x_refuse0 self

section
variable {prog : Program} {w : World} {A : Around} {K : Frag} {C x : Addr} {s : Shared} {h₀ : Heap} {L : Addr} {m : Str → Option Value} {news : List (Addr × Obj)} {R : Result → Shared → Prop}

theorem x_osa_open {ox : Obj} {od : Option Obj} {cd : ClassData} {name : Str} {tk : Tok} {v : Value} (X : K.In s.heap) (I : InstAt s.heap x ox C od) (hc : clsIn K C = some cd) (hr : refuseLoop (.ref x) "__setattr__" cd.mro = pure ()) (ho : cd.mro.contains (.type "object") = true) (ht : takerIn K C name = some none)
    (h : ∀ b, wpAny (model prog w) A.in1 (storeInOwnDict (.ref x) (.ref C) (.str name tk) name v b)
      (fun fin s' => match fin with | .done f => R (.ok f) s' | .again c' => c'.quiet = true ∧ codeAny (model prog w) A c' R s') (fun e s' => R (.error e) s') s) :
    codeAny (model prog w) A (.call (.builtin "object.__setattr__") ⟨[.ref x, .str name tk, v], []⟩) R s := by
  have SF := PySem.F.store_object
  have ne : cd.mro.isEmpty = false := by cases q : cd.mro with | nil => rw [q] at ho; cases ho | cons _ _ => rfl
  have sub : Looks (model prog w) s.heap (isInstance (.ref x) (.type "object")) true := I.type.andThen (looks_mroIn X (by unfold mroIn; rw [hc, Option.bind_some, if_neg (by rw [ne]; decide), ho]))
  refine codeAny_call_builtin SF.slot.plain SF.entry (@check_slot (model prog w) _ _ s "object.__setattr__" "object" "__setattr__" (.ref x) [.str name tk, v] [] _ SF.kind SF.split sub (SF.args (.ref x) (.str name tk) v) ?_)
  obtain ⟨attr, ha, hr'⟩ := Option.bind_eq_some_iff.mp ht
  have hm : Looks (model prog w) s.heap (mroOf (.ref C)) cd.mro := (looks_clsIn X hc).andThen .now
  have L3 : Looks (model prog w) s.heap (storeTaker? attr) none := by
    cases attr with
    | none => exact .now
    | some a =>
      obtain ⟨b, hb, hn⟩ := Option.map_eq_some_iff.mp hr'
      refine (looks_takesIn X hb).andThen ?_
      cases b with
      | true => cases hn
      | false => exact .now
  rw [osa_eq, refuse_eq]
  refine wpAny_bind (wpAny_bind (I.type.here (wpAny_bind (hm.here ?_))))
  rw [hr]
  refine wpAny_pure (wpAny_bind (I.type.here (wpAny_bind ((looks_findIn X ha).here (wpAny_bind (L3.here ?_))))))
  exact h _

theorem x_store_dict {A : Around} {E : Value → Shared → Prop} {dx : Addr} {od od' : Obj} {pre post : List (Addr × Obj)} {name : Str} {tk : Tok} {v : Value} {es : List DictEntry} {n : Nat} {P : Fin → Shared → Prop}
    (F : Fr h₀ L s.heap m) (N : News h₀ L s.heap (pre ++ (dx, od) :: post)) (hl : (lookIn name od).isSome = true) (h1 : ∀ p ∈ pre, p.1 ≠ dx) (h2 : ∀ p ∈ post, p.1 ≠ dx)
    (e : Obj.putName name (PyData.keyHash w.params name) (.str name s.toks) v od = od') (e' : od'.data = .dict es.toArray n) (hz : es.length ≤ 1000)
    (h : ∀ h', Fr h₀ L h' m → News h₀ L h' (pre ++ (dx, od') :: post) → P (.done (.ret .none)) { s with heap := h', toks := s.toks + 1 }) :
    wpAny (model prog w) A (storeInDict dx (.str name tk) name v) P E s := by
  obtain ⟨U1, U2⟩ := news_upd (f := Obj.putName name (PyData.keyHash w.params name) (.str name s.toks) v) F N h1 h2 e (by obtain ⟨_, _, dd, _⟩ := od'; cases e'; rfl)
  have D := (N (dx, od) (by simp)).1
  have D' := (U2 (dx, od') (by simp)).1
  refine wpAny_bind (wpAny_pure (wpAny_bind ?_))
  unfold nsSet
  refine wpAny_bind (wpAny_bind (wpAny_askSetting (wpAny_pure (wpAny_bind (wpAny_mkText (wpAny_bind (wpAny_loadPart D ?_)))))))
  unfold lookIn at hl
  split at hl
  · rename_i es₀ n₀ q
    rw [q]
    dsimp only
    have c : (!es₀.any (·.key.isStr name) && es₀.any (·.refKey)) = false := by
      rw [← Array.any_toList, ← Array.any_toList]
      split at hl
      · rename_i en he
        rw [List.any_eq_true.mpr ⟨en, List.mem_of_find?_eq_some he, List.find?_some he⟩]; rfl
      · split at hl
        · cases hl
        · rename_i z; rw [Bool.not_eq_true] at z; rw [z, Bool.and_false]
    rw [aRefKeyMayBeTheName_at, c]
    refine wpAny_updatePart D ?_
    refine wpAny_bind (wpAny_lookBehind D' (by rw [e']; exact pastItsLine_dict (by rw [List.size_toArray, sizeLine_eq]; lia)) ?_)
    exact wpAny_pure (h _ U1 U2)
  · cases hl

theorem x_set_first {E : Value → Shared → Prop} {cd : ClassData} {vs : Array Value} {sl : Array (Option Value)} {pre post : List (Addr × Obj)} {name : Str} {v : Value} {Q : Unit → Shared → Prop} (F : Fr h₀ L s.heap m) (X₀ : K.In h₀)
    (N : News h₀ L s.heap (pre ++ (x, ⟨.ref C, none, .fields vs, sl⟩) :: post)) (h1 : ∀ p ∈ pre, p.1 ≠ x) (h2 : ∀ p ∈ post, p.1 ≠ x)
    (hs : findIn K (.ref C) "__setattr__" = some (some (.builtin "object.__setattr__"))) (hc : clsIn K C = some cd) (hr : refuseLoop (.ref x) "__setattr__" cd.mro = pure ()) (ho : cd.mro.contains (.type "object") = true) (hdc : cd.hasDict = true) (ht : takerIn K C name = some none)
    (h : ∀ dx tk h', (∀ p ∈ pre ++ (x, (⟨.ref C, none, .fields vs, sl⟩ : Obj)) :: post, p.1 < dx) → Fr h₀ L h' m → News h₀ L h' ((dx, dictOf [⟨PyData.keyHash w.params name, .str name tk, v⟩] 1) :: (pre ++ (x, ⟨.ref C, some dx, .fields vs, sl⟩) :: post)) → Q () { s with heap := h', toks := s.toks + 2 }) :
    wpAny (model prog w) A (setAttr (.ref x) name v) Q E s := by
  have X := X₀.keeps F.keep
  have hx : s.heap.get? x = some ⟨.ref C, none, .fields vs, sl⟩ := (N (x, _) (by simp)).1
  have I : InstAt s.heap x ⟨.ref C, none, .fields vs, sl⟩ C none := ⟨hx, rfl, rfl, trivial⟩
  refine set_plain X I hs (x_osa_open (s := { s with toks := s.toks + 1 }) X I hc hr ho ht fun b => ?_)
  unfold storeInOwnDict
  refine wpAny_bind (wpAny_pure ?_)
  refine wpAny_bind ?_
  unfold ownDictForStores instanceDict
  refine wpAny_bind (wpAny_loadPart hx ?_)
  dsimp only
  refine wpAny_bind ((looks_clsIn X hc).at ?_)
  rw [hdc]
  refine wpAny_bind (wpAny_alloc ?_)
  have hx₁ : (s.heap.push { cls := .type "dict", data := .dict #[] }).get? x = some ⟨.ref C, none, .fields vs, sl⟩ := Heap.get?_push_of_some _ hx
  refine wpAny_bind (wpAny_update hx₁ ?_)
  refine wpAny_pure (a := some s.heap.objs.size) ?_
  have N₁ := N.push F { cls := .type "dict", data := .dict #[] }
  have F₁ := F.push { cls := .type "dict", data := .dict #[] }
  have hxs : x < s.heap.objs.size := Heap.lt_size hx
  obtain ⟨F₂, N₂⟩ := news_upd (d := x) (f := fun o => { o with dict := some s.heap.objs.size }) (o' := ⟨.ref C, some s.heap.objs.size, .fields vs, sl⟩) (pre := (s.heap.objs.size, { cls := .type "dict", data := .dict #[] }) :: pre) (post := post) F₁ N₁
    (fun p hp => by rcases List.mem_cons.mp hp with rfl | hp; exact Nat.ne_of_gt hxs; exact h1 p hp) h2 rfl rfl
  refine x_store_dict (pre := []) (od := { cls := .type "dict", data := .dict #[] }) (es := [⟨PyData.keyHash w.params name, .str name (s.toks + 1), v⟩]) (n := 1) F₂ N₂ rfl (fun _ hp => nomatch hp) ?_ rfl rfl (Nat.le_of_ble_eq_true rfl) fun h' F₃ N₃ => ?_
  · intro p hp
    rcases List.mem_append.mp hp with hp | hp
    · exact Nat.ne_of_lt (Heap.lt_size (N p (List.mem_append_left _ hp)).1)
    · rcases List.mem_cons.mp hp with rfl | hp
      · exact Nat.ne_of_lt hxs
      · exact Nat.ne_of_lt (Heap.lt_size (N p (List.mem_append_right _ (.tail _ hp))).1)
  · exact h _ _ h' (fun p hp => Heap.lt_size (N p hp).1) F₃ N₃

theorem x_set_next {E : Value → Shared → Prop} {cd : ClassData} {ox : Obj} {dx : Addr} {name : Str} {v : Value} {es es' : List DictEntry} {n n' : Nat} {news' : List (Addr × Obj)} {Q : Unit → Shared → Prop} (F : Fr h₀ L s.heap m) (X₀ : K.In h₀)
    (N : News h₀ L s.heap news) (I : InstAt s.heap x ox C (some (dictOf es n))) (hd : ox.dict = some dx)
    (hs : findIn K (.ref C) "__setattr__" = some (some (.builtin "object.__setattr__"))) (hc : clsIn K C = some cd) (hr : refuseLoop (.ref x) "__setattr__" cd.mro = pure ()) (ho : cd.mro.contains (.type "object") = true) (hdc : cd.hasDict = true) (ht : takerIn K C name = some none)
    (hl : (getL name es).isSome = true) (e : (putL name (PyData.keyHash w.params name) (.str name (s.toks + 1)) v es, putN name es n) = (es', n')) (U : Upd dx (dictOf es n) (dictOf es' n') news news') (hz : es'.length ≤ 1000)
    (h : ∀ h', Fr h₀ L h' m → News h₀ L h' news' → Q () { s with heap := h', toks := s.toks + 2 }) :
    wpAny (model prog w) A (setAttr (.ref x) name v) Q E s := by
  obtain ⟨pre, post, rfl, rfl, a, b⟩ := U.split
  obtain ⟨e1, e2⟩ := Prod.mk.inj e
  have X := X₀.keeps F.keep
  refine set_plain X I hs (x_osa_open (s := { s with toks := s.toks + 1 }) X I hc hr ho ht fun _ => ?_)
  obtain ⟨hx, hcl, hn, -⟩ := I
  obtain ⟨oc, odi, oda, osl⟩ := ox
  dsimp only at hcl hd
  subst hcl hd
  unfold storeInOwnDict
  refine wpAny_bind (wpAny_pure ?_)
  refine wpAny_bind ?_
  unfold ownDictForStores instanceDict
  refine wpAny_bind (wpAny_loadPart hx ?_)
  dsimp only
  refine wpAny_bind ((looks_clsIn X hc).at ?_)
  rw [hdc]
  refine wpAny_pure (a := some dx) ?_
  exact x_store_dict (s := { s with toks := s.toks + 1 }) F N hl a b (by rw [putName_dict, e1, e2]) rfl hz fun h' F' N' => h h' F' N'
end
open PySem PySem.W PySem.Calls PyProof.Rows PyProof.V PySem.Spec Builtin Builtin.ObjectAttr
section
variable {prog : Program} {w : World} {A : Around} {E : Value → Shared → Prop} {K : Frag} {C x : Addr} {s : Shared}

theorem x_get {ox : Obj} {od : Option Obj} {name : Str} {v : Value} {expr : Bool} {Q : Value → Shared → Prop} (X : K.In s.heap) (I : InstAt s.heap x ox C od)
    (hga : findIn K (.ref C) "__getattribute__" = some (some (.builtin "BaseException.__getattribute__"))) (hg : findIn K (.ref C) "__getattr__" = some none) (hm : mroIn K C (.type "BaseException") = some true)
    (hf : findObj K C od name = some (.value v)) (hv : handedIn v = true) (h : Q v { s with toks := s.toks + 1 }) : wpAny (model prog w) A (getAttr (.ref x) name expr) Q E s := by
  obtain ⟨hh, g, d, t, os⟩ := s
  have L0 := I.type (M := model prog w)
  have L1 := looks_findIn (M := model prog w) X hga
  have L2 := looks_findIn (M := model prog w) X hg
  have L3 := looks_find (M := model prog w) X I hf
  have L4 : Looks (model prog w) hh (isInstance (.ref x) (.type "BaseException")) true := L0.andThen (looks_mroIn X hm)
  have f3 := PySem.F.attr_Exception.ga.bind (.ref x)
  have hx0 : (expr && onTheHeap (Value.builtin "BaseException.__getattribute__")) = false := by cases expr <;> rfl
  unfold getAttr getAttrBy
  refine wpAny_bind (wpAny_mkText (wpAny_holding (wpAny_bind (L0.at (wpAny_bind (L1.at ?_))))))
  dsimp only
  have hx2 : (onTheHeap (Value.ref C) && (Value.builtin "BaseException.__getattribute__" == Value.builtin "object.__getattribute__")) = false := by
    have q : (Value.builtin "BaseException.__getattribute__" == Value.builtin "object.__getattribute__") = false := by decide +kernel
    rw [q, Bool.and_false]
  refine wpAny_ite ?_
  rw [if_neg (by rw [hx2]; exact Bool.false_ne_true)]
  unfold getAttrByItsOwn hookBefore
  refine wpAny_bind (wpAny_ite ?_)
  rw [if_pos (by rfl)]
  refine L2.at ?_
  refine wpAny_bind (wpAny_attempt (wpAny_holding ?_))
  unfold callGetattribute
  refine wpAny_ite ?_
  rw [if_neg (by rw [hx0]; exact Bool.false_ne_true)]
  unfold boundAndCalled
  rw [f3]
  refine wpAny_bind (wpAny_pure (wpAny_call (codeAny_call_builtin PySem.F.attr_Exception.ga.plain PySem.F.entry_bexc_ga (@check_slot (model prog w) _ _ _ "BaseException.__getattribute__" "BaseException" "__getattribute__" (.ref x) [.str name t] [] _ (by decide +kernel) (by decide +kernel) L4 (PySem.F.args_bexc_ga _ _) ?_))))
  refine wpAny_bind (wpAny_pure (wpAny_bind (wpAny_pure (wpAny_bind (L0.at (wpAny_bind (L3.at ?_)))))))
  refine wpAny_pure ?_
  show wpAny _ _ (handedOut v) _ _ _
  rw [handedOut_of hv]
  exact wpAny_pure h
end
set_option maxHeartbeats 4000000 in
theorem synth_spec {w : World} {A : Around} {s : Shared} {base : Heap} {outer : List Env} {mean : ExcName → Option Value} {mg mb : Str → Option Value} {Q : Value → Shared → Prop} {E : Value → Shared → Prop} {kd dt : Str} {at_ : Int} {t1 t2 t3 : Tok}
    (B : Below A base outer s.heap) (XB : (Mine.hd.heap_39 w.params).In base) (TB : Top Mine.hd.view_39 (looseW Mine.hd.view_39 [Str.ofString "GateloomError"]) mean mg mb base) (hroom : A.depth < 850)
    (hQ : ∀ h' tk e dx tp u1 u2 u3, Kept [] s.heap h' → s.heap.get? e = none → s.heap.get? dx = none → s.heap.get? tp = none → dx ≠ e → h'.get? e = some ⟨.ref 52, some dx, .fields #[.ref tp, .none, .none, .none, .bool false, .none], #[]⟩ →
      h'.get? dx = some (dictOf [⟨PyData.keyHash w.params (Str.ofString "kind"), .str (Str.ofString "kind") u1, .str kd t1⟩, ⟨PyData.keyHash w.params (Str.ofString "at"), .str (Str.ofString "at") u2, .int at_ t2⟩, ⟨PyData.keyHash w.params (Str.ofString "detail"), .str (Str.ofString "detail") u3, .str dt t3⟩] 3) →
      Q (.ref e) { s with heap := h', toks := tk }) :
    wpAny (model PySem.Challenge.rw_sj0046_01.row.prog w) A (call (.ref 52) [.str kd t1, .int at_ t2, .str dt t3]) Q E s := by
  refine hold fun gP kont => ?_
  obtain ⟨h, g, d, t, os⟩ := s
  refine kont ?_
  clear kont gP
  have X : (Mine.hd.heap_39 w.params).In h := XB.keeps B.stays
  refine' x_call PySem.F.excBase_Exception ?b1 ?b2 ?b3 X ?hC ?hi ?hf ?hl ?_
  case hC => k_is
  case hi => k_is
  case hf => k_is
  case b1 => decide +kernel
  case b2 => decide +kernel
  case b3 => decide +kernel
  case hl => rw [sizeLine_eq]; exact Nat.le_of_ble_eq_true rfl
  have kk : ∀ b o, h.get? b = some o → ((h.push (tupOf [.str kd t1, .int at_ t2, .str dt t3])).push (excOf 52 h.objs.size)).get? b = some o := fun b o e => Heap.get?_push_of_some _ (Heap.get?_push_of_some _ e)
  have he : ((h.push (tupOf [.str kd t1, .int at_ t2, .str dt t3])).push (excOf 52 h.objs.size)).get? (h.objs.size + 1) = some (excOf 52 h.objs.size) := by heap_get
  have ht : ((h.push (tupOf [.str kd t1, .int at_ t2, .str dt t3])).push (excOf 52 h.objs.size)).get? h.objs.size = some (tupOf [.str kd t1, .int at_ t2, .str dt t3]) := Heap.get?_push_of_some _ (Heap.get?_push_size _ rfl)
  have B₁ : Below (A.under (.builtin "type.__call__" ⟨.ref 52 :: [.str kd t1, .int at_ t2, .str dt t3], []⟩)) base outer ((h.push (tupOf [.str kd t1, .int at_ t2, .str dt t3])).push (excOf 52 h.objs.size)) := below_under (below_grow B kk) rfl
  have hn : h.get? (h.objs.size + 1) = none := Heap.get?_none_of_le (Nat.le_succ _)
  have X₁ : (Mine.hd.heap_39 w.params).In ((h.push (tupOf [.str kd t1, .int at_ t2, .str dt t3])).push (excOf 52 h.objs.size)) := XB.keeps B₁.stays
  refine' enter (binds := [(Str.ofString "self", .ref (h.objs.size + 1)), (Str.ofString "kind", .str kd t1), (Str.ofString "at", .int at_ t2), (Str.ofString "detail", .str dt t3)]) [(h.objs.size + 1, excOf 52 h.objs.size)] B₁ XB TB ?q1 ?q2 ?q3 ?k6 ?k7 ?k8 ?k9 ?kB ?_ ?c2 ?c3 ?c4 ?c5
  case k8 => (rw [depth_under_make]; have hr : recursionLimit = 1000 := rfl; lia)
  tb_start
  case q1 => exact fCm ⟨he, fNm _⟩
  case q2 => exact fCm ⟨below_fresh B hn, fNm _⟩
  case q3 => exact fun env hm => fCm ⟨below_frames B hn env hm, fNm _⟩
  intro gg L h₁ hg1 hg2 hL F N B' X' T'
  try dsimp only
  k_steps
  refine' x_set_first (pre := []) (post := []) F X' N (fun _ hp => nomatch hp) (fun _ hp => nomatch hp) ?s1 ?s2 ?s3 ?s4 ?s5 ?s6 ?_
  case s1 => k_is
  case s2 => k_is
  case s3 => exact x_refuse _
  case s4 => decide +kernel
  case s5 => rfl
  case s6 => k_is
  intro dx tk h₂ hlt F₁ N₁
  have hlt' : h.objs.size + 1 < dx := hlt _ (.head _)
  try simp only [List.nil_append] at N₁
  try dsimp only
  k_steps
  refine' x_set_next F₁ X' N₁ ?i ?d ?s1 ?s2 ?s3 ?s4 ?s5 ?s6 ?s7 ?s8 ?s9 ?s10 ?_
  case i => exact ⟨(N₁ _ (.tail _ (.head _))).1, rfl, rfl, (N₁ _ (.head _)).1⟩
  case d => exact rfl
  case s1 => k_is
  case s2 => k_is
  case s3 => exact x_refuse _
  case s4 => decide +kernel
  case s5 => rfl
  case s6 => k_is
  case s7 => k_get
  case s8 => k_put
  case s9 => k_upd
  case s10 => exact Nat.le_of_ble_eq_true rfl
  intro h₃ F₂ N₂
  try dsimp only
  k_steps
  refine' x_set_next F₂ X' N₂ ?i ?d ?s1 ?s2 ?s3 ?s4 ?s5 ?s6 ?s7 ?s8 ?s9 ?s10 ?_
  case i => exact ⟨(N₂ _ (.tail _ (.head _))).1, rfl, rfl, (N₂ _ (.head _)).1⟩
  case d => exact rfl
  case s1 => k_is
  case s2 => k_is
  case s3 => exact x_refuse _
  case s4 => decide +kernel
  case s5 => rfl
  case s6 => k_is
  case s7 => k_get
  case s8 => k_put
  case s9 => k_upd
  case s10 => exact Nat.le_of_ble_eq_true rfl
  intro h₄ F₃ N₃
  try dsimp only
  k_steps
  refine hQ h₄ _ (h.objs.size + 1) dx h.objs.size _ _ _ ?_ hn (Heap.get?_none_of_le (Nat.le_of_lt (Nat.lt_of_succ_lt hlt'))) (Heap.get?_none_of_le (Nat.le_refl _)) (Nat.ne_of_gt hlt') (N₃ _ (.tail _ (.head _))).1 (N₃ _ (.head _)).1
  intro b o hb _
  refine F₃.keep b o (hg1 b o (kk b o hb) ?_)
  intro hm
  have q := Heap.lt_size hb
  rw [List.mem_singleton.mp hm] at q
  exact absurd q (Nat.not_lt.mpr (Nat.le_succ _))
noncomputable def TrX (h B : Heap) (e : Addr) (o0 : Obj) (fl : Value) : Prop :=
  ∃ vs T oT ts, h.get? e = some { o0 with data := .fields vs } ∧ vs[1]? = some (.ref T) ∧ B.get? T = none ∧ T ≠ e ∧ h.get? T = some oT ∧ oT.data = .fields ts ∧ ts[3]? = some fl
noncomputable def LeftX (B : Heap) (l : List Env) (e : Addr) (o0 : Obj) (fl : Value) (h h' : Heap) : Prop :=
  B.StaysIn h' ∧ h'.FunFrames B l ∧ TrX h' B e o0 fl ∧ h.UpToSlots h'

theorem notRec {o : Obj} {vs : Array Value} : ({ o with data := .fields vs } : Obj).isFreed = false := rfl

section
variable {M : Model} {A : Around} {E : Value → Shared → Prop} {s : Shared} {B : Heap} {env : Env} {outer : List Env} {L e : Addr} {o0 : Obj}

theorem x_entry {vs : Array Value} {head : Value} {hadNext : Bool} {Q : Unit → Shared → Prop} (hfr : A.frames = some (env :: outer)) (hl : s.heap.FunFrames B (env :: outer)) (hf : env.frame = some L)
    (he : s.heap.get? e = some { o0 with data := .fields vs }) (hkb : B.StaysIn s.heap) (hen : B.get? e = none) (hsz : 1 < vs.size)
    (h : ∀ h', LeftX B (env :: outer) e o0 (rawInt L) s.heap h' → Q () { s with heap := h' }) :
    wpAny M A (do let a ← frameOf env; let pl ← entryPlaceOf L hadNext; let b ← EntryCells.newEntry head a .none (rawInt L) .none pl; setField (.ref e) 1 b) Q E s := by
  have off : e ∉ (env :: outer).filterMap (·.frame) := fun hm => by
    obtain ⟨_, o, ho, hnf⟩ := hl.mem hm
    rw [he] at ho
    cases ho
    exact hnf vs rfl
  refine wpAny_bind (wpAny_frameOf_fun hfr hl hf fun h₁ hs₁ => wpAny_bind (wpAny_entryPlaceOf fun pl hpl => ?_))
  unfold EntryCells.newEntry newFields
  refine wpAny_bind (wpAny_newObj_type ?_ (hpl.sizeOk5 _ _ _ _ _))
  have he₁ := (hs₁.2.1 e off).trans he
  have kb₁ : B.StaysIn h₁ := fun b o hb => (hs₁.2.1 b fun hm => by rw [(hl.mem hm).1] at hb; cases hb).trans (hkb b o hb)
  generalize hT : ({ cls := .type "traceback", dict := none, data := .fields ([head, .ref L, .none, rawInt L, .none] ++ (if pl.isEmpty then List.replicate 6 Value.none else pl)).toArray } : Obj) = T₀
  have hTd : ∃ ts, T₀.data = .fields ts ∧ ts[3]? = some (rawInt L) := by
    subst hT
    exact ⟨_, rfl, by first | (simp; done) | (rcases hpl with rfl | ⟨_, _, _, _, _, _, _, rfl⟩ <;> simp)⟩
  have hTf : T₀.isFreed = false := by subst hT; rfl
  have he₂ := Heap.get?_push_of_some T₀ he₁
  refine wpAny_setField he₂ rfl hsz (h _ ?_)
  have ne : h₁.objs.size ≠ e := Nat.ne_of_gt (Heap.lt_size he₁)
  have up : ∀ b o, b ≠ e → h₁.get? b = some o → ((h₁.push T₀).update e (Obj.mapFields (·.setIfInBounds 1 (Value.ref h₁.objs.size)))).get? b = some o := fun b o n hb =>
    (Heap.get?_update_other _ _ (Ne.symm n)).trans (Heap.get?_push_of_some _ hb)
  have norec : ∀ b o, s.heap.get? b = some o → (∀ vs, o.data ≠ .fields vs) → b ≠ e := fun b o hb hn q => by
    rw [q, he] at hb
    cases hb
    exact hn vs rfl
  obtain ⟨ts, hd, h3⟩ := hTd
  refine ⟨fun b o hb => up b o (fun q => by rw [q, hen] at hb; cases hb) (kb₁ b o hb), hl.of_keeps fun b o hb hn => ?_, ⟨_, h₁.objs.size, T₀, ts, Heap.get?_update_self _ he₂ rfl, ?_, kb₁.fresh, ne, ?_, hd, h3⟩, fun b o hb hn => ?_⟩
  · obtain ⟨sl, hs⟩ := hs₁.2.2 b o hb
    exact ⟨_, up b _ (norec b o hb hn) hs, rfl⟩
  · simp [hsz]
  · exact (Heap.get?_update_other _ _ ne.symm).trans (Heap.get?_push_size _ hTf)
  · obtain ⟨sl, hs⟩ := hs₁.2.2 b o hb
    exact ⟨sl, up b _ (norec b o hb hn) hs⟩

theorem x_land {l : List Env} {fl : Value} {Q : Unit → Shared → Prop} (hkb : B.StaysIn s.heap) (hl : s.heap.FunFrames B l) (ht : TrX s.heap B e o0 fl)
    (h : ∀ h', LeftX B l e o0 .none s.heap h' → Q () { s with heap := h' }) : wpAny M A (setFlight (.ref e) none) Q E s := by
  obtain ⟨vs, T, oT, ts, he, h1, hnT, hTe, hT, hd, h3⟩ := ht
  have hs3 := (Array.getElem?_eq_some_iff.mp h3).1
  unfold setFlight
  refine wpAny_bind (wpAny_field he rfl h1 ?_)
  rw [if_pos (show (Value.ref T != Value.none) = true from by simp)]
  refine wpAny_setField hT hd hs3 (h _ ?_)
  have up : ∀ b, b ≠ T → (s.heap.update T (Obj.mapFields (·.setIfInBounds 3 ((none : Option Addr).elim Value.none fun f => rawInt f)))).get? b = s.heap.get? b := fun b n => Heap.get?_update_other _ _ (Ne.symm n)
  have norec : ∀ b o, s.heap.get? b = some o → (∀ vs, o.data ≠ .fields vs) → b ≠ T := fun b o hb hn q => by
    rw [q, hT] at hb
    cases hb
    exact hn ts hd
  refine ⟨fun b o hb => (up b fun q => by rw [q, hnT] at hb; cases hb).trans (hkb b o hb), hl.of_keeps fun b o hb hn => ⟨o, (up b (norec b o hb hn)).trans hb, rfl⟩,
    ⟨vs, T, _, _, (up e (Ne.symm hTe)).trans he, h1, hnT, hTe, Heap.get?_update_self _ hT (Obj.isFreed_of_fields (Obj.data_mapFields hd _)), Obj.data_mapFields hd _, by simp [hs3]⟩, fun b o hb hn => ⟨o.slots, (up b (norec b o hb hn)).trans hb⟩⟩

theorem x_leave_first {vs : Array Value} {Q : Unit → Shared → Prop} (hfr : A.frames = some (env :: outer)) (hl : s.heap.FunFrames B (env :: outer)) (hf : env.frame = some L)
    (he : s.heap.get? e = some { o0 with data := .fields vs }) (hkb : B.StaysIn s.heap) (hen : B.get? e = none) (h1 : vs[1]? = some .none)
    (h : ∀ h', LeftX B (env :: outer) e o0 .none s.heap h' → Q () { s with heap := h' }) : wpAny M A (leaving env (.ref e)) Q E s := by
  unfold leaving noteFrame
  simp only [hf]
  refine wpAny_bind (wpAny_bind (wpAny_field he rfl h1 ?_))
  rw [if_neg (by decide)]
  refine x_entry hfr hl hf he hkb hen (Array.getElem?_eq_some_iff.mp h1).1 fun h₁ ⟨a, b, c, d⟩ => ?_
  exact x_land a b c fun h₂ ⟨a', b', c', d'⟩ => h h₂ ⟨a', b', c', d.trans d'⟩

theorem x_note {Q : Unit → Shared → Prop} (hfr : A.frames = some (env :: outer)) (hl : s.heap.FunFrames B (env :: outer)) (hf : env.frame = some L) (ht : TrX s.heap B e o0 .none) (hkb : B.StaysIn s.heap) (hen : B.get? e = none)
    (h : ∀ h', LeftX B (env :: outer) e o0 (rawInt L) s.heap h' → Q () { s with heap := h' }) : wpAny M A (noteFrame (.ref e) env) Q E s := by
  obtain ⟨vs, T, oT, ts, he, h1, hnT, hTe, hT, hd, h3⟩ := ht
  unfold noteFrame
  simp only [hf]
  refine wpAny_bind (wpAny_field he rfl h1 ?_)
  rw [if_pos (show (Value.ref T != Value.none) = true from by simp)]
  refine wpAny_bind (wpAny_field hT hd h3 ?_)
  rw [if_neg (show ¬ ((Value.none == rawInt L) = true) from by simp [rawInt])]
  refine wpAny_bind (wpAny_setField hT hd (Array.getElem?_eq_some_iff.mp h3).1 ?_)
  have up : ∀ b, b ≠ T → (s.heap.update T (Obj.mapFields (·.setIfInBounds 3 Value.none))).get? b = s.heap.get? b := fun b n => Heap.get?_update_other _ _ (Ne.symm n)
  have norec : ∀ b o, s.heap.get? b = some o → (∀ vs, o.data ≠ .fields vs) → b ≠ T := fun b o hb hn q => by
    rw [q, hT] at hb
    cases hb
    exact hn ts hd
  refine x_entry hfr (hl.of_keeps fun b o hb hn => ⟨o, (up b (norec b o hb hn)).trans hb, rfl⟩) hf ((up e (Ne.symm hTe)).trans he)
    (fun b o hb => (up b fun q => by rw [q, hnT] at hb; cases hb).trans (hkb b o hb)) hen (Array.getElem?_eq_some_iff.mp h1).1 fun h' ⟨a, b, c, d⟩ => h h' ⟨a, b, c, fun x o hx hn => d x o ((up x (norec x o hx hn)).trans hx) hn⟩
end
section
variable {M : Model} {A : Around} {E : Value → Shared → Prop} {env : Env}
variable {nm q : Str} {C N : Addr} {bs bm : List Value} {hdct : Bool} {sn : List Str} {sub : List Value} {ab : Bool} {col : Option Bool} {dd : Option Addr} {k0 k1 k2 k3 k5 : Option Value} {newId : String}

theorem x_raiseStmt {s : Shared} {x : Sem Value} {Q : Flow → Shared → Prop} (hbase : bm.contains (.type "BaseException") = true) (hh : A.handled = none)
    (h : wpAny M A x (fun v s₁ => ∃ e dx vs sl, v = .ref e ∧ s₁.heap.get? C = some (excClassObj nm q C N bs bm hdct sn sub ab col dd k0 k1 k2 k3 k5 newId) ∧
      s₁.heap.get? e = some ⟨.ref C, dx, .fields vs, sl⟩ ∧ vs[1]? = some .none ∧ E (.ref e) s₁) E s) :
    wpAny M A (raiseStmt env (some x) none) Q E s := by
  have hcB : (Value.ref C :: bm).contains (.type "BaseException") = true := by rw [List.contains_cons, hbase, Bool.or_true]
  unfold raiseStmt
  refine wpAny_bind (wpAny_mono h (fun v s₁ h₁ => ?_) fun _ _ x => x)
  obtain ⟨e, dx, vs, sl, rfl, hC, he, h1, hE⟩ := h₁
  obtain ⟨hp, g, d, tk, os⟩ := s₁
  repeat (first | with_reducible refine wpAny_loadPart_at he ?_ | with_reducible refine wpAny_loadPart_at hC ?_ | (with_reducible refine wpAny_isSubtype_exc hC ?_; rw [hcB]) | wp_step)
  rw [h1]
  refine wpAny_pure ?_
  rw [if_neg (by decide)]
  exact wpAny_pure (wpAny_raiseNew_none hh hE)

theorem x_Raise {s : Shared} {x : Expr} {pos : Pos} {Q : Flow → Shared → Prop} (hbase : bm.contains (.type "BaseException") = true) (hh : A.handled = none)
    (h : wpAny M A (eval x env) (fun v s₁ => ∃ e dx vs sl, v = .ref e ∧ s₁.heap.get? C = some (excClassObj nm q C N bs bm hdct sn sub ab col dd k0 k1 k2 k3 k5 newId) ∧
      s₁.heap.get? e = some ⟨.ref C, dx, .fields vs, sl⟩ ∧ vs[1]? = some .none ∧ E (.ref e) s₁) E s) :
    wpAny M A (exec (.Raise (some x) none pos) env) Q E s := by
  rw [arm_exec_Raise]
  refine wpAny_bind (wpAny_standAt (x_raiseStmt (C := C) (nm := nm) (q := q) (N := N) (bs := bs) (bm := bm) (hdct := hdct) (sn := sn) (sub := sub) (ab := ab) (col := col) (dd := dd) (k0 := k0) (k1 := k1) (k2 := k2) (k3 := k3) (k5 := k5) (newId := newId) hbase hh ?_))
  exact wpAny_bind (wpAny_mono h (fun v s₃ h₃ => wpAny_bind (wpAny_standAt (wpAny_pure h₃))) fun _ _ x => x)
end
structure Thrown (G h' : Heap) (l : List Env) (e dx : Addr) (C : Addr) (es : List DictEntry) (n : Nat) : Prop where
  keep : ∀ b o, G.get? b = some o → b ∉ l.filterMap (·.frame) → h'.get? b = some o
  up : G.UpToSlots h'
  newE : G.get? e = none
  newD : G.get? dx = none
  ne : dx ≠ e
  dict : h'.get? dx = some (dictOf es n)
  tr : ∃ vs T oT ts, h'.get? e = some ⟨.ref C, some dx, .fields vs, #[]⟩ ∧ vs[1]? = some (.ref T) ∧ G.get? T = none ∧ T ≠ e ∧ T ≠ dx ∧ h'.get? T = some oT ∧ oT.data = .fields ts ∧ ts[3]? = some .none
  frames : ∃ B, h'.FunFrames B l

theorem mem_hide {h : Heap} {l : List Addr} {b : Addr} {o : Obj} (e : (hideAll h l).get? b = some o) : b ∉ l := fun m => by
  rw [hideAll_none l m] at e; cases e

theorem upSlots_L {h h' : Heap} (k : h.StaysIn h') : h.UpToSlots h' := fun b o e _ => ⟨o.slots, k b o e⟩

section
variable {prog : Program} {w : World} {A₀ : Around} {E : Value → Shared → Prop} {s' : Shared} {base g G : Heap} {outer : List Env} {L a e dx C : Addr} {m : Str → Option Value} {name : Str} {scope : Scope} {cd : Value}
  {n : Str} {b₀ : Stmt} {suite : List Stmt} {pos np : Pos} {rest : List ExceptHandler} {Q : Flow → Shared → Prop} {KF : Frag} {es : List DictEntry} {nd : Nat}
  {p : Program} {loose : List Str} {mean : ExcName → Option Value} {mg mb : Str → Option Value} {x : Str}

theorem x_caught (R : Thrown G s'.heap (envOf name scope L a cd :: outer) e dx C es nd) (F : Fr g L G m) (K : Below A₀ base outer g) (XB : KF.In base) (TB : Top p loose mean mg mb base)
    (ex : nsIn KF mainGlobals x = some (some (.ref C))) (q : ktsIn KF C "BaseException" = true)
    (k : ∀ h' g' tk vs, KtsTurn (outer.filterMap (·.frame)) g g' → Fr g' L h' (fun y => if y = n then some (.ref e) else m y) → News g' L h' [(e, ⟨.ref C, some dx, .fields vs, #[]⟩), (dx, dictOf es nd)] → Below A₀ base outer g' → KF.In g' → Top p loose mean mg mb g' →
      (∀ b o, G.get? b = some o → b ∉ (envOf name scope L a cd :: outer).filterMap (·.frame) → h'.get? b = some o) → G.get? e = none → G.get? dx = none →
      wpAny (model prog w) ((A₀.deeper (envOf name scope L a cd)).mark (some (.ref e))) (execs (b₀ :: suite) (envOf name scope L a cd))
        (fun f s₄ => wpAny (model prog w) (A₀.deeper (envOf name scope L a cd)) (do bindName (envOf name scope L a cd) n .none; unbindBehindTheSuite (envOf name scope L a cd) n pos) (fun _ s₅ => Q f s₅) E s₄)
        (AsSuiteRaised (model prog w) ((A₀.deeper (envOf name scope L a cd)).mark (some (.ref e))) (envOf name scope L a cd) n pos (notedBy (model prog w) ((A₀.deeper (envOf name scope L a cd)).mark (some (.ref e))) (envOf name scope L a cd) (cameBackBy (model prog w) (A₀.deeper (envOf name scope L a cd)) (envOf name scope L a cd) E)))
        { s' with heap := h', toks := tk })
    (hk : scope.kind = .function := by rfl) (hlo : (envOf name scope L a cd).kindOf n = some .local := by rfl) (hx : (envOf name scope L a cd).kindOf x = some .globalImplicit := by rfl) (hd : (x == ("__debug__" : Str)) = false := by decide) :
    wpAny (model prog w) (A₀.deeper (envOf name scope L a cd)) (noteFrame (.ref e) (envOf name scope L a cd))
      (fun _ s₂ => wpAny (model prog w) (A₀.deeper (envOf name scope L a cd)) (setFlight (.ref e) none) (fun _ s₃ =>
        wpAny (model prog w) (A₀.deeper (envOf name scope L a cd)) (handleBy (.ref e) (envOf name scope L a cd) (.ExceptHandler (some (.Name x np)) (some n) (b₀ :: suite) pos :: rest)) Q E s₃) E s₂) E s' := by
  obtain ⟨vs, T, oT, ts, he, h1, hGT, hTe, hTd, hT, hdT, h3⟩ := R.tr
  obtain ⟨B0, hB0⟩ := R.frames
  have hfr : (A₀.deeper (envOf name scope L a cd)).frames = some (envOf name scope L a cd :: outer) := Around.frames_deeper K.stack
  -- all that stands now, but the exception, its entry and the frames
  let fs := (envOf name scope L a cd :: outer).filterMap (·.frame)
  have hBn : ∀ b, b ∈ e :: T :: fs → (hideAll s'.heap (e :: T :: fs)).get? b = none := fun b hm => hideAll_none _ hm
  have st : (hideAll s'.heap (e :: T :: fs)).StaysIn s'.heap := fun b o q => of_hideAll _ q
  have hl : s'.heap.FunFrames (hideAll s'.heap (e :: T :: fs)) (envOf name scope L a cd :: outer) := funFrames_hide hB0 fun env hm b hb => .tail _ (.tail _ (List.mem_filterMap.mpr ⟨env, hm, hb⟩))
  have tr0 : TrX s'.heap (hideAll s'.heap (e :: T :: fs)) e ⟨.ref C, some dx, .plain, #[]⟩ .none := ⟨vs, T, oT, ts, he, h1, hBn T (.tail _ (.head _)), hTe, hT, hdT, h3⟩
  have hBG : ∀ b o, G.get? b = some o → b ∉ (envOf name scope L a cd :: outer).filterMap (·.frame) → (hideAll s'.heap (e :: T :: fs)).get? b = some o := fun b o hb hn =>
    hideAll_get _ (R.keep b o hb hn) fun hm => by
      rcases List.mem_cons.mp hm with rfl | hm
      · rw [R.newE] at hb; cases hb
      · rcases List.mem_cons.mp hm with rfl | hm
        · rw [hGT] at hb; cases hb
        · exact hn hm
  have hdf : dx ∉ fs := fun hm => by
    obtain ⟨_, o, ho, _⟩ := hl.mem hm
    obtain ⟨env, hen, hfe⟩ := List.mem_filterMap.mp hm
    rcases List.mem_cons.mp hen with rfl | hen
    · obtain ⟨oL, _, _, hoL, _⟩ := F.ns
      have hq := R.newD
      rw [show dx = L from (Option.some.inj hfe).symm, hoL] at hq
      cases hq
    · obtain ⟨L₁, o₁, hf₁, ho₁⟩ := funFrames_in K.frames env hen
      rw [hf₁] at hfe
      cases hfe
      have hq := R.newD
      rw [F.keep _ _ ho₁] at hq
      cases hq
  have hdB : (hideAll s'.heap (e :: T :: fs)).get? dx = some (dictOf es nd) := hideAll_get _ R.dict fun hm => by
    rcases List.mem_cons.mp hm with z | hm
    · exact R.ne z
    · rcases List.mem_cons.mp hm with z | hm
      · exact hTd z.symm
      · exact hdf hm
  refine x_note hfr hl rfl tr0 st (hBn e (.head _)) fun h₁ ⟨a1, b1, c1, d1⟩ => ?_
  refine x_land a1 b1 c1 fun h₂ ⟨a2, b2, c2, d2⟩ => ?_
  have up₂ : G.UpToSlots h₂ := R.up.trans (d1.trans d2)
  obtain ⟨g₂, T₂, F₂, K₂⟩ := kts_ground K F hBG a2 up₂
  have X₂ : KF.In g₂ := XB.keeps K₂.stays
  have P₂ : TopRead p loose mg mb g₂ := topRead_of (TB.keeps K₂.stays)
  obtain ⟨nm, q', N, bs, bm, hdct, sn, sub, ab, col, dd, k0, k1, k2, k3, k5, newId, hC, hbase, hbT⟩ := kts_cls X₂ q
  have hC₂ := F₂.keep _ _ hC
  refine wpAny_handleBy_cons (codeAny_handlers_test (name_K F₂ X₂ P₂ ex ?_ hk hx hd)) (by intro q; cases q)
  obtain ⟨vs₂, T', oT', ts', he₂, _⟩ := id c2
  refine wpAny_excMatches_sub_self hC₂ he₂ rfl hbase (codeAny_handlers_suite_as ?_)
  refine x_land a2 b2 c2 fun h₃ ⟨a3, b3, c3, d3⟩ => ?_
  obtain ⟨g₃, T₃, F₃, K₃⟩ := kts_ground K F hBG a3 (up₂.trans d3)
  obtain ⟨vs₃, T'', oT'', ts'', he₃, _⟩ := id c3
  have hL3 : ∀ o, h₃.get? L = some o → ∀ ws, o.data ≠ .fields ws := fun o ho ws z => by
    obtain ⟨oL, es', ep, hoL, hd', _⟩ := F₃.ns
    rw [hoL] at ho
    cases ho
    rw [hd'] at z; cases z
  have neL : e ≠ L := fun z => hL3 _ (z ▸ he₃) vs₃ rfl
  have N₃ : News g₃ L h₃ [(e, ⟨.ref C, some dx, .fields vs₃, #[]⟩), (dx, dictOf es nd)] := by
    intro z hz
    rcases List.mem_cons.mp hz with rfl | hz
    · exact ⟨he₃, neL, T₃.none_ _ (kts_none F.keep R.newE)⟩
    · rcases List.mem_cons.mp hz with rfl | hz
      · exact ⟨a3 _ _ hdB, fun z => hdf (by rw [show dx = L from z]; exact List.mem_filterMap.mpr ⟨_, .head _, rfl⟩), T₃.none_ _ (kts_none F.keep R.newD)⟩
      · cases hz
  refine wpAny_storeName_local hlo F₃.ns (fun h₄ hn₄ hs₄ => ?_) (by show (scope.kind == .class || (scope.kind == .module && L != mainGlobals)) = false; rw [hk]; rfl)
  refine k h₄ g₃ _ vs₃ T₃ (F₃.set hn₄ hs₄) (N₃.set hs₄) K₃ (XB.keeps K₃.stays) (TB.keeps K₃.stays) (fun b o hb hn => ?_) R.newE R.newD
  exact (hs₄.2 b fun z => hn (by rw [z]; exact List.mem_filterMap.mpr ⟨_, .head _, rfl⟩)).trans (a3 b o (hBG b o hb hn))
end
noncomputable abbrev ent (P : Params) (x : String) (t : Tok) (v : Value) : DictEntry := ⟨PyData.keyHash P (Str.ofString x), .str (Str.ofString x) t, v⟩

noncomputable abbrev wdOf (P : Params) (t : Nat → Tok) (v : Nat → Value) (D I M : Addr) : Obj :=
  dictOf [ent P "nets" (t 0) (v 0), ent P "drivers" (t 1) (.ref D), ent P "initial" (t 2) (.ref I), ent P "pulls" (t 3) (v 1), ent P "uneven" (t 4) (v 2), ent P "strong" (t 5) (v 3), ent P "unclear" (t 6) (v 4), ent P "floating" (t 7) (v 5), ent P "loose" (t 8) (v 6), ent P "names" (t 9) (.ref M)] 10
noncomputable abbrev ndOf (P : Params) (t : Nat → Tok) (v : Nat → Value) (c : Int) (tc : Tok) (nc : Addr) : Obj :=
  dictOf [ent P "name" (t 0) (v 0), ent P "count" (t 1) (.int c tc), ent P "inputs" (t 2) (v 1), ent P "outputs" (t 3) (v 2), ent P "cells" (t 4) (.ref nc)] 5

noncomputable abbrev TK (w : World) : HeapKind PySem.Challenge.rw_sj0046_01.row.prog w (List Int) := tupleKind (intKind PySem.Challenge.rw_sj0046_01.row.prog w)
abbrev TX := List (List Int × Addr × Value)

structure TabObj (w : World) (k : Heap) (od : Obj) (xs : TX) : Prop where
  exact_ : od.ExactDict
  data : ∃ es ep, od.data = .dict es ep ∧ es.toList = xs.map (entryOfKey (TK w))
  keys : ∀ x ∈ xs, (TK w).is k x.1 x.2.1
  nodup : (xs.map (·.1)).Nodup

theorem isTupleKey_keeps {w : World} {k h : Heap} {ks : List Int} {a : Addr} (x : (TK w).is k ks a) (e : k.StaysIn h) : (TK w).is h ks a := by
  obtain ⟨o, items, n, ho, r⟩ := x
  exact ⟨o, items, n, e _ _ ho, r⟩
theorem TabObj.keeps {w : World} {k h : Heap} {od : Obj} {xs : TX} (T : TabObj w k od xs) (e : k.StaysIn h) : TabObj w h od xs := ⟨T.exact_, T.data, fun x hx => isTupleKey_keeps (T.keys x hx) e, T.nodup⟩
theorem TabObj.dictOfH {w : World} {k h : Heap} {od : Obj} {xs : TX} {D : Addr} (T : TabObj w k od xs) (e : k.StaysIn h) (hD : h.get? D = some od) : h.DictOfH (TK w) D xs := by
  obtain ⟨es, ep, hd, he⟩ := T.data
  exact ⟨od, es, ep, hD, T.exact_, hd, he, (T.keeps e).keys, T.nodup⟩
theorem TabObj.of {w : World} {h : Heap} {xs : TX} {D : Addr} (T : h.DictOfH (TK w) D xs) : ∃ od, h.get? D = some od ∧ TabObj w h od xs := by
  obtain ⟨o, es, ep, ho, hx, hd, he, hk, hn⟩ := T
  exact ⟨o, ho, hx, ⟨es, ep, hd, he⟩, hk, hn⟩

theorem key_is {w : World} {h : Heap} {a : Addr} {i j : Int} {t u : Tok} {n : Nat} (e : h.get? a = some { cls := .type "tuple", data := .seq [.int i t, .int j u].toArray n }) : (TK w).is h [i, j] a :=
  ⟨_, _, n, e, rfl, rfl, .cons (by show Value.isInt i (.int i t) = true; simp [Value.isInt]) (.cons (by show Value.isInt j (.int j u) = true; simp [Value.isInt]) .nil)⟩

theorem led_set {h₀ h h' : Heap} {L D : Addr} {m : Str → Option Value} {od od' : Obj} {news news' : List (Addr × Obj)} (F : Fr h₀ L h m) (N : News h₀ L h news) (U : Upd D od od' news news') (hs : Heap.SameBut D h h') (hD : h'.get? D = some od') : Fr h₀ L h' m ∧ News h₀ L h' news' := by
  obtain ⟨pre, post, rfl, rfl, a, b⟩ := U.split
  have z := N (D, od) (by simp)
  refine ⟨F.change hs z.2.1 z.2.2, news_set N a b hs hD⟩

theorem led_add {h₀ h h' : Heap} {L a : Addr} {m : Str → Option Value} {o : Obj} {news : List (Addr × Obj)} (F : Fr h₀ L h m) (N' : News h₀ L h' news) (hn : h.get? a = none) (ha : h'.get? a = some o) : News h₀ L h' ((a, o) :: news) := by
  intro q hq
  rcases List.mem_cons.mp hq with rfl | hq
  · refine ⟨ha, fun z => ?_, kts_none F.keep hn⟩
    obtain ⟨oL, _, _, hL, _⟩ := F.ns
    have z' : a = L := z
    rw [z', hL] at hn; cases hn
  · exact N' q hq
theorem led_grow {h₀ h h' : Heap} {L : Addr} {news : List (Addr × Obj)} (N : News h₀ L h news) (k : ∀ b o, h.get? b = some o → h'.get? b = some o) : News h₀ L h' news := fun q hq => ⟨k _ _ (N q hq).1, (N q hq).2⟩
local macro_rules | `(tactic| walk_at "an") => `(tactic| ((iterate 12 first | done | with_reducible assumption | apply And.right); done))
local macro_rules | `(tactic| size_fits) => `(tactic| (exact Nat.le_of_ble_eq_true rfl))
local macro_rules | `(tactic| walk_at "le") => `(tactic| (exact Nat.le_of_ble_eq_true rfl))
local macro_rules | `(tactic| k_ne) => `(tactic| (refine neN ?_; (try dsimp only); first | with_reducible assumption | exact Ne.symm (by with_reducible assumption) | exact Nat.ne_of_lt (And.left (by walk_at "an")) | exact Nat.ne_of_lt (by walk_at "an") | exact Nat.ne_of_gt (And.left (by walk_at "an")) | exact Nat.ne_of_gt (by walk_at "an") | omega))
local macro_rules | `(tactic| k_room) => `(tactic| ((try simp only [depth_mark, depth_under_make, depth_under_kw, depth_in1, depth_deeper]); (have hRL : recursionLimit = 1000 := rfl); omega))
local macro_rules | `(tactic| walk_at "unpackItems ref") => `(tactic| (k_here; k_dflt (refine' unpackItemsN_ ?k1 ?k2 ?k3 ?k4 ?k5 ?_; (case k1 => k_asm); (case k2 => k_asm); (case k3 => kun_tup); (case k4 => (show Around.handled _ = _; assumption)); (case k5 => exact rfl); k_whole); intro zh zF zN; (try k_sweep)))
local macro_rules | `(tactic| walk_at "kf") => `(tactic| ((fail_if_success (fail_if_success k_fold)); refine' wpf ?_; intro qk ek))
local macro_rules | `(tactic| walk_at "q0") => `(tactic| (try ((with_reducible show wpAny _ _ _ _ _ _); walk_at "kf")))
local macro_rules | `(tactic| walk_at "q1") => `(tactic| (first | (k_unfold; (try dsimp only [List.cons_append, List.nil_append]); (try walk_at "kf")) | (k_end; wrow_close) | ((with_reducible show wpAny _ _ (exec _ _) _ _ _); walk_at "kf"; walk1) | walk1 | (dsimp only; walk1) | (leave1; try dsimp only)))
local macro_rules | `(tactic| walk_at "g1") => `(tactic| ((fail_if_success (with_reducible show wpAny _ _ (subscriptTail _ _ (Value.ref _) (Value.int (Nat.cast _) _)) _ _ _))))
local macro_rules | `(tactic| walk_at "g2") => `(tactic| (walk_at "g1"; (fail_if_success (with_reducible show wpAny _ _ (compareOp CmpOp.In _ (Value.ref _)) _ _ _))))
local macro_rules | `(tactic| walk_at "g3") => `(tactic| (walk_at "g2"; (fail_if_success (with_reducible show wpAny _ _ (call (Value.ref _) _) _ _ _))))
local macro_rules | `(tactic| walk_at "g4") => `(tactic| (walk_at "g3"; (fail_if_success (with_reducible show wpAny _ _ (subscriptTail (PySem.Expr.Call _ _ _ _) _ (Value.ref _) (Value.int _ _)) _ _ _))))
local macro_rules | `(tactic| walk_at "q2") => `(tactic| (first | (k_unfold; (try dsimp only [List.cons_append, List.nil_append]); (try walk_at "kf")) | ((with_reducible show wpAny _ _ (exec _ _) _ _ _); walk_at "kf"; walk1) | walk1 | (dsimp only; walk1)))
local macro_rules | `(tactic| walk_at "aT") => `(tactic| (k_here; (with_reducible show wpAny _ _ (assign (Expr.Tuple _ _ _) _ (Value.ref _)) _ _ _); k_dflt (refine' unpackN_ ?k1 ?k2 ?k3 ?k4 ?k5 ?k6 ?_; (case k1 | k2 => k_asm); (case k3 => kun_tup); (case k4 => (show Around.handled _ = _; assumption)); (case k5 | k6 => exact rfl); k_whole); intro zh zF zN; (try k_sweep)))
section
local macro_rules | `(tactic| k_steps) => `(tactic| (walk_at "q0"; repeat' (walk_at "g2"; walk_at "q1")))
local macro_rules | `(tactic| k_enter) => `(tactic| (refine' code_def ?k1 ?k2 ?k3 ?k4 ?k5 ?kA ?kF ?kK ?k6 ?k7 ?k8 ?k9 ?kB ?_ ?c2 ?c3 ?c4 ?c5; (case kA => exact Around.frames_deeper (Below.stack (by assumption))); (case kF | kK => exact rfl); (case k1 | k2 | k3 | k4 | k5 => k_asm); (case k8 => k_room); tb_start; k_whole; intro zg zL zh zG zF zN zB zX zT; (try dsimp only); (try k_lift zB); (try walk_at "kf")))
theorem no_tup_ref {a : Addr} (h : Value.ref a = .type "tuple") : False := by cases h
theorem no_tup_dict (h : Value.type "dict" = .type "tuple") : False := by
  injection h with h
  exact absurd h (by decide)
theorem no_tup_list (h : Value.type "list" = .type "tuple") : False := by
  injection h with h
  exact absurd h (by decide)
theorem atKey_push {xs : TX} {k : List Int} {a : Addr} {v : Value} (h : atKey xs k = none) : atKey (xs ++ [(k, a, v)]) k = some (a, v) := by
  unfold atKey at *
  rw [List.find?_append]
  cases q : xs.find? (fun x => decide (x.1 = k)) with
  | none => simp
  | some z => rw [q] at h; cases h
theorem kept_end {S : List Addr} {h g h' : Heap} {sub : List (Addr × Obj)} (hg1 : ∀ b o, h.get? b = some o → b ∉ sub.map (·.1) → g.get? b = some o) (k : g.StaysIn h') (hs : ∀ q ∈ sub, q.1 ∈ S ∨ ∀ o, h.get? q.1 = some o → h'.get? q.1 = some o) : Kept S h h' := fun b o hb hn => by
  by_cases hm : b ∈ sub.map (·.1)
  · obtain ⟨q, hq, rfl⟩ := List.mem_map.mp hm
    exact (hs q hq).elim (fun z => absurd z hn) fun z => z o hb
  · exact k b o (hg1 b o hb hm)
theorem fresh_end {h g : Heap} {sub : List (Addr × Obj)} (hg1 : ∀ b o, h.get? b = some o → b ∉ sub.map (·.1) → g.get? b = some o) {a : Addr} (hn : g.get? a = none) (ha : ∀ q ∈ sub, q.1 ≠ a) : h.get? a = none := by
  cases q : h.get? a with
  | none => rfl
  | some o =>
    rw [hg1 a o q fun hm => by obtain ⟨z, hz, e⟩ := List.mem_map.mp hm; exact ha z hz e] at hn
    cases hn
theorem same_end {h h' : Heap} {a : Addr} {o : Obj} (x : h.get? a = some o) (y : h'.get? a = some o) : ∀ o', h.get? a = some o' → h'.get? a = some o' := fun o' z => by
  rw [x] at z
  cases z
  exact y
theorem tab_ne {w : World} {h : Heap} {od o : Obj} {xs : TX} (T : TabObj w h od xs) {a : Addr} (ha : h.get? a = some o) (hc : o.cls ≠ .type "tuple") : ∀ x ∈ xs, x.2.1 ≠ a := fun x hx e => by
  obtain ⟨ok, _, _, hk, hcls, _⟩ := T.keys x hx
  rw [e, ha] at hk
  cases hk
  exact hc hcls
theorem TabObj.cut {w : World} {h g : Heap} {od : Obj} {xs : TX} (T : TabObj w h od xs) (k : ∀ x ∈ xs, ∀ o, h.get? x.2.1 = some o → o.cls = .type "tuple" → g.get? x.2.1 = some o) : TabObj w g od xs := ⟨T.exact_, T.data, fun x hx => by
  obtain ⟨o, items, n, ho, hc, r⟩ := T.keys x hx
  exact ⟨o, items, n, k x hx o ho hc, hc, r⟩, T.nodup⟩
set_option maxHeartbeats 4000000 in
theorem drive_new {w : World} {A : Around} {s : Shared} {base : Heap} {outer : List Env} {mean : ExcName → Option Value} {mg mb : Str → Option Value} {R : Result → Shared → Prop}
    {wr wd D I M : Addr} {t : Nat → Tok} {v : Nat → Value} {od : Obj} {xs : TX} {key bit net : Int} {tk tb tn : Tok}
    (B : Below A base outer s.heap) (XB : (Mine.hd.heap_39 w.params).In base) (TB : Top Mine.hd.view_39 (looseW Mine.hd.view_39 [Str.ofString "GateloomError"]) mean mg mb base) (hroom : A.depth < 850) (hun : A.units < 900)
    (hwr : s.heap.get? wr = some (instObj 85 wd)) (hwd : s.heap.get? wd = some (wdOf w.params t v D I M)) (hD : s.heap.get? D = some od) (hT : TabObj w s.heap od xs)
    (hb : base.get? wr = none ∧ base.get? wd = none ∧ base.get? D = none) (hf : ∀ env ∈ outer, env.frame ≠ some wr ∧ env.frame ≠ some wd ∧ env.frame ≠ some D) (hsm : (D == sysModules) = false) (hlen : xs.length ≤ sizeLine)
    (hno : atKey xs [key, bit] = none) (hne : wr ≠ D ∧ wd ≠ D)
    (hR : ∀ h' tk' pl nl od', Kept [D] s.heap h' → s.heap.get? pl = none → s.heap.get? nl = none → h'.get? D = some od' → TabObj w h' od' (xs ++ [([key, bit], pl, .ref nl)]) → h'.get? nl = some (PySem.W.listOf #[.int net tn] 1) → R (.ok (.ret .none)) { s with heap := h', toks := tk' }) :
    codeAny (model PySem.Challenge.rw_sj0046_01.row.prog w) A (.call (.ref 75) ⟨[.ref wr, .int key tk, .int bit tb, .int net tn], []⟩) R s := by
  refine hold fun gP kont => ?_
  obtain ⟨h, g, d, tt, os⟩ := s
  refine kont ?_
  clear kont gP
  refine' enter (binds := [(Str.ofString "self", .ref wr), (Str.ofString "key", .int key tk), (Str.ofString "bit", .int bit tb), (Str.ofString "net", .int net tn)]) [(wr, instObj 85 wd), (wd, wdOf w.params t v D I M), (D, od)] B XB TB ?q1 ?q2 ?q3 ?k6 ?k7 ?k8 ?k9 ?kB ?_ ?c2 ?c3 ?c4 ?c5
  case k8 => exact Nat.lt_of_lt_of_le hroom (by decide)
  tb_start
  case q1 => exact fCm ⟨hwr, fCm ⟨hwd, fCm ⟨hD, fNm _⟩⟩⟩
  case q2 => exact fCm ⟨hb.1, fCm ⟨hb.2.1, fCm ⟨hb.2.2, fNm _⟩⟩⟩
  case q3 => exact fun env hm => fCm ⟨(hf env hm).1, fCm ⟨(hf env hm).2.1, fCm ⟨(hf env hm).2.2, fNm _⟩⟩⟩
  intro gg L h₁ hg1 hg2 hL F N B' X' T'
  have hT' : TabObj w gg od xs := hT.cut fun x hx o ho hc => hg1 _ _ ho fun hm => by
    simp only [List.map_cons, List.map_nil, List.mem_cons, List.not_mem_nil, or_false] at hm
    rcases hm with e | e | e
    · rw [e, hwr] at ho; cases ho; exact no_tup_ref hc
    · rw [e, hwd] at ho; cases ho; exact no_tup_dict hc
    · rw [e, hD] at ho; cases ho; rw [hT.exact_.1] at hc; exact no_tup_dict hc
  have hu1 : ∀ env, (A.deeper env).units + 1 < cLine := hu_of hun (Nat.le_of_ble_eq_true rfl)
  try dsimp only
  k_steps
  rename Fr _ _ _ _ => F1
  rename News _ _ _ _ => N1
  rename _ < _ ∧ _ ∧ _ => l1
  have hk1 := key_is (w := w) (N1 _ (.head _)).1
  have hd1 := hT'.dictOfH F1.keep (N1 _ (.tail _ (.tail _ (.tail _ (.head _))))).1
  refine' wpAny_notIn_heap (tupleKind_room_in1 (hu1 _)) hk1 hsm hd1 ?_
  rw [hno]
  try dsimp only
  k_steps
  try dsimp only
  rename Fr _ _ _ _ => F2
  rename News _ _ _ _ => N2
  rename _ < _ ∧ _ < _ ∧ _ < _ ∧ _ < _ => l2
  have hk2 := key_is (w := w) (N2 _ (.tail _ (.head _))).1
  have hd2 := hT'.dictOfH F2.keep (N2 _ (.tail _ (.tail _ (.tail _ (.tail _ (.head _)))))).1
  refine' wpAny_setItem_heap (tupleKind_room_in1 (hu1 _)) hk2 hd2 ?_ hlen
  intro h3 hm3 hs3
  rw [storedH_new hno] at hm3
  refine hold fun gP kont => ?_
  obtain ⟨od3, hD3, hT3⟩ := TabObj.of hm3
  have n1 : wr ≠ D := hne.1
  have n2 : wd ≠ D := hne.2
  obtain ⟨F3, N3⟩ := led_set F2 N2 (.tail (by k_ne) (.tail (by k_ne) (.tail (by k_ne) (.tail (by k_ne) (.head (by k_all)))))) hs3 hD3
  refine kont ?_
  clear kont gP
  try dsimp only
  k_steps
  try dsimp only
  have hm3' : h3.DictOfH (TK w) D (xs ++ [([key, bit], _, _)]) := hm3
  refine' subscriptTail_builtin hm3'.typeIs slot_dict_getitem.lookup (wpAny_getItem_heap (tupleKind_room_in1 (hu1 _)) (key_is (w := w) (N3 _ (.tail _ (.head _))).1) hm3' (atKey_push hno) ?_) (by with_unfolding_all rfl)
  try dsimp only
  k_steps
  rename Fr _ _ _ _ => F4
  rename News _ _ _ _ => N4
  refine hR _ _ _ _ od3 (kept_end hg1 F4.keep ?a1) (fresh_end hg1 (N4 _ (.tail _ (.head _))).2.2 ?a2) (fresh_end hg1 (N4 _ (.head _)).2.2 ?a3) (N4 _ (.tail _ (.tail _ (.tail _ (.tail _ (.head _)))))).1 ⟨hT3.exact_, hT3.data, fun x hx => ?a4, hT3.nodup⟩ (N4 _ (.head _)).1
  case a1 => exact fCm ⟨.inr (same_end hwr (N4 _ (.tail _ (.tail _ (.head _)))).1), fCm ⟨.inr (same_end hwd (N4 _ (.tail _ (.tail _ (.tail _ (.head _))))).1), fCm ⟨.inl (.head _), fNm _⟩⟩⟩
  case a2 => k_all
  case a3 => k_all
  case a4 =>
    rcases List.mem_append.mp hx with hx | hx
    · exact isTupleKey_keeps (hT'.keys x hx) F4.keep
    · rw [List.mem_singleton.mp hx]
      exact key_is (w := w) (N4 _ (.tail _ (.head _))).1
section
noncomputable abbrev sdOf (P : Params) (t u : Nat → Tok) (key : Int) (path kind : String) (width : Int) (sg : Bool) (msb lsb : Int) (first last : Value) (at_ : Int) : Obj :=
  dictOf [ent P "key" (t 0) (.int key (u 0)), ent P "path" (t 1) (.str (Str.ofString path) (u 1)), ent P "kind" (t 2) (.str (Str.ofString kind) (u 2)), ent P "width" (t 3) (.int width (u 3)), ent P "signed" (t 4) (.bool sg), ent P "msb" (t 5) (.int msb (u 4)), ent P "lsb" (t 6) (.int lsb (u 5)), ent P "first" (t 7) first, ent P "last" (t 8) last, ent P "init" (t 9) .none, ent P "at" (t 10) (.int at_ (u 6)), ent P "scalar" (t 11) (.bool false)] 12
noncomputable def names : List (List String) := [["m[0][0]", "m[0][1]", "m[1][0]", "m[1][1]"], ["m[0][0]", "m[0][1]"], ["m[1][0]"], ["n[0]", "n[1]", "n[2]"], ["g.w[0]", "g.w[1]"]]
noncomputable def nameAt (ref bit : Int) : String := (names.getD ref.toNat []).getD bit.toNat ""
noncomputable abbrev sd_m (P : Params) (t u : Nat → Tok) : Obj := sdOf P t u 0 "top.m" "reg" 2 false 1 0 (.int 1 (u 7)) (.int 0 (u 8)) 20
noncomputable abbrev sd_m0 (P : Params) (t u : Nat → Tok) : Obj := sdOf P t u 1 "top.m[0]" "reg" 2 false 1 0 .none .none 21
noncomputable abbrev sd_m1 (P : Params) (t u : Nat → Tok) : Obj := sdOf P t u 2 "top.m[1]" "reg" 1 false 0 0 .none .none 22
noncomputable abbrev sd_n (P : Params) (t u : Nat → Tok) : Obj := sdOf P t u 3 "top.n" "integer" 3 true 2 0 .none .none 23
noncomputable abbrev sd_w (P : Params) (t u : Nat → Tok) : Obj := sdOf P t u 4 "top.g.w" "wire" 2 false 1 0 .none .none 24
theorem small_int {b : Int} (h0 : 0 ≤ b) (h1 : b < 10) : (-2 ^ 1920 < b ∧ b < 2 ^ 1920) ∧ 0 ≤ b ∧ b < 10 ^ 10 := ⟨⟨Int.lt_of_lt_of_le (by decide +kernel) h0, Int.lt_trans h1 (by decide +kernel)⟩, h0, Int.lt_trans h1 (by decide +kernel)⟩
local macro_rules | `(tactic| kt_fact) => `(tactic| with_reducible assumption)
local macro_rules | `(tactic| size_fits) => `(tactic| first | exact Nat.le_of_ble_eq_true rfl | kt_le)
set_option maxHeartbeats 4000000 in
theorem sname_m {w : World} {A : Around} {s : Shared} {base : Heap} {outer : List Env} {mean : ExcName → Option Value} {mg mb : Str → Option Value} {R : Result → Shared → Prop}
    {sg sd : Addr} {t u : Nat → Tok} {bit : Int} {tb : Tok}
    (B : Below A base outer s.heap) (XB : (Mine.hd.heap_39 w.params).In base) (TB : Top Mine.hd.view_39 (looseW Mine.hd.view_39 [Str.ofString "GateloomError"]) mean mg mb base) (hroom : A.depth < 850)
    (hsg : s.heap.get? sg = some (instObj 176 sd)) (hsd : s.heap.get? sd = some (sd_m w.params t u))
    (hb : base.get? sg = none ∧ base.get? sd = none) (hf : ∀ env ∈ outer, env.frame ≠ some sg ∧ env.frame ≠ some sd)
    (hbit : bit = 0 ∨ bit = 1 ∨ bit = 2 ∨ bit = 3)
    (hR : ∀ h' tk' tr x, x = Str.ofString (nameAt 0 bit) → Kept [] s.heap h' → R (.ok (.ret (.str x tr))) { s with heap := h', toks := tk' }) :
    codeAny (model PySem.Challenge.rw_sj0046_01.row.prog w) A (.call (.ref 103) ⟨[.ref sg, .int bit tb], []⟩) R s := by
  refine hold fun gP kont => ?_
  obtain ⟨h, g, d, tt, os⟩ := s
  refine kont ?_
  clear kont gP
  refine' enter (binds := [(Str.ofString "signal", .ref sg), (Str.ofString "bit", .int bit tb)]) [(sg, instObj 176 sd), (sd, sd_m w.params t u)] B XB TB ?q1 ?q2 ?q3 ?k6 ?k7 ?k8 ?k9 ?kB ?_ ?c2 ?c3 ?c4 ?c5
  case k8 => exact Nat.lt_of_lt_of_le hroom (by decide)
  tb_start
  case q1 => exact fCm ⟨hsg, fCm ⟨hsd, fNm _⟩⟩
  case q2 => exact fCm ⟨hb.1, fCm ⟨hb.2, fNm _⟩⟩
  case q3 => exact fun env hm => fCm ⟨(hf env hm).1, fCm ⟨(hf env hm).2, fNm _⟩⟩
  intro gg L h₁ hg1 hg2 hL F N B' X' T'
  have hb03 : 0 ≤ bit ∧ bit < 4 := by rcases hbit with rfl | rfl | rfl | rfl <;> decide
  have hx := small_int (b := bit / 2) (Int.ediv_nonneg hb03.1 (by decide)) (Int.lt_of_le_of_lt (Int.ediv_le_self _ hb03.1) (Int.lt_trans hb03.2 (by decide)))
  have hx1 := hx.1.1
  have hx2 := hx.1.2
  have hx3 := hx.2.1
  have hx4 := hx.2.2
  clear hx
  have hy := small_int (b := bit % 2) (Int.emod_nonneg _ (by decide)) (Int.lt_trans (Int.emod_lt_of_pos _ (by decide)) (by decide))
  have hy1 := hy.1.1
  have hy2 := hy.1.2
  have hy3 := hy.2.1
  have hy4 := hy.2.2
  clear hy
  try dsimp only
  k_steps
  rename Fr _ _ _ _ => F4
  rename News _ _ _ _ => N4
  refine hR _ _ _ _ ?x1 (kept_end hg1 F4.keep ?x2)
  case x2 => exact fCm ⟨.inr (same_end hsg (N4 _ (.tail _ (.head _))).1), fCm ⟨.inr (same_end hsd (N4 _ (.tail _ (.tail _ (.head _)))).1), fNm _⟩⟩
  case x1 => rcases hbit with rfl | rfl | rfl | rfl <;> decide +kernel
set_option maxHeartbeats 4000000 in
theorem sname_m0 {w : World} {A : Around} {s : Shared} {base : Heap} {outer : List Env} {mean : ExcName → Option Value} {mg mb : Str → Option Value} {R : Result → Shared → Prop}
    {sg sd : Addr} {t u : Nat → Tok} {bit : Int} {tb : Tok}
    (B : Below A base outer s.heap) (XB : (Mine.hd.heap_39 w.params).In base) (TB : Top Mine.hd.view_39 (looseW Mine.hd.view_39 [Str.ofString "GateloomError"]) mean mg mb base) (hroom : A.depth < 850)
    (hsg : s.heap.get? sg = some (instObj 176 sd)) (hsd : s.heap.get? sd = some (sd_m0 w.params t u))
    (hb : base.get? sg = none ∧ base.get? sd = none) (hf : ∀ env ∈ outer, env.frame ≠ some sg ∧ env.frame ≠ some sd)
    (hbit : bit = 0 ∨ bit = 1)
    (hR : ∀ h' tk' tr x, x = Str.ofString (nameAt 1 bit) → Kept [] s.heap h' → R (.ok (.ret (.str x tr))) { s with heap := h', toks := tk' }) :
    codeAny (model PySem.Challenge.rw_sj0046_01.row.prog w) A (.call (.ref 103) ⟨[.ref sg, .int bit tb], []⟩) R s := by
  refine hold fun gP kont => ?_
  obtain ⟨h, g, d, tt, os⟩ := s
  refine kont ?_
  clear kont gP
  refine' enter (binds := [(Str.ofString "signal", .ref sg), (Str.ofString "bit", .int bit tb)]) [(sg, instObj 176 sd), (sd, sd_m0 w.params t u)] B XB TB ?q1 ?q2 ?q3 ?k6 ?k7 ?k8 ?k9 ?kB ?_ ?c2 ?c3 ?c4 ?c5
  case k8 => exact Nat.lt_of_lt_of_le hroom (by decide)
  tb_start
  case q1 => exact fCm ⟨hsg, fCm ⟨hsd, fNm _⟩⟩
  case q2 => exact fCm ⟨hb.1, fCm ⟨hb.2, fNm _⟩⟩
  case q3 => exact fun env hm => fCm ⟨(hf env hm).1, fCm ⟨(hf env hm).2, fNm _⟩⟩
  intro gg L h₁ hg1 hg2 hL F N B' X' T'
  have hb03 : 0 ≤ bit ∧ bit < 10 := by rcases hbit with rfl | rfl <;> decide
  have hx := small_int (b := bit) (hb03.1) (hb03.2)
  have hx1 := hx.1.1
  have hx2 := hx.1.2
  have hx3 := hx.2.1
  have hx4 := hx.2.2
  clear hx
  try dsimp only
  k_steps
  rename Fr _ _ _ _ => F4
  rename News _ _ _ _ => N4
  refine hR _ _ _ _ ?x1 (kept_end hg1 F4.keep ?x2)
  case x2 => exact fCm ⟨.inr (same_end hsg (N4 _ (.tail _ (.head _))).1), fCm ⟨.inr (same_end hsd (N4 _ (.tail _ (.tail _ (.head _)))).1), fNm _⟩⟩
  case x1 => rcases hbit with rfl | rfl <;> decide +kernel
set_option maxHeartbeats 4000000 in
theorem sname_m1 {w : World} {A : Around} {s : Shared} {base : Heap} {outer : List Env} {mean : ExcName → Option Value} {mg mb : Str → Option Value} {R : Result → Shared → Prop}
    {sg sd : Addr} {t u : Nat → Tok} {bit : Int} {tb : Tok}
    (B : Below A base outer s.heap) (XB : (Mine.hd.heap_39 w.params).In base) (TB : Top Mine.hd.view_39 (looseW Mine.hd.view_39 [Str.ofString "GateloomError"]) mean mg mb base) (hroom : A.depth < 850)
    (hsg : s.heap.get? sg = some (instObj 176 sd)) (hsd : s.heap.get? sd = some (sd_m1 w.params t u))
    (hb : base.get? sg = none ∧ base.get? sd = none) (hf : ∀ env ∈ outer, env.frame ≠ some sg ∧ env.frame ≠ some sd)
    (hbit : bit = 0)
    (hR : ∀ h' tk' tr x, x = Str.ofString (nameAt 2 bit) → Kept [] s.heap h' → R (.ok (.ret (.str x tr))) { s with heap := h', toks := tk' }) :
    codeAny (model PySem.Challenge.rw_sj0046_01.row.prog w) A (.call (.ref 103) ⟨[.ref sg, .int bit tb], []⟩) R s := by
  refine hold fun gP kont => ?_
  obtain ⟨h, g, d, tt, os⟩ := s
  refine kont ?_
  clear kont gP
  refine' enter (binds := [(Str.ofString "signal", .ref sg), (Str.ofString "bit", .int bit tb)]) [(sg, instObj 176 sd), (sd, sd_m1 w.params t u)] B XB TB ?q1 ?q2 ?q3 ?k6 ?k7 ?k8 ?k9 ?kB ?_ ?c2 ?c3 ?c4 ?c5
  case k8 => exact Nat.lt_of_lt_of_le hroom (by decide)
  tb_start
  case q1 => exact fCm ⟨hsg, fCm ⟨hsd, fNm _⟩⟩
  case q2 => exact fCm ⟨hb.1, fCm ⟨hb.2, fNm _⟩⟩
  case q3 => exact fun env hm => fCm ⟨(hf env hm).1, fCm ⟨(hf env hm).2, fNm _⟩⟩
  intro gg L h₁ hg1 hg2 hL F N B' X' T'
  have hb03 : 0 ≤ bit ∧ bit < 10 := by rcases hbit with rfl <;> decide
  have hx := small_int (b := bit) (hb03.1) (hb03.2)
  have hx1 := hx.1.1
  have hx2 := hx.1.2
  have hx3 := hx.2.1
  have hx4 := hx.2.2
  clear hx
  try dsimp only
  k_steps
  rename Fr _ _ _ _ => F4
  rename News _ _ _ _ => N4
  refine hR _ _ _ _ ?x1 (kept_end hg1 F4.keep ?x2)
  case x2 => exact fCm ⟨.inr (same_end hsg (N4 _ (.tail _ (.head _))).1), fCm ⟨.inr (same_end hsd (N4 _ (.tail _ (.tail _ (.head _)))).1), fNm _⟩⟩
  case x1 => rcases hbit with rfl <;> decide +kernel
set_option maxHeartbeats 4000000 in
theorem sname_n {w : World} {A : Around} {s : Shared} {base : Heap} {outer : List Env} {mean : ExcName → Option Value} {mg mb : Str → Option Value} {R : Result → Shared → Prop}
    {sg sd : Addr} {t u : Nat → Tok} {bit : Int} {tb : Tok}
    (B : Below A base outer s.heap) (XB : (Mine.hd.heap_39 w.params).In base) (TB : Top Mine.hd.view_39 (looseW Mine.hd.view_39 [Str.ofString "GateloomError"]) mean mg mb base) (hroom : A.depth < 850)
    (hsg : s.heap.get? sg = some (instObj 176 sd)) (hsd : s.heap.get? sd = some (sd_n w.params t u))
    (hb : base.get? sg = none ∧ base.get? sd = none) (hf : ∀ env ∈ outer, env.frame ≠ some sg ∧ env.frame ≠ some sd)
    (hbit : bit = 0 ∨ bit = 1 ∨ bit = 2)
    (hR : ∀ h' tk' tr x, x = Str.ofString (nameAt 3 bit) → Kept [] s.heap h' → R (.ok (.ret (.str x tr))) { s with heap := h', toks := tk' }) :
    codeAny (model PySem.Challenge.rw_sj0046_01.row.prog w) A (.call (.ref 103) ⟨[.ref sg, .int bit tb], []⟩) R s := by
  refine hold fun gP kont => ?_
  obtain ⟨h, g, d, tt, os⟩ := s
  refine kont ?_
  clear kont gP
  refine' enter (binds := [(Str.ofString "signal", .ref sg), (Str.ofString "bit", .int bit tb)]) [(sg, instObj 176 sd), (sd, sd_n w.params t u)] B XB TB ?q1 ?q2 ?q3 ?k6 ?k7 ?k8 ?k9 ?kB ?_ ?c2 ?c3 ?c4 ?c5
  case k8 => exact Nat.lt_of_lt_of_le hroom (by decide)
  tb_start
  case q1 => exact fCm ⟨hsg, fCm ⟨hsd, fNm _⟩⟩
  case q2 => exact fCm ⟨hb.1, fCm ⟨hb.2, fNm _⟩⟩
  case q3 => exact fun env hm => fCm ⟨(hf env hm).1, fCm ⟨(hf env hm).2, fNm _⟩⟩
  intro gg L h₁ hg1 hg2 hL F N B' X' T'
  have hb03 : 0 ≤ bit ∧ bit < 10 := by rcases hbit with rfl | rfl | rfl <;> decide
  have hx := small_int (b := bit) (hb03.1) (hb03.2)
  have hx1 := hx.1.1
  have hx2 := hx.1.2
  have hx3 := hx.2.1
  have hx4 := hx.2.2
  clear hx
  try dsimp only
  k_steps
  rename Fr _ _ _ _ => F4
  rename News _ _ _ _ => N4
  refine hR _ _ _ _ ?x1 (kept_end hg1 F4.keep ?x2)
  case x2 => exact fCm ⟨.inr (same_end hsg (N4 _ (.tail _ (.head _))).1), fCm ⟨.inr (same_end hsd (N4 _ (.tail _ (.tail _ (.head _)))).1), fNm _⟩⟩
  case x1 => rcases hbit with rfl | rfl | rfl <;> decide +kernel
end
structure Made (P : Params) (h h' : Heap) (e dx : Addr) (kd dt : Str) (at_ : Int) (es : List DictEntry) : Prop where
  keep : Kept [] h h'
  newE : h.get? e = none
  newD : h.get? dx = none
  ne : dx ≠ e
  obj : ∃ tp, h'.get? e = some ⟨.ref 52, some dx, .fields #[.ref tp, .none, .none, .none, .bool false, .none], #[]⟩
  dict : h'.get? dx = some (dictOf es 3)
  es_ : ∃ u1 t1 u2 t2 u3 t3, es = [⟨PyData.keyHash P (Str.ofString "kind"), .str (Str.ofString "kind") u1, .str kd t1⟩, ⟨PyData.keyHash P (Str.ofString "at"), .str (Str.ofString "at") u2, .int at_ t2⟩, ⟨PyData.keyHash P (Str.ofString "detail"), .str (Str.ofString "detail") u3, .str dt t3⟩]
theorem Kept.none_ {h h' : Heap} (k : Kept [] h h') {a : Addr} (n : h'.get? a = none) : h.get? a = none := by
  cases q : h.get? a with
  | none => rfl
  | some o => rw [k a o q List.not_mem_nil] at n; cases n
set_option maxHeartbeats 4000000 in
theorem several_spec {w : World} {A : Around} {s : Shared} {base : Heap} {outer : List Env} {mean : ExcName → Option Value} {mg mb : Str → Option Value} {R : Result → Shared → Prop}
    {sg sd : Addr} {t u : Nat → Tok} {key width msb lsb at_ : Int} {path kind : String} {sgn : Bool} {first last : Value}
    (B : Below A base outer s.heap) (XB : (Mine.hd.heap_39 w.params).In base) (TB : Top Mine.hd.view_39 (looseW Mine.hd.view_39 [Str.ofString "GateloomError"]) mean mg mb base) (hroom : A.depth < 750)
    (hsg : s.heap.get? sg = some (instObj 176 sd)) (hsd : s.heap.get? sd = some (sdOf w.params t u key path kind width sgn msb lsb first last at_))
    (hb : base.get? sg = none ∧ base.get? sd = none) (hf : ∀ env ∈ outer, env.frame ≠ some sg ∧ env.frame ≠ some sd)
    (hR : ∀ h' tk' e dx es, Made w.params s.heap h' e dx (Str.ofString "several_drivers") (Str.ofString path) at_ es → R (.ok (.ret (.ref e))) { s with heap := h', toks := tk' }) :
    codeAny (model PySem.Challenge.rw_sj0046_01.row.prog w) A (.call (.ref 96) ⟨[.ref sg], []⟩) R s := by
  refine hold fun gP kont => ?_
  obtain ⟨h, g, d, tt, os⟩ := s
  refine kont ?_
  clear kont gP
  refine' enter (binds := [(Str.ofString "signal", .ref sg)]) [(sg, instObj 176 sd), (sd, sdOf w.params t u key path kind width sgn msb lsb first last at_)] B XB TB ?q1 ?q2 ?q3 ?k6 ?k7 ?k8 ?k9 ?kB ?_ ?c2 ?c3 ?c4 ?c5
  case k8 => exact Nat.lt_of_lt_of_le hroom (by decide)
  tb_start
  case q1 => exact fCm ⟨hsg, fCm ⟨hsd, fNm _⟩⟩
  case q2 => exact fCm ⟨hb.1, fCm ⟨hb.2, fNm _⟩⟩
  case q3 => exact fun env hm => fCm ⟨(hf env hm).1, fCm ⟨(hf env hm).2, fNm _⟩⟩
  intro gg L h₁ hg1 hg2 hL F N B' X' T'
  try dsimp only
  k_steps
  have k0 : Kept [] h h₁ := kept_end hg1 F.keep (fCm ⟨.inr (same_end hsg (N _ (.head _)).1), fCm ⟨.inr (same_end hsd (N _ (.tail _ (.head _))).1), fNm _⟩⟩)
  refine' synth_spec (B'.push F) XB TB ?r ?_
  case r => exact roomD hroom (by decide)
  intro h' tk e dx tp u1 u2 u3 hk hn1 hn2 hn3 hne ho hd
  exact hR _ _ e dx _ ⟨k0.trans hk, k0.none_ hn1, k0.none_ hn2, hne, ⟨tp, ho⟩, hd, ⟨u1, _, u2, _, u3, _, rfl⟩⟩
set_option maxHeartbeats 4000000 in
theorem addcell_spec {w : World} {A : Around} {s : Shared} {base : Heap} {outer : List Env} {mean : ExcName → Option Value} {mg mb : Str → Option Value} {R : Result → Shared → Prop}
    {nl nd nc pins pr : Addr} {t : Nat → Tok} {v : Nat → Value} {c : Int} {tc tk : Tok} {kd : Str} {its pis : Array Value} {n pn : Nat}
    (B : Below A base outer s.heap) (XB : (Mine.hd.heap_39 w.params).In base) (TB : Top Mine.hd.view_39 (looseW Mine.hd.view_39 [Str.ofString "GateloomError"]) mean mg mb base) (hroom : A.depth < 750)
    (hnl : s.heap.get? nl = some (instObj 316 nd)) (hnd : s.heap.get? nd = some (ndOf w.params t v c tc nc)) (hnc : s.heap.get? nc = some (PySem.W.listOf its n)) (hpi : s.heap.get? pins = some { cls := .type "tuple", data := .seq pis pn })
    (hb : base.get? nl = none ∧ base.get? nd = none ∧ base.get? nc = none ∧ base.get? pins = none) (hf : ∀ env ∈ outer, env.frame ≠ some nl ∧ env.frame ≠ some nd ∧ env.frame ≠ some nc ∧ env.frame ≠ some pins)
    (hne : nl ≠ nd ∧ nl ≠ nc ∧ nd ≠ nc ∧ pins ≠ nl ∧ pins ≠ nd ∧ pins ≠ nc) (hits : its.size ≤ sizeLine)
    (hR : ∀ h' tk' ct tc' t1 t2 t3, Kept [nd, nc] s.heap h' → s.heap.get? ct = none → h'.get? nd = some (ndOf w.params t v (c + 1) tc' nc) → h'.get? nc = some (PySem.W.listOf (its.push (.ref ct)) (n + 1)) → h'.get? ct = some { cls := .type "tuple", data := .seq #[.str kd t1, .int c t2, .ref pins, .ref pr] } → R (.ok (.ret (.int c t3))) { s with heap := h', toks := tk' }) :
    codeAny (model PySem.Challenge.rw_sj0046_01.row.prog w) A (.call (.ref 291) ⟨[.ref nl, .str kd tk, .ref pins, .ref pr], []⟩) R s := by
  refine hold fun gP kont => ?_
  obtain ⟨h, g, d, tt, os⟩ := s
  refine kont ?_
  clear kont gP
  have X₁ : (Mine.hd.heap_39 w.params).In h := XB.keeps B.stays
  refine' enter (binds := [(Str.ofString "self", .ref nl), (Str.ofString "kind", .str kd tk), (Str.ofString "ins", .ref pins), (Str.ofString "param", .ref pr)]) [(nc, PySem.W.listOf its n), (nd, ndOf w.params t v c tc nc), (nl, instObj 316 nd), (pins, { cls := .type "tuple", data := .seq pis pn })] B XB TB ?q1 ?q2 ?q3 ?k6 ?k7 ?k8 ?k9 ?kB ?_ ?c2 ?c3 ?c4 ?c5
  case k8 => exact Nat.lt_of_lt_of_le hroom (by decide)
  tb_start
  case q1 => exact fCm ⟨hnc, fCm ⟨hnd, fCm ⟨hnl, fCm ⟨hpi, fNm _⟩⟩⟩⟩
  case q2 => exact fCm ⟨hb.2.2.1, fCm ⟨hb.2.1, fCm ⟨hb.1, fCm ⟨hb.2.2.2, fNm _⟩⟩⟩⟩
  case q3 => exact fun env hm => fCm ⟨(hf env hm).2.2.1, fCm ⟨(hf env hm).2.1, fCm ⟨(hf env hm).1, fCm ⟨(hf env hm).2.2.2, fNm _⟩⟩⟩⟩
  intro gg L h₁ hg1 hg2 hL F N B' X' T'
  have n1 : @Ne Nat nl nd := hne.1
  have n2 : @Ne Nat nl nc := hne.2.1
  have n3 : @Ne Nat nd nc := hne.2.2.1
  have n4 : @Ne Nat pins nl := hne.2.2.2.1
  have n5 : @Ne Nat pins nd := hne.2.2.2.2.1
  have n6 : @Ne Nat pins nc := hne.2.2.2.2.2
  try dsimp only
  dsimp only [ndOf, ent] at N
  k_steps
  rename Fr _ L _ _ => F4
  rename News _ L _ _ => N4
  have k9 : Kept [nd, nc] h _ := kept_end hg1 F4.keep (fCm ⟨.inl (.tail _ (.head _)), fCm ⟨.inl (.head _), fCm ⟨.inr (same_end hnl (N4 _ (.tail _ (.tail _ (.tail _ (.head _))))).1), fCm ⟨.inr (same_end hpi (N4 _ (.tail _ (.tail _ (.tail _ (.tail _ (.head _)))))).1), fNm _⟩⟩⟩⟩)
  exact hR _ _ _ _ _ _ _ k9 (fresh_end hg1 (N4 _ (.head _)).2.2 (by k_all)) (N4 _ (.tail _ (.tail _ (.head _)))).1 (N4 _ (.tail _ (.head _))).1 (N4 _ (.head _)).1
noncomputable def Own (base : Heap) (outer : List Env) (a : Addr) : Prop := base.get? a = none ∧ ∀ env ∈ outer, env.frame ≠ some a

theorem Own.frame {base : Heap} {outer : List Env} {a L f : Addr} {name : Str} {scope : Scope} {cd : Value} (o : Own base outer a) (h : a ≠ L) : Own base (envOf name scope L f cd :: outer) a :=
  ⟨o.1, fun env he => by
    rcases List.mem_cons.mp he with rfl | he
    · exact fun e => h (Option.some.inj e).symm
    · exact o.2 env he⟩
theorem Own.fresh {A : Around} {base h : Heap} {outer : List Env} {a : Addr} (B : Below A base outer h) (ha : h.get? a = none) : Own base outer a := ⟨below_fresh B ha, below_frames B ha⟩

section
variable {prog : Program} {w : World} {A₀ : Around} {E : Value → Shared → Prop} {s : Shared} {base g G : Heap} {outer : List Env} {L a e dx C : Addr} {m : Str → Option Value} {name : Str} {scope : Scope} {cd : Value} {es : List DictEntry} {nd : Nat} {R : Result → Shared → Prop} {vs : Array Value}

theorem x_thrown (k : Kept [] G s.heap) (F : Fr g L s.heap m) (K : Below A₀ base outer g) (hgG : ∀ b o, g.get? b = some o → G.get? b = some o) (he : s.heap.get? e = some ⟨.ref C, some dx, .fields vs, #[]⟩) (h1 : vs[1]? = some .none) (hd : s.heap.get? dx = some (dictOf es nd)) (ne : dx ≠ e) (hdL : dx ≠ L)
    (hGL : G.get? L = none) (newE : G.get? e = none) (newD : G.get? dx = none) (hR : ∀ h', Thrown G h' outer e dx C es nd → R (.error (.ref e)) { s with heap := h' }) (hk : scope.kind = .function := by rfl) :
    wpAny (model prog w) (A₀.deeper (envOf name scope L a cd)) (leaving (envOf name scope L a cd) (.ref e)) (fun _ s'' => R (.error (.ref e)) s'') E s := by
  have hfr : (A₀.deeper (envOf name scope L a cd)).frames = some (envOf name scope L a cd :: outer) := Around.frames_deeper K.stack
  have hl0 : s.heap.FunFrames base (envOf name scope L a cd :: outer) := (K.push F hk).frames
  let fs := (envOf name scope L a cd :: outer).filterMap (·.frame)
  have hl : s.heap.FunFrames (hideAll s.heap (e :: fs)) (envOf name scope L a cd :: outer) := funFrames_hide hl0 fun env hm b hb => .tail _ (List.mem_filterMap.mpr ⟨env, hm, hb⟩)
  have hdf : dx ∉ fs := fun hm => by
    obtain ⟨env, hen, hfe⟩ := List.mem_filterMap.mp hm
    rcases List.mem_cons.mp hen with rfl | hen
    · exact hdL (Option.some.inj hfe).symm
    · obtain ⟨L₁, o₁, hf₁, ho₁⟩ := funFrames_in K.frames env hen
      rw [hf₁] at hfe
      cases hfe
      rw [hgG _ _ ho₁] at newD
      cases newD
  have hdB : (hideAll s.heap (e :: fs)).get? dx = some (dictOf es nd) := hideAll_get _ hd fun hm => by
    rcases List.mem_cons.mp hm with z | hm
    · exact ne z
    · exact hdf hm
  refine x_leave_first (o0 := ⟨.ref C, some dx, .plain, #[]⟩) (B := hideAll s.heap (e :: fs)) hfr hl rfl he (fun b o q => of_hideAll _ q) (hideAll_none _ (.head _)) h1 fun h' ⟨a1, b1, c1, d1⟩ => hR h' ?_
  obtain ⟨ws, T, oT, ts, he', h1', hBT, hTe, hT', hdT, h3⟩ := c1
  have hTd : T ≠ dx := fun z => by rw [z, hdB] at hBT; cases hBT
  have hGT : G.get? T = none := by
    cases q : G.get? T with
    | none => rfl
    | some o =>
      have q' := k T o q List.not_mem_nil
      have hTf : T ∉ fs := fun hm => by
        obtain ⟨_, o', ho', hnf⟩ := b1.mem hm
        rw [hT'] at ho'
        cases ho'
        exact hnf _ hdT
      rw [hideAll_get _ q' fun hm => by
        rcases List.mem_cons.mp hm with z | hm
        · exact hTe z
        · exact hTf hm] at hBT
      cases hBT
  refine ⟨fun b o hb hn => ?_, (upSlots_L fun b o q => k b o q List.not_mem_nil).trans d1, newE, newD, ne, a1 _ _ hdB, ⟨ws, T, oT, ts, he', h1', hGT, hTe, hTd, hT', hdT, h3⟩, ⟨_, b1.2.2⟩⟩
  by_cases hbL : b = L
  · rw [hbL, hGL] at hb; cases hb
  · refine a1 _ _ (hideAll_get _ (k b o hb List.not_mem_nil) fun hm => ?_)
    rcases List.mem_cons.mp hm with z | hm
    · rw [z, newE] at hb; cases hb
    · obtain ⟨env, hen, hfe⟩ := List.mem_filterMap.mp hm
      rcases List.mem_cons.mp hen with rfl | hen
      · exact hbL (Option.some.inj hfe).symm
      · exact hn (List.mem_filterMap.mpr ⟨env, hen, hfe⟩)
end

noncomputable def sdAt (r : Nat) (P : Params) (t u : Nat → Tok) : Obj := match r with
  | 0 => sd_m P t u
  | 1 => sd_m0 P t u
  | 2 => sd_m1 P t u
  | 3 => sd_n P t u
  | _ => sd_w P t u
noncomputable def pathAt : Nat → String
  | 0 => "top.m"
  | 1 => "top.m[0]"
  | 2 => "top.m[1]"
  | 3 => "top.n"
  | _ => "top.g.w"
noncomputable def widthAt : Nat → Nat
  | 0 => 4
  | 1 => 2
  | 2 => 1
  | 3 => 3
  | _ => 2
theorem sdAt_is (r : Nat) (hr : r < 5) (P : Params) (t u : Nat → Tok) : ∃ kind width sgn msb lsb first last, sdAt r P t u = sdOf P t u r (pathAt r) kind width sgn msb lsb first last (20 + r) := by
  match r, hr with
  | 0, _ => exact ⟨_, _, _, _, _, _, _, rfl⟩
  | 1, _ => exact ⟨_, _, _, _, _, _, _, rfl⟩
  | 2, _ => exact ⟨_, _, _, _, _, _, _, rfl⟩
  | 3, _ => exact ⟨_, _, _, _, _, _, _, rfl⟩
  | 4, _ => exact ⟨_, _, _, _, _, _, _, rfl⟩
theorem sname_spec {w : World} {A : Around} {s : Shared} {base : Heap} {outer : List Env} {mean : ExcName → Option Value} {mg mb : Str → Option Value} {R : Result → Shared → Prop}
    {sg sd : Addr} {t u : Nat → Tok} {r bit : Nat} {tb : Tok}
    (B : Below A base outer s.heap) (XB : (Mine.hd.heap_39 w.params).In base) (TB : Top Mine.hd.view_39 (looseW Mine.hd.view_39 [Str.ofString "GateloomError"]) mean mg mb base) (hroom : A.depth < 850)
    (hr : r < 4) (hsg : s.heap.get? sg = some (instObj 176 sd)) (hsd : s.heap.get? sd = some (sdAt r w.params t u)) (og : Own base outer sg) (od : Own base outer sd) (hbit : bit < widthAt r)
    (hR : ∀ h' tk' tr, Kept [] s.heap h' → R (.ok (.ret (.str (Str.ofString (nameAt r bit)) tr))) { s with heap := h', toks := tk' }) :
    codeAny (model PySem.Challenge.rw_sj0046_01.row.prog w) A (.call (.ref 103) ⟨[.ref sg, .int bit tb], []⟩) R s := by
  have hb : base.get? sg = none ∧ base.get? sd = none := ⟨og.1, od.1⟩
  have hf : ∀ env ∈ outer, env.frame ≠ some sg ∧ env.frame ≠ some sd := fun env he => ⟨og.2 env he, od.2 env he⟩
  have hR' : ∀ h' tk' tr x, x = Str.ofString (nameAt r bit) → Kept [] s.heap h' → R (.ok (.ret (.str x tr))) { s with heap := h', toks := tk' } := fun h' tk' tr x e k => by
    subst e
    exact hR h' tk' tr k
  match r, hr, hsd, hbit, hR' with
  | 0, _, hsd, hbit, hR' => exact sname_m B XB TB hroom hsg hsd hb hf (by change bit < 4 at hbit; lia) hR'
  | 1, _, hsd, hbit, hR' => exact sname_m0 B XB TB hroom hsg hsd hb hf (by change bit < 2 at hbit; lia) hR'
  | 2, _, hsd, hbit, hR' => exact sname_m1 B XB TB hroom hsg hsd hb hf (by change bit < 1 at hbit; lia) hR'
  | 3, _, hsd, hbit, hR' => exact sname_n B XB TB hroom hsg hsd hb hf (by change bit < 3 at hbit; lia) hR'
structure Hid (p : Prop) : Prop where
  get : p
theorem Fr.kept {g h h' : Heap} {L : Addr} {m : Str → Option Value} (F : Fr g L h m) (k : ∀ b o, h.get? b = some o → h'.get? b = some o) : Fr g L h' m :=
  ⟨let ⟨o, es, ep, ho, r⟩ := F.ns; ⟨o, es, ep, k _ _ ho, r⟩, fun b o e => k b o (F.keep b o e), F.above⟩
theorem fr_ne {g h : Heap} {L a : Addr} {m : Str → Option Value} (F : Fr g L h m) (n : h.get? a = none) : a ≠ L := fun e => by
  obtain ⟨o, _, _, ho, _⟩ := F.ns
  rw [e, ho] at n
  cases n
theorem kept_all {h g h' : Heap} {L : Addr} {sub news : List (Addr × Obj)} (hg1 : ∀ b o, h.get? b = some o → b ∉ sub.map (·.1) → g.get? b = some o) (k : g.StaysIn h') (N : News g L h' news) (hq : ∀ q ∈ sub, h.get? q.1 = some q.2) (hs : ∀ q ∈ sub, q ∈ news) : Kept [] h h' :=
  kept_end hg1 k fun q hm => .inr (same_end (hq q hm) (N q (hs q hm)).1)
theorem Kept.get {h h' : Heap} (k : Kept [] h h') {a : Addr} {o : Obj} (e : h.get? a = some o) : h'.get? a = some o := k a o e List.not_mem_nil
theorem TabObj.kept {w : World} {h h' : Heap} {od : Obj} {xs : TX} (T : TabObj w h od xs) (k : Kept [] h h') : TabObj w h' od xs := T.keeps fun _ _ e => k.get e
theorem listAt {h : Heap} {a : Addr} {its : Array Value} {n : Nat} (e : h.get? a = some (PySem.W.listOf its n)) : h.IsList a its := ⟨_, e, rfl, n, rfl⟩
theorem idx_nat {its : Array Value} {r : Nat} {x : Value} (e : its[r]? = some x) : its[((r : Int)).toNat]? = some x := by rw [Int.toNat_natCast]; exact e
noncomputable abbrev SK (w : World) := strKind PySem.Challenge.rw_sj0046_01.row.prog w
noncomputable abbrev IK (w : World) := intKind PySem.Challenge.rw_sj0046_01.row.prog w
noncomputable def DObj {prog : Program} {w : World} {K : Type} [DecidableEq K] (knd : KeyKind prog w K) (o : Obj) (kvs : List (K × Value)) : Prop :=
  ∃ es ep, o.ExactDict ∧ o.data = .dict es ep ∧ KeysOf knd es ∧ Pairs knd es.toList kvs ∧ (kvs.map (·.1)).Nodup
theorem DObj.at {prog : Program} {w : World} {K : Type} [DecidableEq K] {knd : KeyKind prog w K} {o : Obj} {kvs : List (K × Value)} {h : Heap} {d : Addr} (D : DObj knd o kvs) (ho : h.get? d = some o) : h.DictOf knd d kvs :=
  let ⟨es, ep, r⟩ := D; ⟨o, es, ep, ho, r⟩
theorem DObj.of {prog : Program} {w : World} {K : Type} [DecidableEq K] {knd : KeyKind prog w K} {kvs : List (K × Value)} {h : Heap} {d : Addr} (D : h.DictOf knd d kvs) : ∃ o, h.get? d = some o ∧ DObj knd o kvs :=
  let ⟨o, es, ep, ho, r⟩ := D; ⟨o, ho, es, ep, r⟩

noncomputable abbrev ddOf (P : Params) (t : Nat → Tok) (v : Nat → Value) (sl : Addr) : Obj :=
  dictOf [ent P "signals" (t 0) (.ref sl), ent P "assigns" (t 1) (v 1), ent P "gates" (t 2) (v 2), ent P "udps" (t 3) (v 3), ent P "processes" (t 4) (v 4), ent P "routines" (t 5) (v 5), ent P "scopes" (t 6) (v 6), ent P "tops" (t 7) (v 7), ent P "ports" (t 8) (v 8), ent P "maker" (t 9) (v 9), ent P "nesting" (t 10) (v 10), ent P "by_path" (t 11) (v 11)] 12

structure Adr where
  wr : Addr
  wd : Addr
  D : Addr
  I : Addr
  M : Addr
  nl : Addr
  nd : Addr
  nc : Addr
  ds : Addr
  dd : Addr
  sl : Addr
  tw : Nat → Tok
  tn : Nat → Tok
  td : Nat → Tok
  vw : Nat → Value
  vn : Nat → Value
  vd : Nat → Value
  its : Array Value
  sn : Nat
  st : Nat → List Int

noncomputable def EsOf (P : Params) (kd dt : Str) (at_ : Int) (es : List DictEntry) : Prop :=
  ∃ u1 t1 u2 t2 u3 t3, es = [⟨PyData.keyHash P (Str.ofString "kind"), .str (Str.ofString "kind") u1, .str kd t1⟩, ⟨PyData.keyHash P (Str.ofString "at"), .str (Str.ofString "at") u2, .int at_ t2⟩, ⟨PyData.keyHash P (Str.ofString "detail"), .str (Str.ofString "detail") u3, .str dt t3⟩]

structure Gear (w : World) (base : Heap) (outer : List Env) (h : Heap) (a : Adr) : Prop where
  wr : h.get? a.wr = some (instObj 85 a.wd)
  wd : h.get? a.wd = some (wdOf w.params a.tw a.vw a.D a.I a.M)
  nl : h.get? a.nl = some (instObj 316 a.nd)
  ds : h.get? a.ds = some (instObj 239 a.dd)
  dd : h.get? a.dd = some (ddOf w.params a.td a.vd a.sl)
  sl : h.get? a.sl = some (PySem.W.listOf a.its a.sn)
  sigs : ∀ r : Nat, r < 5 → ∃ sg sd ts us, a.its[r]? = some (.ref sg) ∧ h.get? sg = some (instObj 176 sd) ∧ h.get? sd = some (sdAt r w.params ts us) ∧ Own base outer sg ∧ Own base outer sd
  ini : ∃ oi kvs, h.get? a.I = some oi ∧ DObj (IK w) oi kvs ∧ ∀ r : Nat, r < 5 → ∃ il ins m, valueAt kvs (r : Int) = some (.ref il) ∧ h.get? il = some (PySem.W.listOf ins m) ∧ PyProof.Rows.IntsAre ins.toList (a.st r) ∧ (a.st r).length = widthAt r
  o_wr : Own base outer a.wr
  o_wd : Own base outer a.wd
  o_nl : Own base outer a.nl
  o_ds : Own base outer a.ds
  o_dd : Own base outer a.dd
  o_D : Own base outer a.D
  o_M : Own base outer a.M
  o_nd : Own base outer a.nd
  o_nc : Own base outer a.nc
  n_wr_wd : a.wr ≠ a.wd
  n_wr_nl : a.wr ≠ a.nl
  n_wr_D : a.wr ≠ a.D
  n_wr_M : a.wr ≠ a.M
  n_wr_nd : a.wr ≠ a.nd
  n_wr_nc : a.wr ≠ a.nc
  n_wd_nl : a.wd ≠ a.nl
  n_wd_D : a.wd ≠ a.D
  n_wd_M : a.wd ≠ a.M
  n_wd_nd : a.wd ≠ a.nd
  n_wd_nc : a.wd ≠ a.nc
  n_nl_D : a.nl ≠ a.D
  n_nl_M : a.nl ≠ a.M
  n_nl_nd : a.nl ≠ a.nd
  n_nl_nc : a.nl ≠ a.nc
  n_D_M : a.D ≠ a.M
  n_D_nd : a.D ≠ a.nd
  n_D_nc : a.D ≠ a.nc
  n_M_nd : a.M ≠ a.nd
  n_M_nc : a.M ≠ a.nc
  n_nd_nc : a.nd ≠ a.nc
  n_I_M : a.I ≠ a.M
  n_dd_D : a.dd ≠ a.D
  n_dd_M : a.dd ≠ a.M
  n_dd_nd : a.dd ≠ a.nd
  sys : (a.D == sysModules) = false ∧ (a.M == sysModules) = false ∧ (a.I == sysModules) = false

theorem ne_tup {h : Heap} {a b : Addr} {o o' : Obj} (e : h.get? a = some o) (e' : h.get? b = some o') (c : o.cls = .type "tuple") (c' : o'.cls ≠ .type "tuple") : a ≠ b := fun q => by
  have q : a = b := q
  rw [q, e'] at e
  cases e
  exact c' c
theorem led_kept {S : List Addr} {g h h' : Heap} {L : Addr} {m : Str → Option Value} (k : Kept S h h') (F : Fr g L h m) (hS : ∀ a ∈ S, g.get? a = none ∧ a ≠ L) : Fr g L h' m :=
  ⟨let ⟨o, es, ep, ho, r⟩ := F.ns; ⟨o, es, ep, k _ _ ho fun q => (hS _ q).2 rfl, r⟩, fun b o e => k b o (F.keep b o e) fun q => (by rw [(hS _ q).1] at e; cases e), F.above⟩
theorem news_kept {S : List Addr} {g h h' : Heap} {L : Addr} {news news' : List (Addr × Obj)} (k : Kept S h h') (N : News g L h news) (hn : ∀ q ∈ news', (q ∈ news ∧ q.1 ∉ S) ∨ (h'.get? q.1 = some q.2 ∧ ∃ o, (q.1, o) ∈ news)) : News g L h' news' := fun q hq => by
  rcases hn q hq with ⟨a, b⟩ | ⟨a, o, b⟩
  · exact ⟨k _ _ (N q a).1 b, (N q a).2⟩
  · exact ⟨a, (N _ b).2⟩
theorem ints_at : ∀ {vs : List Value} {l : List Int} {i : Nat}, PyProof.Rows.IntsAre vs l → i < l.length → ∃ t, vs[i]? = some (.int (l.getD i 0) t)
  | _, _, _, .nil, h => absurd h (Nat.not_lt_zero _)
  | _, _, 0, .cons _ _ _, _ => ⟨_, rfl⟩
  | _, _, i + 1, .cons _ _ r, h => by simpa using ints_at (i := i) r (by simpa using h)
theorem TabObj.kept' {S : List Addr} {w : World} {h h' : Heap} {od : Obj} {xs : TX} (T : TabObj w h od xs) (k : Kept S h h') (hS : ∀ a ∈ S, ∃ o, h.get? a = some o ∧ o.cls ≠ .type "tuple") : TabObj w h' od xs := T.cut fun x _ o ho hc => k _ _ ho fun m => by
  obtain ⟨o', e, c⟩ := hS _ m
  rw [e] at ho
  cases ho
  exact c hc
theorem ne_list {h : Heap} {a b : Addr} {o o' : Obj} (e : h.get? a = some o) (e' : h.get? b = some o') (c : o.cls = .type "list") (c' : o'.cls ≠ .type "list") : a ≠ b := fun q => by
  have q : a = b := q
  rw [q, e'] at e
  cases e
  exact c' c
theorem no_list_dict (h : Value.type "dict" = .type "list") : False := by
  injection h with h
  exact absurd h (by decide)
theorem kept_but {S : List Addr} {h g h' : Heap} {L : Addr} {sub news : List (Addr × Obj)} (hg1 : ∀ b o, h.get? b = some o → b ∉ sub.map (·.1) → g.get? b = some o) (k : g.StaysIn h') (N : News g L h' news) (hq : ∀ q ∈ sub, h.get? q.1 = some q.2) (hs : ∀ q ∈ sub, q.1 ∈ S ∨ q ∈ news) : Kept S h h' :=
  kept_end hg1 k fun q hm => (hs q hm).imp id fun z => same_end (hq q hm) (N q z).1
theorem ne_cls {h : Heap} {a b : Addr} {o o' : Obj} (e : h.get? a = some o) (e' : h.get? b = some o') (c : o.cls ≠ o'.cls) : a ≠ b := fun q => by
  have q : a = b := q
  rw [q, e'] at e
  cases e
  exact c rfl
theorem no_ref_dict {a : Addr} : Value.ref a ≠ .type "dict" := fun h => by cases h
theorem no_ref_list {a : Addr} : Value.ref a ≠ .type "list" := fun h => by cases h
theorem no_dict_list : Value.type "dict" ≠ .type "list" := fun h => by
  injection h with h
  exact absurd h (by decide)
theorem widthAt_le : ∀ r, widthAt r ≤ 4
  | 0 => Nat.le_refl _
  | 1 => by decide
  | 2 => by decide
  | 3 => by decide
  | _ + 4 => by show 2 ≤ 4; decide
theorem none_back {S : List Addr} {h h' : Heap} (k : Kept S h h') (hS : ∀ a ∈ S, ∃ o, h'.get? a = some o) {x : Addr} (n : h'.get? x = none) : h.get? x = none := by
  cases q : h.get? x with
  | none => rfl
  | some o =>
    by_cases m : x ∈ S
    · obtain ⟨o', e⟩ := hS x m
      rw [n] at e; cases e
    · rw [k x o q m] at n; cases n
theorem nk {S : List Addr} {g h h' : Heap} {L a : Addr} {o : Obj} (k : Kept S h h') (z : h.get? a = some o ∧ a ≠ L ∧ g.get? a = none) (n : a ∉ S) : h'.get? a = some o ∧ a ≠ L ∧ g.get? a = none := ⟨k _ _ z.1 n, z.2⟩
theorem nm2 {a b c : Addr} (x : a ≠ b) (y : a ≠ c) : a ∉ [b, c] := fun m => by
  rcases List.mem_cons.mp m with e | m
  · exact x e
  · exact y (List.mem_singleton.mp m)
theorem nm1 {a b : Addr} (x : a ≠ b) : a ∉ [b] := fun m => x (List.mem_singleton.mp m)
theorem nm3 {a b c d : Addr} (x : a ≠ b) (y : a ≠ c) (z : a ≠ d) : a ∉ [b, c, d] := fun m => by
  rcases List.mem_cons.mp m with e | m
  · exact x e
  · exact nm2 y z m
theorem ne_none {h : Heap} {a b : Addr} {o : Obj} (n : h.get? a = none) (e : h.get? b = some o) : a ≠ b := fun q => by
  rw [q, e] at n
  cases n
theorem all_objs (h : Heap) (P : Addr → Prop) : ∃ l : List (Addr × Obj), (∀ q ∈ l, h.get? q.1 = some q.2 ∧ P q.1) ∧ ∀ b o, h.get? b = some o → P b → (b, o) ∈ l := by
  suffices z : ∀ n : Nat, ∃ l : List (Addr × Obj), (∀ q ∈ l, h.get? q.1 = some q.2 ∧ P q.1) ∧ ∀ b o, (b : Nat) < n → h.get? b = some o → P b → (b, o) ∈ l by
    obtain ⟨l, a, b⟩ := z h.objs.size
    exact ⟨l, a, fun x o e p => b x o (Heap.lt_size e) e p⟩
  intro n
  induction n with
  | zero => exact ⟨[], fNm _, fun b o x => absurd x (Nat.not_lt_zero _)⟩
  | succ n ih =>
    obtain ⟨l, a, b⟩ := ih
    by_cases hc : ∃ o, h.get? n = some o ∧ P n
    · obtain ⟨o, e, p⟩ := hc
      refine ⟨(n, o) :: l, fCm ⟨⟨e, p⟩, a⟩, fun x o' y e' p' => ?_⟩
      rcases Nat.lt_succ_iff_lt_or_eq.mp y with y | y
      · exact .tail _ (b x o' y e' p')
      · have y : x = n := y
        subst y
        rw [e] at e'
        cases e'
        exact .head _
    · refine ⟨l, a, fun x o' y e' p' => ?_⟩
      rcases Nat.lt_succ_iff_lt_or_eq.mp y with y | y
      · exact b x o' y e' p'
      · have y : x = n := y
        subst y
        exact absurd ⟨o', e', p'⟩ hc

noncomputable def NA (g : Heap) (L : Addr) (h : Heap) (a : Addr) (o : Obj) : Prop := h.get? a = some o ∧ a ≠ L ∧ g.get? a = none
theorem NA.kept {g h h' : Heap} {L a : Addr} {o : Obj} (x : NA g L h a o) (k : Kept [L] h h') : NA g L h' a o := ⟨k _ _ x.1 (nm1 x.2.1), x.2⟩
theorem NA.of {g h : Heap} {L a : Addr} {o : Obj} {news : List (Addr × Obj)} (N : News g L h news) (m : (a, o) ∈ news) : NA g L h a o := N _ m

section
variable {prog : Program} {w : World} {A : Around} {s : Shared} {base : Heap} {outer : List Env} {K : Frag}
  {p : Program} {loose : List Str} {mean : ExcName → Option Value} {mg mb : Str → Option Value}
  {R : Result → Shared → Prop} {name qual : Str} {params : Arguments} {body : List Stmt} {scope : Scope} {dV kV doc pm cdv ct oc : Value} {an od : Option Addr} {osl : Array (Option Value)} {f : Addr} {args : Args} {binds : List (Str × Value)}

theorem enter_all (B : Below A base outer s.heap) (XB : K.In base) (TB : Top p loose mean mg mb base)
    (ho : K.lookup f = some ⟨oc, od, .func (fnOf name qual params body scope dV kV doc pm an cdv ct), osl⟩) (hcd : codeIn K cdv qual = true) (hroom : A.depth < recursionLimit)
    (hbind : BindsTo s (fnOf name qual params body scope dV kV doc pm an cdv ct) args binds) (hloc : ∀ y ∈ binds, scope.names.lookup y.1 = some .local)
    (h : ∀ g L h₁, (∀ b o, g.get? b = some o → s.heap.get? b = some o) → (∀ b, Own base outer b → g.get? b = none) → L = s.heap.objs.size → Kept [] s.heap h₁ → Fr g L h₁ (fun y => binds.reverse.lookup y) →
      Below A base outer g → K.In g → Top p loose mean mg mb g →
      wpAny (model prog w) (A.deeper (envOf qual scope L f cdv)) (execs body (envOf qual scope L f cdv))
        (fun fl s' => R (.ok (.ret (match fl with | .ret v => v | _ => .none))) s')
        (fun e s' => wpAny (model prog w) (A.deeper (envOf qual scope L f cdv)) (leaving (envOf qual scope L f cdv) e) (fun _ s'' => R (.error e) s'') (fun e' s'' => R (.error e') s'') s')
        { s with heap := h₁, toks := s.toks + binds.length })
    (hco : scope.isCoroutine = false) (hgen : scope.isGenerator = false) (hk : scope.kind = .function)
    (hcell : ∀ x ∈ scope.names, x.2 ≠ .cell) : codeAny (model prog w) A (.call (.ref f) args) R s := by
  obtain ⟨l, l1, l2⟩ := all_objs s.heap (Own base outer)
  refine enter l B XB TB (fun q m => (l1 q m).1) (fun q m => (l1 q m).2.1) (fun env he q m => (l1 q m).2.2 env he) ho hcd hroom hbind hloc (fun g L h₁ g1 g2 hL F N B' X' T' => ?_) hco hgen hk hcell
  refine h g L h₁ g2 (fun b ob => ?_) hL (kept_all g1 F.keep N (fun q m => (l1 q m).1) fun q m => m) F B' X' T'
  cases q : g.get? b with
  | none => rfl
  | some o => rw [(N _ (l2 b o (g2 b o q) ob)).2.2] at q; cases q
end

theorem NA.own {A : Around} {base g h : Heap} {outer : List Env} {L a f : Addr} {o : Obj} {name : Str} {scope : Scope} {cd : Value} (x : NA g L h a o) (B : Below A base outer g) : Own base (envOf name scope L f cd :: outer) a :=
  (Own.fresh B x.2.2).frame x.2.1
theorem NA.mine {g h : Heap} {L a : Addr} {o : Obj} {base : Heap} {outer : List Env} (e : h.get? a = some o) (ow : Own base outer a) (hg : ∀ b, Own base outer b → g.get? b = none) (n : a ≠ L) : NA g L h a o := ⟨e, n, hg a ow⟩

noncomputable def Rest (g : Heap) (L : Addr) (h : Heap) (S : List Addr) (rest : List (Addr × Obj)) : Prop := (∀ b o, h.get? b = some o → b ≠ L → g.get? b = none → b ∉ S → (b, o) ∈ rest) ∧ (∀ b o, g.get? b = some o → h.get? b = some o)
theorem see {g h : Heap} {L : Addr} {m : Str → Option Value} (F : Fr g L h m) (vis : List (Addr × Obj)) (hv : ∀ q ∈ vis, NA g L h q.1 q.2) :
    ∃ rest, News g L h (vis ++ rest) ∧ Hid (Rest g L h [] rest) := by
  obtain ⟨l, l1, l2⟩ := all_objs h fun b => b ≠ L ∧ g.get? b = none
  exact ⟨l, fun q m => (List.mem_append.mp m).elim (hv q) fun m => ⟨(l1 q m).1, (l1 q m).2⟩, ⟨fun b o e n n' _ => l2 b o e ⟨n, n'⟩, F.keep⟩⟩
theorem see_mut {g h : Heap} {L : Addr} {m : Str → Option Value} (F : Fr g L h m) (vis mv : List (Addr × Obj)) (hv : ∀ q ∈ vis, NA g L h q.1 q.2) (hm : ∀ q ∈ mv, NA g L h q.1 q.2) :
    ∃ rest, News g L h (vis ++ (mv ++ rest)) ∧ (∀ a ∈ mv.map (·.1), ∀ q ∈ rest, q.1 ≠ a) ∧ Hid (Rest g L h (mv.map (·.1)) rest) := by
  obtain ⟨l, l1, l2⟩ := all_objs h fun b => b ≠ L ∧ g.get? b = none ∧ b ∉ mv.map (·.1)
  exact ⟨l, fun q m => (List.mem_append.mp m).elim (hv q) fun m => (List.mem_append.mp m).elim (hm q) fun m => ⟨(l1 q m).1, (l1 q m).2.1, (l1 q m).2.2.1⟩, fun a ha q hq e => (l1 q hq).2.2.2 (e ▸ ha), ⟨fun b o e n n' x => l2 b o e ⟨n, n', x⟩, F.keep⟩⟩
theorem seen_mut {g h h' : Heap} {L : Addr} {m' : Str → Option Value} {rest : List (Addr × Obj)} {S : List Addr} (H : Hid (Rest g L h S rest)) (F' : Fr g L h' m') (N : ∀ q ∈ rest, h'.get? q.1 = some q.2) : Kept (L :: S) h h' := fun b o e n => by
  have n1 : b ≠ L := fun q => n (q ▸ .head _)
  cases q : g.get? b with
  | none => exact N _ (H.get.1 b o e n1 q fun m => n (.tail _ m))
  | some o' =>
    have := H.get.2 b o' q
    rw [e] at this
    cases this
    exact F'.keep b o q
theorem seen {g h h' : Heap} {L : Addr} {m' : Str → Option Value} {rest : List (Addr × Obj)} (H : Hid (Rest g L h [] rest)) (F' : Fr g L h' m') (N : ∀ q ∈ rest, h'.get? q.1 = some q.2) : Kept [L] h h' := seen_mut H F' N
theorem NA.but {g h h' : Heap} {L a : Addr} {o : Obj} {S : List Addr} (x : NA g L h a o) (k : Kept S h h') (n : a ∉ S) : NA g L h' a o := ⟨k _ _ x.1 n, x.2⟩
theorem NA.ofNew {g h h' : Heap} {L a : Addr} {o : Obj} {m : Str → Option Value} (F : Fr g L h m) (n : h.get? a = none) (e : h'.get? a = some o) : NA g L h' a o := by
  refine ⟨e, fr_ne F n, ?_⟩
  cases q : g.get? a with
  | none => rfl
  | some x => rw [F.keep _ _ q] at n; cases n
theorem Kept.thru {h0 h1 h2 : Heap} {S : List Addr} (k : Kept [] h0 h1) (k' : Kept S h1 h2) (hS : ∀ a ∈ S, h0.get? a = none) : Kept [] h0 h2 := fun b o e _ => k' b o (k.get e) fun m => by
  rw [hS b m] at e; cases e
theorem Kept.one {h h' : Heap} {S : List Addr} (k : Kept [] h h') : Kept S h h' := fun b o e _ => k.get e
theorem allLt_mem {d : Addr} : ∀ {l : List (Addr × Obj)}, AllLt d l → ∀ q ∈ l, @LT.lt Nat _ q.1 d
  | [], _, _, m => absurd m List.not_mem_nil
  | _ :: _, h, _, m => by
    rcases List.mem_cons.mp m with rfl | m
    · exact h.1
    · exact allLt_mem h.2 _ m
theorem fresh_new {g h h0 : Heap} {L a : Addr} {rest : List (Addr × Obj)} (H : Hid (Rest g L h [] rest)) (l1 : ∀ q ∈ rest, @LT.lt Nat _ q.1 a) (k : Kept [] h0 h) (hL : L = h0.objs.size) (hg : g.get? a = none) : h0.get? a = none := by
  cases q : h0.get? a with
  | none => rfl
  | some o =>
    have e := k.get q
    exact absurd (l1 _ (H.get.1 a o e (fun z => by rw [z, hL] at q; exact Nat.lt_irrefl _ (Heap.lt_size q)) hg List.not_mem_nil)) (Nat.lt_irrefl _)
section
variable {prog : Program} {w : World} {A : Around} {s : Shared} {base : Heap} {outer : List Env} {K : Frag}
  {p : Program} {loose : List Str} {mean : ExcName → Option Value} {mg mb : Str → Option Value}
  {R : Result → Shared → Prop} {name qual : Str} {params : Arguments} {body : List Stmt} {scope : Scope} {dV kV doc pm cdv ct oc : Value} {an od : Option Addr} {osl : Array (Option Value)} {f : Addr} {args : Args} {binds : List (Str × Value)}
theorem enterC (sub : List (Addr × Obj)) (B : Below A base outer s.heap) (XB : K.In base) (TB : Top p loose mean mg mb base)
    (hsub : ∀ q ∈ sub, s.heap.get? q.1 = some q.2) (hsb : ∀ q ∈ sub, base.get? q.1 = none) (hsf : ∀ env ∈ outer, ∀ q ∈ sub, env.frame ≠ some q.1)
    (ho : K.lookup f = some ⟨oc, od, .func (fnOf name qual params body scope dV kV doc pm an cdv ct), osl⟩) (hcd : codeIn K cdv qual = true) (hroom : A.depth < recursionLimit)
    (hbind : BindsTo s (fnOf name qual params body scope dV kV doc pm an cdv ct) args binds) (hkind : (binds.all fun y => scope.names.lookup y.1 == some .local || scope.names.lookup y.1 == some .cell) = true)
    (hnd : ((cellsFrom 0 scope.names []).map (·.1)).Nodup)
    (h : ∀ g L h₁ tk cells, (∀ b o, s.heap.get? b = some o → b ∉ sub.map (·.1) → g.get? b = some o) → (∀ b o, g.get? b = some o → s.heap.get? b = some o) → L = s.heap.objs.size → Fr g L h₁ (bindL (envOfC qual scope L f cdv).kindOf binds fun _ => none) → News g L h₁ (cells ++ sub) →
      CellsAre (bindC (envOfC qual scope L f cdv).kindOf binds fun _ => none) (cellsFrom (L + 1) scope.names []) cells → (∀ q ∈ cells, s.heap.get? q.1 = none) → Below A base outer g → K.In g → Top p loose mean mg mb g →
      wpAny (model prog w) (A.deeper (envOfC qual scope L f cdv)) (execs body (envOfC qual scope L f cdv))
        (fun fl s' => R (.ok (.ret (match fl with | .ret v => v | _ => .none))) s')
        (fun e s' => wpAny (model prog w) (A.deeper (envOfC qual scope L f cdv)) (leaving (envOfC qual scope L f cdv) e) (fun _ s'' => R (.error e) s'') (fun e' s'' => R (.error e') s'') s')
        { s with heap := h₁, toks := tk })
    (hco : scope.isCoroutine = false) (hgen : scope.isGenerator = false) (hk : scope.kind = .function) : codeAny (model prog w) A (.call (.ref f) args) R s := by
  have X := XB.keeps B.stays
  refine codeAny_call_function hroom (X _ _ ho) rfl hco hgen rfl (codeRec_of X hcd) (hbind _ _ _ _ ?_)
  refine wpAny_newFunctionEnv_cells hk (kindsX hkind _) fun env' he s' x => ?_
  subst he
  have hlim := TB.nolimit.keeps B.stays
  refine ⟨hlim.keeps x.toInCall.keep, codeAny_func ?_⟩
  obtain ⟨h₁, tk, rfl, _⟩ := x.done
  have hk₁ := x.toInCall.keep
  obtain ⟨cells, NC, Y⟩ := Cl.news (h₀ := s.heap) (Nat.le_refl _) fun n c hm => ⟨x.cell n c (lookup_of_mem_nodup (cellsFrom_names scope.names 0 (s.heap.objs.size + 1) [] [] rfl ▸ hnd) hm), x.above n c hm⟩
  have st : base.StaysIn (hideAll s.heap (sub.map (·.1))) := fun b o e => hideAll_get _ (B.stays b o e) fun q => by
    obtain ⟨z, hz, rfl⟩ := List.mem_map.mp q
    rw [hsb z hz] at e; cases e
  have X' := XB.keeps st
  have T' := TB.keeps st
  refine h (hideAll s.heap (sub.map (·.1))) _ h₁ tk cells (fun b o e n => hideAll_get _ e n) (fun b o e => of_hideAll _ e) rfl ⟨x.toInCall.ns, fun b o e => hk₁ b o (of_hideAll _ e), Nat.le_of_eq (hideAll_size _ _)⟩ (fun q hq => ?_) Y (fun q hq => (NC q hq).2.2)
    ⟨B.stack, st, funFrames_hideAll B.frames fun env he b hb hf => ?_⟩ X' T'
  · rcases List.mem_append.mp hq with hq | hq
    · refine ⟨(NC q hq).1, (NC q hq).2.1, ?_⟩
      cases z : (hideAll s.heap (sub.map (·.1))).get? q.1 with
      | none => rfl
      | some o => have := of_hideAll _ z; rw [(NC q hq).2.2] at this; cases this
    · exact ⟨hk₁ _ _ (hsub q hq), Nat.ne_of_lt (Heap.lt_size (hsub q hq)), hideAll_none _ (List.mem_map_of_mem hq)⟩
  · obtain ⟨z, hz, rfl⟩ := List.mem_map.mp hb
    exact hsf env he z hz hf
end
section
variable {prog : Program} {w : World} {A : Around} {E : Value → Shared → Prop} {s : Shared} {env : Env} {Q : Flow → Shared → Prop}
structure Back (s₂ : Shared) (P : Heap → Prop) (s₄ : Shared) : Prop where
  ex : ∃ h' tk', s₄ = { s₂ with heap := h', toks := tk' } ∧ P h'
noncomputable def LoopOwn (prog : Program) (w : World) (A : Around) (env : Env) (target : Expr) (body : List Stmt) (Q : Flow → Shared → Prop) (E : Value → Shared → Prop) (it : Value) (s₂ : Shared) : Prop :=
  ∃ (I : Addr) (fp wr : List Addr) (n : Nat) (P : Nat → Value → Prop) (St : Nat → Heap → Prop) (J : Nat → Heap → Prop),
    it = .ref I ∧ Walks prog w A I fp wr n P St ∧ St 0 s₂.heap ∧ J 0 s₂.heap ∧
    (∀ (i : Nat) (v : Value) (s : Shared) (E' : Value → Shared → Prop) (Q' : Unit → Shared → Prop), St i s.heap → Q' () s → wpAny (model prog w) A (letOwnedTupleGo target (.ref I) v) Q' E' s) ∧
    (∀ i v h h₁ tk₁, i < n → P i v → J i h → St (i + 1) h₁ → Kept wr h h₁ →
      wpAny (model prog w) A (assign target env v) (fun _ s₃ => wpAny (model prog w) A (execs body env) (fun f s₄ => match f with
        | .ret v => Q (.ret v) s₄
        | .brk => Q .next s₄
        | _ => Back s₂ (fun h' => J (i + 1) h' ∧ St (i + 1) h') s₄) E s₃) E { s₂ with heap := h₁, toks := tk₁ }) ∧
    ∀ h h₁ tk₁, J n h → Kept wr h h₁ → Q .next { s₂ with heap := h₁, toks := tk₁ }
theorem For_own {target iter : Expr} {body : List Stmt} {pos : Pos}
    (h : wpAny (model prog w) A (eval iter env) (fun xv s₁ => wpAny (model prog w) A (pyIter xv) (fun it s₂ => LoopOwn prog w A env target body Q E it s₂) E s₁) E s)
    (hs : ∀ x, foldedSetIterable iter env x = pure x) (hE : PassesOwn (model prog w) A env E) : wpAny (model prog w) A (exec (.For target iter body [] pos) env) Q E s := by
  refine wpAny_For (wpAny_mono h (fun xv s₁ h₁ => wpAny_mono h₁ (fun it s₂ h₂ => ?_) fun _ _ e => e) fun _ _ e => e) hs
  obtain ⟨I, fp, wr, n, P, St, J, rfl, W, hst, hJ, hgo, step, hQ⟩ := h₂
  refine codeAny_forLoop_any (fun k s' => ∃ h' tk' i, s' = { s₂ with heap := h', toks := tk' } ∧ J i h' ∧ St i h' ∧ i ≤ n ∧ k = n + 1 - i) ?_ (n + 1) ⟨s₂.heap, s₂.toks, 0, rfl, hJ, hst, Nat.zero_le _, rfl⟩
  rintro k s' ⟨h', tk', i, rfl, hJ', hst', hi, rfl⟩
  by_cases hlt : i < n
  · refine W.item i _ _ _ hlt hst' fun v h₁ tk₁ hP hst₁ hk₁ => ?_
    refine hgo (i + 1) v _ _ _ hst₁ ?_
    refine wpAny_passesOwn hE (wpAny_mono (step i v h' h₁ tk₁ hlt hP hJ' hst₁ fun b o e n => hk₁ b o n e) (fun _ s₃ h₃ => ?_) fun _ _ e => e)
    refine wpAny_passesOwn hE (wpAny_mono h₃ (fun f s₄ h₄ => ?_) fun _ _ e => e)
    cases f with
    | ret v => exact h₄
    | brk => exact h₄
    | cont =>
      obtain ⟨⟨h'', tk'', rfl, j1, j2⟩⟩ := h₄
      exact ⟨n + 1 - (i + 1), by lia, h'', tk'', i + 1, rfl, j1, j2, hlt, rfl⟩
    | next =>
      obtain ⟨⟨h'', tk'', rfl, j1, j2⟩⟩ := h₄
      exact ⟨n + 1 - (i + 1), by lia, h'', tk'', i + 1, rfl, j1, j2, hlt, rfl⟩
  · have hin : i = n := by lia
    subst hin
    refine W.done _ _ _ hst' fun h₁ tk₁ hk₁ => wpAny_execs_nil ?_
    exact hQ h' h₁ tk₁ hJ' fun b o e n => hk₁ b o n e
theorem go_name {x : Str} {px : Pos} {it : Value} (v : Value) (s : Shared) (E' : Value → Shared → Prop) (Q' : Unit → Shared → Prop) (h : Q' () s) : wpAny (model prog w) A (letOwnedTupleGo (.Name x px) it v) Q' E' s := wpAny_of_eq (a := ()) rfl h
end
theorem fr_none {g h : Heap} {L a : Addr} {m : Str → Option Value} (F : Fr g L h m) (n : h.get? a = none) : g.get? a = none := by
  cases q : g.get? a with
  | none => rfl
  | some o => rw [F.keep _ _ q] at n; cases n
theorem pin {g h : Heap} {L : Addr} {m : Str → Option Value} (F : Fr g L h m) {x : Str} {v : Value} (e : m x = some v) : Fr g L h (fun y => if y = x then some v else m y) := by
  have : (fun y => if y = x then some v else m y) = m := by
    funext y
    by_cases q : y = x
    · rw [if_pos q, q, e]
    · rw [if_neg q]
  rw [this]; exact F
theorem atKey_mem {K : Type} [DecidableEq K] : ∀ {xs : List (K × Addr × Value)} {y : K × Addr × Value}, y ∈ xs → (xs.map (·.1)).Nodup → atKey xs y.1 = some y.2
  | x :: xs, y, h, n => by
    have n' : x.1 ∉ xs.map (·.1) ∧ (xs.map (·.1)).Nodup := List.nodup_cons.mp n
    unfold atKey
    rw [List.find?_cons]
    rcases List.mem_cons.mp h with rfl | h
    · simp
    · have : x.1 ≠ y.1 := fun e => n'.1 (e ▸ List.mem_map_of_mem h)
      rw [decide_eq_false this]
      exact atKey_mem h n'.2
section
variable {prog : Program} {w : World} {A : Around} {E : Value → Shared → Prop} {s : Shared} {env : Env} {Q : Flow → Shared → Prop} {target : Expr} {body : List Stmt}
noncomputable def Turn (prog : Program) (w : World) (A : Around) (env : Env) (target : Expr) (body : List Stmt) (Q : Flow → Shared → Prop) (E : Value → Shared → Prop) (fp : List Addr) (s : Shared) (J : Heap → Prop) (v : Value) (h₁ : Heap) (tk₁ : Nat) : Prop :=
  wpAny (model prog w) A (assign target env v) (fun _ s₃ => wpAny (model prog w) A (execs body env) (fun f s₄ => match f with
    | .ret v => Q (.ret v) s₄
    | .brk => Q .next s₄
    | _ => Back s (fun h' => J h' ∧ ∀ b ∈ fp, ∀ o, h₁.get? b = some o → h'.get? b = some o) s₄) E s₃) E { s with heap := h₁, toks := tk₁ }
theorem Turn.run {fp : List Addr} {J : Heap → Prop} {St : Heap → Prop} {v : Value} {h₁ : Heap} {tk₁ : Nat} {s₂ : Shared} (hs : ∀ h tk, { s with heap := h, toks := tk } = { s₂ with heap := h, toks := tk }) (fr : ∀ h', (∀ b ∈ fp, ∀ o, h₁.get? b = some o → h'.get? b = some o) → St h') (t : Turn prog w A env target body Q E fp s J v h₁ tk₁) :
    wpAny (model prog w) A (assign target env v) (fun _ s₃ => wpAny (model prog w) A (execs body env) (fun f s₄ => match f with
        | .ret v => Q (.ret v) s₄
        | .brk => Q .next s₄
        | _ => Back s₂ (fun h' => J h' ∧ St h') s₄) E s₃) E { s₂ with heap := h₁, toks := tk₁ } := by
  rw [← hs]
  refine wpAny_mono t (fun _ s₃ h₃ => wpAny_mono h₃ (fun f s₄ h₄ => ?_) fun _ _ e => e) fun _ _ e => e
  cases f with
  | ret v => exact h₄
  | brk => exact h₄
  | cont => obtain ⟨h'', tk'', e, j1, j2⟩ := h₄; exact ⟨h'', tk'', e.trans (hs _ _), j1, fr _ j2⟩
  | next => obtain ⟨h'', tk'', e, j1, j2⟩ := h₄; exact ⟨h'', tk'', e.trans (hs _ _), j1, fr _ j2⟩
theorem loop_list {l : Addr} {its : Array Value} (hh : A.handled = none) (hl : s.heap.IsList l its) (J : Nat → Heap → Prop) (h0 : ∀ o, J 0 (s.heap.push o))
    (step : ∀ i v h h₁ tk₁, its[i]? = some v → J i h → Kept [s.heap.objs.size] h h₁ → Turn prog w A env target body Q E [s.heap.objs.size, l] s (J (i + 1)) v h₁ tk₁)
    (done : ∀ h h₁ tk₁, J its.size h → Kept [s.heap.objs.size] h h₁ → Q .next { s with heap := h₁, toks := tk₁ }) :
    wpAny (model prog w) A (pyIter (.ref l)) (fun it s₂ => LoopOwn prog w A env target body Q E it s₂) E s := by
  obtain ⟨ol, hol, _⟩ := id hl
  refine wpAny_pyIter_list hl ⟨_, _, _, _, _, _, J, rfl, Walks.list hh s.heap.objs.size l (Nat.ne_of_lt (Heap.lt_size hol)) its, ⟨⟨_, Heap.get?_push_size _ rfl, rfl, rfl⟩, hl.at fun o e => Heap.get?_push_of_some _ e⟩, h0 _, fun i v s E' Q' st hq => letGo_listiter st.1 hq, fun i v h h₁ tk₁ hi hP hJ hst k => ?_, fun h h₁ tk₁ hJ k => done h h₁ tk₁ hJ k⟩
  exact Turn.run (s := s) (fp := [s.heap.objs.size, l]) (fun _ _ => rfl) (fun h' kk => ⟨hst.1.at fun o e => kk _ (.head _) o e, hst.2.at fun o e => kk _ (.tail _ (.head _)) o e⟩) (step i v h h₁ tk₁ hP hJ k)
theorem loop_range {r : Addr} {n : Nat} {t u v : Tok} {x : Str} {px : Pos} (hh : A.handled = none) (hr : IsRange s.heap r 0 n 1 t u v) (hn : n < 1000) (J : Nat → Heap → Prop) (h0 : ∀ o, J 0 (s.heap.push o))
    (step : ∀ (i : Nat) t h h₁ tk₁, i < n → J i h → Kept [s.heap.objs.size] h h₁ → Turn prog w A env (.Name x px) body Q E [s.heap.objs.size] s (J (i + 1)) (.int i t) h₁ tk₁)
    (done : ∀ h h₁ tk₁, J n h → Kept [s.heap.objs.size] h h₁ → Q .next { s with heap := h₁, toks := tk₁ }) :
    wpAny (model prog w) A (pyIter (.ref r)) (fun it s₂ => LoopOwn prog w A env (.Name x px) body Q E it s₂) E s := by
  have hz : Builtin.Range.rangeSize 0 n 1 = (n : Int) := by rw [rangeSize_nat]; lia
  refine wpAny_pyIter_range hr (small_one (by lia) (by lia) (by lia) (by lia)) ⟨_, _, _, _, _, _, J, rfl, Walks.range hh s.heap.objs.size 0 1 n, ?_, h0 _, fun i v s E' Q' st hq => go_name v s E' Q' hq, fun i v h h₁ tk₁ hi hP hJ hst k => ?_, fun h h₁ tk₁ hJ k => done h h₁ tk₁ hJ k⟩
  · rw [hz]
    show Heap.get? _ _ = _
    rw [Heap.get?_push_size _ rfl]
    simp [rawInt]
  · obtain ⟨t, rfl⟩ := hP
    have e : (0 : Int) + (i : Int) * 1 = i := by lia
    rw [e]
    exact Turn.run (s := s) (fp := [s.heap.objs.size]) (fun _ _ => rfl) (fun h' kk => kk _ (.head _) _ hst) (step i t h h₁ tk₁ hi hJ k)
end
theorem turn_fr {g hI hc hc1 : Heap} {L : Addr} {m2 m : Str → Option Value} (F2 : Fr g L hI m2) (Fc : Fr g L hc m) (kI : Kept [hI.objs.size] hc hc1) : Fr g L hc1 m :=
  led_kept kI Fc (fCm ⟨⟨fr_none F2 (Heap.get?_none_of_le (Nat.le_refl _)), fr_ne F2 (Heap.get?_none_of_le (Nat.le_refl _))⟩, fNm _⟩)
theorem turn_kept {h hI hc hc1 : Heap} (K : Kept [] h hI) (kc : Kept [] h hc) (kI : Kept [hI.objs.size] hc hc1) : Kept [] h hc1 := kc.thru kI (fCm ⟨by
  cases q : h.get? hI.objs.size with
  | none => rfl
  | some o => exact absurd (Heap.lt_size (K.get q)) (Nat.lt_irrefl _), fNm _⟩)
theorem turn_ne {g hI : Heap} {L : Addr} {m2 : Str → Option Value} (F2 : Fr g L hI m2) : hI.objs.size ≠ L := fr_ne F2 (Heap.get?_none_of_le (Nat.le_refl _))
theorem unpin {g h : Heap} {L : Addr} {m : Str → Option Value} {x : Str} {v : Value} (F : Fr g L h (fun y => if y = x then some v else m y)) (e : m x = some v) : Fr g L h m := by
  have : (fun y => if y = x then some v else m y) = m := by
    funext y
    by_cases q : y = x
    · rw [if_pos q, q, e]
    · rw [if_neg q]
  rw [this] at F; exact F
/-! the sort of short lists, as a program that asks; what comes back is in order -/
noncomputable def Pm (n : Nat) (p : Array Nat) : Prop := p.toList.Perm (List.range n)
noncomputable def kf (key : Nat → Int) (p : Array Nat) (i : Nat) : Int := key (p.getD i 0)
noncomputable def So (key : Nat → Int) (p : Array Nat) (k : Nat) : Prop := ∀ i j, i ≤ j → j < k → kf key p i ≤ kf key p j
noncomputable def No (key : Nat → Int) (p : Array Nat) (k : Nat) : Prop := ∀ i j, i ≤ j → j < k → kf key p j ≤ kf key p i
theorem ar1 {a f n : Nat} (h : a + (f + 1) ≤ n) : a < n := Nat.lt_of_lt_of_le (Nat.lt_add_of_pos_right (Nat.succ_pos f)) h
theorem ar2 {a f n : Nat} (h : a + (f + 1) ≤ n) : a + 1 + f ≤ n := by lia
theorem ar3 {a b n : Nat} (h : a < n) : a - b < n := Nat.lt_of_le_of_lt (Nat.sub_le a b) h
theorem ar4 {a f m : Nat} (h : m ≤ a + 1 + f) : m ≤ a + (f + 1) := by lia
theorem ar5 {a f m : Nat} (h : m < a + (f + 1)) : m < a + 1 + f := by lia
theorem ar6 {i j : Nat} (h : i ≤ j) (n : ¬ i = j) : i ≤ j - 1 := by lia
theorem ar8 {a b n : Nat} (h : a ≤ n) : a - b ≤ n := Nat.le_trans (Nat.sub_le a b) h
theorem ar9 {l r : Nat} (h : ¬ l ≥ r) : (l + r) / 2 < r := by lia
theorem ar10 {l r : Nat} (h : ¬ l ≥ r) : l ≤ (l + r) / 2 := by lia
theorem ar11 {f l r : Nat} (h : r ≤ l + (f + 1)) : (l + r) / 2 ≤ l + f := by lia
theorem ar12 {f l r : Nat} (h : r ≤ l + (f + 1)) : r ≤ (l + r) / 2 + 1 + f := by lia
theorem ar13 {f k n : Nat} (h : k + (f + 1) = n) : k < n := by lia
theorem ar14 {f k n : Nat} (h : k + (f + 1) = n) : k + 1 + f = n := by lia
theorem ar15 {k l i j : Nat} (h : i ≤ j) (g : j < k + 1) (a : ¬ i = l) (b : ¬ i < l) : l < i ∧ i ≤ k ∧ l < j ∧ j ≤ k ∧ j - 1 < k ∧ i - 1 ≤ j - 1 ∧ ¬ j = l := by lia
theorem ar16 {k l j : Nat} (g : j < k + 1) (a : ¬ j = l) (b : l ≤ j) : l < j ∧ j ≤ k ∧ j - 1 < k ∧ l ≤ j - 1 := by lia
theorem ar17 {n m : Nat} (e : (m == n) = true) : m = n := eq_of_beq e
theorem ar18 {a b : Nat} (h : a ≤ b) : a + (b - a) ≤ b := Nat.le_of_eq (Nat.add_sub_cancel' h)
theorem ar19 {a i j : Nat} (h : i ≤ j) : 0 + a - 1 - j ≤ 0 + a - 1 - i := by lia
theorem Pm.size {n : Nat} {p : Array Nat} (h : Pm n p) : p.size = n := by have := h.length_eq; simpa using this
theorem Pm.lt {n i : Nat} {p : Array Nat} (h : Pm n p) (hi : i < n) : p.getD i 0 < n := by
  have hs := h.size
  have hm : p.getD i 0 ∈ p.toList := by
    rw [Array.getD_eq_getD_getElem?, Array.getElem?_eq_getElem (by (refine Nat.lt_of_lt_of_eq ?_ (Eq.symm (by with_reducible assumption)); first | with_reducible assumption | exact ar1 (by with_reducible assumption) | exact ar3 (by with_reducible assumption) | exact ar13 (by with_reducible assumption)) : i < p.size), Option.getD_some]
    exact Array.getElem_mem_toList _
  simpa using h.mem_iff.mp hm
theorem Pm.rev {n i j : Nat} {p : Array Nat} (h : Pm n p) : Pm n (kas_rev p i j) := (Array.perm_iff_toList_perm.mp (mirror_perm _ _ _ _)).trans h
theorem Pm.bub {n i j : Nat} {p : Array Nat} (h : Pm n p) : Pm n (bubble p i j) := (Array.perm_iff_toList_perm.mp (bubble_perm _ _ _)).trans h
theorem kf_of {key : Nat → Int} {p q : Array Nat} {i j : Nat} (h : p[i]? = q[j]?) : kf key p i = kf key q j := by
  unfold kf
  rw [Array.getD_eq_getD_getElem?, Array.getD_eq_getD_getElem?, h]
theorem kf_rev {key : Nat → Int} {p : Array Nat} {i j : Nat} (hj : j ≤ p.size) (k : Nat) : kf key (kas_rev p i j) k = if i ≤ k ∧ k < j then kf key p (i + j - 1 - k) else kf key p k := by
  have e := getElem?_mirror_all (xs := p) (i := i) (j := j) hj k
  by_cases h : i ≤ k ∧ k < j
  · rw [if_pos h] at e ⊢; exact kf_of e
  · rw [if_neg h] at e ⊢; exact kf_of e
theorem kf_bub {key : Nat → Int} {p : Array Nat} {a d : Nat} (hs : a < p.size) (hd : d ≤ a) (k : Nat) : kf key (bubble p a d) k = if k = a - d then kf key p a else if a - d < k ∧ k ≤ a then kf key p (k - 1) else kf key p k := by
  have e := getElem?_bubble hs d hd k
  by_cases h : k = a - d
  · rw [if_pos h] at e ⊢; exact kf_of e
  · rw [if_neg h] at e ⊢
    by_cases h2 : a - d < k ∧ k ≤ a
    · rw [if_pos h2] at e ⊢; exact kf_of e
    · rw [if_neg h2] at e ⊢; exact kf_of e
section
variable {ask : Nat → Nat → (Bool → Shared → Prop) → Shared → Prop} {key : Nat → Int} {n : Nat} {s : Shared}
theorem asc_ok (hA : ∀ i j (C : Bool → Shared → Prop), i < n → j < n → C (decide (key i < key j)) s → ask i j C s) {p : Array Nat} (hp : Pm n p) {Q : Nat → Shared → Prop} :
    ∀ f a, 1 ≤ a → a + f ≤ n → So key p a → (∀ m, a ≤ m → m ≤ a + f → So key p m → (m < a + f → kf key p m < kf key p (m - 1)) → Q m s) → (kas_asc p f a).kasWp ask Q s
  | 0, a, _, _, hs, h => h a (Nat.le_refl _) (Nat.le_refl _) hs fun x => absurd x (Nat.lt_irrefl _)
  | f + 1, a, h1, hn, hs, h => by
    refine hA _ _ _ (hp.lt (by exact ar1 (by with_reducible assumption))) (hp.lt (by exact ar3 (ar1 (by with_reducible assumption)))) ?_
    by_cases c : key (p.getD a 0) < key (p.getD (a - 1) 0)
    · rw [decide_eq_true c]; show KasT.kasWp ask (if true = true then _ else _) _ s; rw [if_pos rfl]
      exact h a (Nat.le_refl _) (by exact Nat.le_add_right _ _) hs fun _ => c
    · rw [decide_eq_false c]; show KasT.kasWp ask (if false = true then _ else _) _ s; rw [if_neg Bool.false_ne_true]
      refine asc_ok hA hp f (a + 1) (by exact Nat.le_add_left _ _) (by exact ar2 (by with_reducible assumption)) (fun i j hij hj => ?_) fun m x y z u => h m (by exact Nat.le_of_succ_le (by with_reducible assumption)) (by exact ar4 (by with_reducible assumption)) z fun v => u (by exact ar5 (by with_reducible assumption))
      by_cases hja : j < a
      · exact hs i j hij hja
      · have hja : j = a := by exact Nat.le_antisymm (Nat.le_of_lt_succ (by with_reducible assumption)) (Nat.not_lt.mp (by with_reducible assumption))
        subst hja
        by_cases hi : i = j
        · rw [hi]; exact Int.le_refl _
        · exact Int.le_trans (hs i (j - 1) (by exact ar6 (by with_reducible assumption) (by with_reducible assumption)) (by lia)) (Int.not_lt.mp c)
theorem desc_ok (hA : ∀ i j (C : Bool → Shared → Prop), i < n → j < n → C (decide (key i < key j)) s → ask i j C s) {Q : Array Nat × Nat × Nat → Shared → Prop} :
    ∀ f p a q, Pm n p → 1 ≤ a → a + f ≤ n → q + 1 ≤ a → No key p a → (∀ i, a - (q + 1) ≤ i → i < a → kf key p i = kf key p (a - 1)) →
      (∀ p' m q', Pm n p' → 1 ≤ m → m ≤ n → q' + 1 ≤ m → No key p' m → (∀ i, m - (q' + 1) ≤ i → i < m → kf key p' i = kf key p' (m - 1)) → Q (p', m, q') s) → (kas_desc f p a q).kasWp ask Q s
  | 0, p, a, q, hp, h1, hn, hq, hs, he, h => h p a q hp h1 (by lia) hq hs he
  | f + 1, p, a, q, hp, h1, hn, hq, hs, he, h => by
    have hsz := hp.size
    refine hA _ _ _ (hp.lt (by exact ar1 (by with_reducible assumption))) (hp.lt (by exact ar3 (ar1 (by with_reducible assumption)))) ?_
    by_cases c : key (p.getD a 0) < key (p.getD (a - 1) 0)
    · rw [decide_eq_true c]; show KasT.kasWp ask (if true = true then _ else _) _ s; rw [if_pos rfl]
      have low : ∀ p', (∀ k, kf key p' k = kf key p k) → No key p' (a + 1) := fun p' e i j hij hj => by
        rw [e, e]
        by_cases hja : j < a
        · exact hs i j hij hja
        · have hja : j = a := by exact Nat.le_antisymm (Nat.le_of_lt_succ (by with_reducible assumption)) (Nat.not_lt.mp (by with_reducible assumption))
          subst hja
          by_cases hi : i = j
          · rw [hi]; exact Int.le_refl _
          · exact Int.le_trans (Int.le_of_lt c) (hs i (j - 1) (by exact ar6 (by with_reducible assumption) (by with_reducible assumption)) (by lia))
      have one : ∀ p' : Array Nat, ∀ i, (a + 1) - (0 + 1) ≤ i → i < a + 1 → kf key p' i = kf key p' (a + 1 - 1) := fun p' i x y => by
        have : i = a := by lia
        rw [this]; rfl
      by_cases hq0 : q > 0
      · rw [if_pos hq0]
        refine desc_ok hA f _ (a + 1) 0 hp.rev (by exact Nat.le_add_left _ _) (by exact ar2 (by with_reducible assumption)) (by exact Nat.le_add_left _ _) (low _ fun k => ?_) (one _) h
        rw [kf_rev (by (refine Nat.le_trans ?_ (Nat.le_of_eq (Eq.symm (by with_reducible assumption))); first | with_reducible assumption | exact Nat.le_of_lt (ar1 (by with_reducible assumption)) | exact Nat.le_of_lt (by with_reducible assumption)))]
        by_cases hk : a - (q + 1) ≤ k ∧ k < a
        · rw [if_pos hk, he k hk.1 hk.2, he _ (by lia) (by lia)]
        · rw [if_neg hk]
      · rw [if_neg hq0]
        exact desc_ok hA f _ (a + 1) 0 hp (by exact Nat.le_add_left _ _) (by exact ar2 (by with_reducible assumption)) (by exact Nat.le_add_left _ _) (low _ fun _ => rfl) (one _) h
    · rw [decide_eq_false c]; show KasT.kasWp ask (if false = true then _ else _) _ s; rw [if_neg Bool.false_ne_true]
      refine hA _ _ _ (hp.lt (by exact ar3 (ar1 (by with_reducible assumption)))) (hp.lt (by exact ar1 (by with_reducible assumption))) ?_
      by_cases c2 : key (p.getD (a - 1) 0) < key (p.getD a 0)
      · rw [decide_eq_true c2]; show KasT.kasWp ask (if true = true then _ else _) _ s; rw [if_pos rfl]
        exact h p a q hp h1 (by exact Nat.le_of_lt (ar1 (by with_reducible assumption))) hq hs he
      · rw [decide_eq_false c2]; show KasT.kasWp ask (if false = true then _ else _) _ s; rw [if_neg Bool.false_ne_true]
        have eq : kf key p a = kf key p (a - 1) := Int.le_antisymm (Int.not_lt.mp c2) (Int.not_lt.mp c)
        refine desc_ok hA f p (a + 1) (q + 1) hp (by exact Nat.le_add_left _ _) (by exact ar2 (by with_reducible assumption)) (by exact Nat.succ_le_succ (by with_reducible assumption)) (fun i j hij hj => ?_) (fun i x y => ?_) h
        · by_cases hja : j < a
          · exact hs i j hij hja
          · have hja : j = a := by exact Nat.le_antisymm (Nat.le_of_lt_succ (by with_reducible assumption)) (Nat.not_lt.mp (by with_reducible assumption))
            subst hja
            by_cases hi : i = j
            · rw [hi]; exact Int.le_refl _
            · rw [eq]; exact hs i (j - 1) (by exact ar6 (by with_reducible assumption) (by with_reducible assumption)) (by lia)
        · show _ = kf key p (a + 1 - 1)
          rw [Nat.add_sub_cancel]
          by_cases hi : i = a
          · rw [hi]
          · rw [he i (by lia) (by exact Nat.lt_of_le_of_ne (Nat.le_of_lt_succ (by with_reducible assumption)) (by with_reducible assumption)), eq]
theorem tail3_ok (hA : ∀ i j (C : Bool → Shared → Prop), i < n → j < n → C (decide (key i < key j)) s → ask i j C s) {p : Array Nat} {a : Nat} (hp : Pm n p) (h1 : 1 ≤ a) (hn : a ≤ n) (hs : No key p a) {Q : Nat × Array Nat → Shared → Prop}
    (h : ∀ p' m, Pm n p' → 1 ≤ m → m ≤ n → So key p' m → Q (m, p') s) : (kas_tail3 a n p).kasWp ask Q s := by
  have hsz := hp.size
  unfold kas_tail3
  rw [KasT.kasWp_bind]
  refine asc_ok hA hp.rev _ a h1 (by exact ar18 (by with_reducible assumption)) (fun i j hij hj => ?_) fun m x y z _ => h _ m hp.rev (by exact Nat.le_trans (by with_reducible assumption) (by with_reducible assumption)) (by lia) z
  rw [kf_rev (by (refine Nat.le_trans ?_ (Nat.le_of_eq (Eq.symm (by with_reducible assumption))); first | with_reducible assumption | exact Nat.le_of_lt (ar1 (by with_reducible assumption)) | exact Nat.le_of_lt (by with_reducible assumption))), kf_rev (by (refine Nat.le_trans ?_ (Nat.le_of_eq (Eq.symm (by with_reducible assumption))); first | with_reducible assumption | exact Nat.le_of_lt (ar1 (by with_reducible assumption)) | exact Nat.le_of_lt (by with_reducible assumption))), if_pos (by exact ⟨Nat.zero_le _, Nat.lt_of_le_of_lt (by with_reducible assumption) (by with_reducible assumption)⟩), if_pos (by exact ⟨Nat.zero_le _, (by with_reducible assumption)⟩)]
  exact hs _ _ (by exact ar19 (by with_reducible assumption)) (by lia)
theorem descPart_ok (hA : ∀ i j (C : Bool → Shared → Prop), i < n → j < n → C (decide (key i < key j)) s → ask i j C s) {p : Array Nat} {a : Nat} (hp : Pm n p) (hn : a + 1 ≤ n) (hs : No key p (a + 1)) {Q : Nat × Array Nat → Shared → Prop}
    (h : ∀ p' m, Pm n p' → 1 ≤ m → m ≤ n → So key p' m → Q (m, p') s) : (kas_descPart a n p).kasWp ask Q s := by
  unfold kas_descPart
  rw [KasT.kasWp_bind]
  refine desc_ok hA _ p (a + 1) 0 hp (by exact Nat.le_add_left _ _) (by exact ar18 (by with_reducible assumption)) (by exact Nat.le_add_left _ _) hs (fun i x y => ?_) fun p' m q' hp' hm hmn hq' hs' he' => ?_
  · have : i = a := by lia
    rw [this]; rfl
  · have hsz := hp'.size
    dsimp only
    by_cases hq0 : q' > 0
    · rw [if_pos hq0]
      refine tail3_ok hA hp'.rev hm hmn (fun i j hij hj => ?_) h
      have e : ∀ k, kf key (kas_rev p' (m - (q' + 1)) m) k = kf key p' k := fun k => by
        rw [kf_rev (by (refine Nat.le_trans ?_ (Nat.le_of_eq (Eq.symm (by with_reducible assumption))); first | with_reducible assumption | exact Nat.le_of_lt (ar1 (by with_reducible assumption)) | exact Nat.le_of_lt (by with_reducible assumption)))]
        by_cases hk : m - (q' + 1) ≤ k ∧ k < m
        · rw [if_pos hk, he' k hk.1 hk.2, he' _ (by lia) (by lia)]
        · rw [if_neg hk]
      rw [e, e]
      exact hs' i j hij hj
    · rw [if_neg hq0]
      exact tail3_ok hA hp' hm hmn hs' h
theorem count_ok (hA : ∀ i j (C : Bool → Shared → Prop), i < n → j < n → C (decide (key i < key j)) s → ask i j C s) {p : Array Nat} (hp : Pm n p) (h1 : 1 ≤ n) {Q : Nat × Array Nat → Shared → Prop}
    (h : ∀ p' m, Pm n p' → 1 ≤ m → m ≤ n → So key p' m → Q (m, p') s) : (kas_count n p).kasWp ask Q s := by
  have hsz := hp.size
  unfold kas_count
  rw [KasT.kasWp_bind]
  refine asc_ok hA hp _ 1 (by exact Nat.le_refl _) (by exact ar18 (by with_reducible assumption)) (fun i j hij hj => ?_) fun m x y z u => ?_
  · have : i = j := by lia
    rw [this]; exact Int.le_refl _
  · by_cases hm : (m == n) = true
    · rw [if_pos hm]
      exact h p m hp (by with_reducible assumption) (by exact Nat.le_of_eq (ar17 (by with_reducible assumption))) z
    · rw [if_neg hm]
      have hmn : m < n := by
        have : m ≠ n := fun e => hm (by simp [e])
        lia
      have hd := u (by lia)
      by_cases hm1 : m > 1
      · rw [if_pos hm1]
        refine hA _ _ _ (hp.lt (by exact Nat.lt_of_succ_le (by with_reducible assumption))) (hp.lt (by exact ar3 (by with_reducible assumption))) ?_
        by_cases c : key (p.getD 0 0) < key (p.getD (m - 1) 0)
        · rw [decide_eq_true c]; show KasT.kasWp ask (if true = true then _ else _) _ s; rw [if_pos rfl]
          exact h p m hp (by with_reducible assumption) (by exact Nat.le_of_lt (by with_reducible assumption)) z
        · rw [decide_eq_false c]; show KasT.kasWp ask (if false = true then _ else _) _ s; rw [if_neg Bool.false_ne_true]
          have all : ∀ i, i < m → kf key p i = kf key p 0 := fun i hi => Int.le_antisymm (Int.le_trans (z i (m - 1) (by exact Nat.le_sub_one_of_lt (by with_reducible assumption)) (by lia)) (Int.not_lt.mp c)) (z 0 i (by exact Nat.zero_le _) hi)
          have alr : ∀ i, i < m → kf key (kas_rev p 0 m) i = kf key p 0 := fun i hi => by rw [kf_rev (by (refine Nat.le_trans ?_ (Nat.le_of_eq (Eq.symm (by with_reducible assumption))); first | with_reducible assumption | exact Nat.le_of_lt (ar1 (by with_reducible assumption)) | exact Nat.le_of_lt (by with_reducible assumption))), if_pos (by exact ⟨Nat.zero_le _, (by with_reducible assumption)⟩), all _ (by lia)]
          refine descPart_ok hA hp.rev (by lia) (fun i j hij hj => ?_) h
          by_cases hjm : j < m
          · rw [alr i (by exact Nat.lt_of_le_of_lt (by with_reducible assumption) (by with_reducible assumption)), alr j hjm]; exact Int.le_refl _
          · have hjm : j = m := by exact Nat.le_antisymm (Nat.le_of_lt_succ (by with_reducible assumption)) (Nat.not_lt.mp (by with_reducible assumption))
            subst hjm
            by_cases hi : i = j
            · rw [hi]; exact Int.le_refl _
            · rw [alr i (by exact Nat.lt_of_le_of_ne (by with_reducible assumption) (by with_reducible assumption)), kf_rev (by (refine Nat.le_trans ?_ (Nat.le_of_eq (Eq.symm (by with_reducible assumption))); first | with_reducible assumption | exact Nat.le_of_lt (ar1 (by with_reducible assumption)) | exact Nat.le_of_lt (by with_reducible assumption))), if_neg (by lia)]
              rw [all (j - 1) (by lia)] at hd
              exact Int.le_of_lt hd
      · rw [if_neg hm1]
        refine descPart_ok hA hp (by lia) (fun i j hij hj => ?_) h
        have hm1' : m = 1 := by lia
        subst hm1'
        by_cases hi : i = j
        · rw [hi]; exact Int.le_refl _
        · have : i = 0 ∧ j = 1 := by lia
          rw [this.1, this.2]
          exact Int.le_of_lt hd
theorem place_ok (hA : ∀ i j (C : Bool → Shared → Prop), i < n → j < n → C (decide (key i < key j)) s → ask i j C s) {p : Array Nat} (hp : Pm n p) {k : Nat} (hk : k < n) (hs : So key p k) {Q : Nat → Shared → Prop}
    (h : ∀ l, l ≤ k → (∀ i, i < l → kf key p i ≤ kf key p k) → (∀ i, l ≤ i → i < k → kf key p k < kf key p i) → Q l s) :
    ∀ f l r, r ≤ l + f → l ≤ r → r ≤ k → (∀ i, i < l → kf key p i ≤ kf key p k) → (∀ i, r ≤ i → i < k → kf key p k < kf key p i) → (kas_place p k f l r).kasWp ask Q s
  | 0, l, r, hf, hl, hr, ha, hb => h l (by exact Nat.le_trans (by with_reducible assumption) (by with_reducible assumption)) ha fun i x y => hb i (by lia) y
  | f + 1, l, r, hf, hl, hr, ha, hb => by
    unfold kas_place
    by_cases hlr : l ≥ r
    · rw [if_pos hlr]
      exact h l (by exact Nat.le_trans (by with_reducible assumption) (by with_reducible assumption)) ha fun i x y => hb i (by exact Nat.le_trans (by with_reducible assumption) (by with_reducible assumption)) y
    · rw [if_neg hlr]
      refine hA _ _ _ (hp.lt hk) (hp.lt (by exact Nat.lt_trans (Nat.lt_of_lt_of_le (ar9 (by with_reducible assumption)) (by with_reducible assumption)) (by with_reducible assumption))) ?_
      by_cases c : key (p.getD k 0) < key (p.getD ((l + r) / 2) 0)
      · rw [decide_eq_true c]; show KasT.kasWp ask (if true = true then _ else _) _ s; rw [if_pos rfl]
        exact place_ok hA hp hk hs h f l _ (by exact ar11 (by with_reducible assumption)) (by exact ar10 (by with_reducible assumption)) (by exact Nat.le_of_lt (Nat.lt_of_lt_of_le (ar9 (by with_reducible assumption)) (by with_reducible assumption))) ha fun i x y => Int.lt_of_lt_of_le c (hs _ i x y)
      · rw [decide_eq_false c]; show KasT.kasWp ask (if false = true then _ else _) _ s; rw [if_neg Bool.false_ne_true]
        exact place_ok hA hp hk hs h f _ r (by exact ar12 (by with_reducible assumption)) (by exact ar9 (by with_reducible assumption)) (by with_reducible assumption) (fun i x => Int.le_trans (hs i ((l + r) / 2) (by exact Nat.le_of_lt_succ (by with_reducible assumption)) (by exact Nat.lt_of_lt_of_le (ar9 (by with_reducible assumption)) (by with_reducible assumption))) (Int.not_lt.mp c)) hb
theorem bin_ok (hA : ∀ i j (C : Bool → Shared → Prop), i < n → j < n → C (decide (key i < key j)) s → ask i j C s) {Q : Array Nat → Shared → Prop} (h : ∀ p, Pm n p → So key p n → Q p s) :
    ∀ f p k, Pm n p → k + f = n → So key p k → (kas_bin f p k).kasWp ask Q s
  | 0, p, k, hp, hf, hs => h p hp (by have : k = n := by lia
                                      rw [← this]; exact hs)
  | f + 1, p, k, hp, hf, hs => by
    have hsz := hp.size
    unfold kas_bin
    rw [KasT.kasWp_bind]
    refine place_ok hA hp (by exact ar13 (by with_reducible assumption)) hs (fun l hl ha hb => ?_) k 0 k (by exact Nat.le_add_left _ _) (by exact Nat.zero_le _) (by exact Nat.le_refl _) (fun i x => absurd x (Nat.not_lt_zero _)) (fun i x y => by exact absurd (by with_reducible assumption) (Nat.not_lt.mpr (by with_reducible assumption)))
    refine bin_ok hA h f _ (k + 1) hp.bub (by exact ar14 (by with_reducible assumption)) fun i j hij hj => ?_
    rw [kf_bub (by (refine Nat.lt_of_lt_of_eq ?_ (Eq.symm (by with_reducible assumption)); first | with_reducible assumption | exact ar1 (by with_reducible assumption) | exact ar3 (by with_reducible assumption) | exact ar13 (by with_reducible assumption))) (by exact Nat.sub_le _ _), kf_bub (by (refine Nat.lt_of_lt_of_eq ?_ (Eq.symm (by with_reducible assumption)); first | with_reducible assumption | exact ar1 (by with_reducible assumption) | exact ar3 (by with_reducible assumption) | exact ar13 (by with_reducible assumption))) (by exact Nat.sub_le _ _)]
    have e : k - (k - l) = l := by lia
    rw [e]
    by_cases hi : i = l
    · rw [if_pos hi]
      by_cases hj' : j = l
      · rw [if_pos hj']; exact Int.le_refl _
      · rw [if_neg hj', if_pos (by lia)]
        exact Int.le_of_lt (hb _ (by lia) (by lia))
    · rw [if_neg hi]
      by_cases hil : i < l
      · rw [if_neg (by lia)]
        by_cases hj' : j = l
        · rw [if_pos hj']; exact ha i hil
        · rw [if_neg hj']
          by_cases hjl : j < l
          · rw [if_neg (by lia)]; exact hs i j hij (by exact Nat.lt_of_lt_of_le (by with_reducible assumption) (by with_reducible assumption))
          · rw [if_pos (by (have hz := ar16 (by with_reducible assumption) (by with_reducible assumption) (Nat.not_lt.mp (by with_reducible assumption)); first | exact ⟨hz.1, hz.2.1⟩ | exact hz.2.2.1 | exact hz.2.2.2))]; exact hs i (j - 1) (by lia) (by (have hz := ar16 (by with_reducible assumption) (by with_reducible assumption) (Nat.not_lt.mp (by with_reducible assumption)); first | exact ⟨hz.1, hz.2.1⟩ | exact hz.2.2.1 | exact hz.2.2.2))
      · rw [if_pos (by (have hz := ar15 (by with_reducible assumption) (by with_reducible assumption) (by with_reducible assumption) (by with_reducible assumption); first | exact hz.2.2.2.2.1 | exact ⟨hz.1, hz.2.1⟩ | exact ⟨hz.2.2.1, hz.2.2.2.1⟩ | exact hz.2.2.2.2.2.1 | exact hz.2.2.2.2.2.2)), if_neg (by (have hz := ar15 (by with_reducible assumption) (by with_reducible assumption) (by with_reducible assumption) (by with_reducible assumption); first | exact hz.2.2.2.2.1 | exact ⟨hz.1, hz.2.1⟩ | exact ⟨hz.2.2.1, hz.2.2.2.1⟩ | exact hz.2.2.2.2.2.1 | exact hz.2.2.2.2.2.2)), if_pos (by (have hz := ar15 (by with_reducible assumption) (by with_reducible assumption) (by with_reducible assumption) (by with_reducible assumption); first | exact hz.2.2.2.2.1 | exact ⟨hz.1, hz.2.1⟩ | exact ⟨hz.2.2.1, hz.2.2.2.1⟩ | exact hz.2.2.2.2.2.1 | exact hz.2.2.2.2.2.2))]
        exact hs (i - 1) (j - 1) (by (have hz := ar15 (by with_reducible assumption) (by with_reducible assumption) (by with_reducible assumption) (by with_reducible assumption); first | exact hz.2.2.2.2.1 | exact ⟨hz.1, hz.2.1⟩ | exact ⟨hz.2.2.1, hz.2.2.2.1⟩ | exact hz.2.2.2.2.2.1 | exact hz.2.2.2.2.2.2)) (by (have hz := ar15 (by with_reducible assumption) (by with_reducible assumption) (by with_reducible assumption) (by with_reducible assumption); first | exact hz.2.2.2.2.1 | exact ⟨hz.1, hz.2.1⟩ | exact ⟨hz.2.2.1, hz.2.2.2.1⟩ | exact hz.2.2.2.2.2.1 | exact hz.2.2.2.2.2.2))
theorem sort_ok (hA : ∀ i j (C : Bool → Shared → Prop), i < n → j < n → C (decide (key i < key j)) s → ask i j C s) (h1 : 1 ≤ n) {Q : Array Nat → Shared → Prop} (h : ∀ p, Pm n p → So key p n → Q p s) : (kas_sort n).kasWp ask Q s := by
  unfold kas_sort
  rw [KasT.kasWp_bind]
  refine count_ok hA (p := List.toArray (List.range n)) (List.Perm.refl _) h1 fun p m hp hm hmn hs => ?_
  dsimp only
  by_cases c : m < n
  · rw [if_pos c]
    have e : max m 1 = m := by lia
    rw [e]
    exact bin_ok hA h _ p m hp (by exact Nat.add_sub_cancel' (by with_reducible assumption)) hs
  · rw [if_neg c]
    have : m = n := by exact Nat.le_antisymm (by with_reducible assumption) (Nat.not_lt.mp (by with_reducible assumption))
    subst this
    exact h p hp hs
end
noncomputable def RawAt (h : Heap) (d : Addr) (es : Array DictEntry) (ep : Nat) : Prop := ∃ o, h.get? d = some o ∧ o.ExactDict ∧ o.data = .dict es ep
section
variable {prog : Program} {w : World} {A : Around} {E : Value → Shared → Prop} {s : Shared} {d it : Addr} {es : Array DictEntry} {ep i : Nat}
theorem RawAt.typeIs (x : RawAt s.heap d es ep) : s.TypeIs (.ref d) "dict" := let ⟨o, ho, hc, _⟩ := x; ⟨o, ho, hc.1⟩
theorem RawAt.lt {h : Heap} (x : RawAt h d es ep) : d < h.objs.size := let ⟨_, ho, _⟩ := x; Heap.lt_size ho
theorem RawAt.at' {h h' : Heap} (x : RawAt h d es ep) (e : ∀ o, h.get? d = some o → h'.get? d = some o) : RawAt h' d es ep := let ⟨o, ho, r⟩ := x; ⟨o, e _ ho, r⟩
theorem raw_iter {Q : Value → Shared → Prop} (lo : (d == sysModules) = false) (hm : RawAt s.heap d es ep)
    (hQ : Q (.ref s.heap.objs.size) { s with heap := s.heap.push { cls := .type "dict_keyiterator", data := .fields #[.ref d, .int 0 0, .int es.size 0, .int ep 0] } }) : wpAny (model prog w) A (pyIter (.ref d)) Q E s := by
  obtain ⟨o, ho, hc, hdat⟩ := id hm
  have hT := hm.typeIs
  refine wpAny_pyIter_slot hT PySem.F.slot_dict_iter (wpAny_call_entry PySem.F.slot_dict_iter hT PySem.F.entry_dict_iter ?_ (PySem.F.args_dict_iter_1 _))
  unfold Builtin.«dict.__iter__»
  refine wpAny_bind ?_
  unfold Builtin.Dict.dictSlotNone
  refine wpAny_bind (wpAny_notOrdered_dict hT ?_)
  show wpAny _ _ (pure (Value.ref d)) _ _ s
  refine wpAny_pure ?_
  show wpAny _ _ (Builtin.Dict.showsAll d >>= _) _ _ s
  unfold Builtin.Dict.showsAll
  rw [if_neg (by rw [lo]; exact Bool.false_ne_true)]
  refine wpAny_bind (wpAny_pure ?_)
  refine wpAny_bind (wpAny_dictEntries ho hdat ?_)
  refine wpAny_bind (wpAny_dictEpoch ho hdat ?_)
  exact wpAny_bind (wpAny_newObj_type (wpAny_pure ⟨_, rfl, "dict_keyiterator", _, ⟨_, Heap.get?_push_size _ rfl, rfl⟩, PySem.F.slot_dict_keyiterator_next.lookup, hQ⟩))
theorem raw_next {Q : Option Value → Shared → Prop} (hit : s.heap.IsKeyIter it d i es.size ep) (hm : RawAt s.heap d es ep) (hlt : i < es.size)
    (hQ : ∀ h', h'.IsKeyIter it d (i + 1) es.size ep → Heap.SameBut it s.heap h' → Q (some es[i].key) { s with heap := h' }) : wpAny (model prog w) A (pyNext (.ref it)) Q E s := by
  obtain ⟨o, ho, hc, hd⟩ := id hit
  obtain ⟨od, hod, hcd, hdd⟩ := id hm
  unfold pyNext
  refine wpAny_bind (wpAny_attempt (wpAny_callSpecial?_slot (name := Str.ofString "__next__") hit.typeIs PySem.F.slot_dict_keyiterator_next
    (wpAny_call_entry PySem.F.slot_dict_keyiterator_next hit.typeIs PySem.F.entry_dict_keyiterator_next ?_ (PySem.F.args_dict_keyiterator_next_1 _))))
  refine wpAny_bind (wpAny_pure ?_)
  refine wpAny_bind ?_
  refine wpAny_bind ?_
  first | refine wpAny_bind (wpAny_typeNameOfWhole_keyiter hit.typeIs (wpAny_pure ?_)) | refine wpAny_bind (wpAny_typeNameOf_keyiter hit.typeIs (wpAny_pure ?_))
  refine wpAny_bind (wpAny_fieldsOf ho hd ?_)
  have hown : Builtin.Dict_items.ownsTuple "dict_keyiterator" = false := by decide
  simp only [hown, Bool.false_eq_true, if_false]
  show wpAny _ _ (if (Value.ref d == Value.none) = true then _ else _) _ _ s
  rw [if_neg (show ¬ ((Value.ref d == Value.none) = true) from Bool.false_ne_true)]
  refine wpAny_bind (wpAny_pure ?_)
  refine wpAny_bind (wpAny_dictEntries hod hdd ?_)
  rw [if_neg (by simp)]
  refine wpAny_bind (wpAny_pure ?_)
  refine wpAny_bind (wpAny_dictEpoch hod hdd ?_)
  rw [if_neg (by simp)]
  refine wpAny_pure ?_
  simp only [show ¬ ((i : Int) < 0) from by lia, if_false, Int.toNat_natCast, Array.getElem?_eq_getElem hlt]
  refine wpAny_bind ?_
  first | refine wpAny_bind (wpAny_typeNameOfWhole_keyiter hit.typeIs (wpAny_pure ?_)) | refine wpAny_bind (wpAny_typeNameOf_keyiter hit.typeIs (wpAny_pure ?_))
  refine wpAny_bind (wpAny_isOneOf_keyiter hit.typeIs ?_)
  show wpAny _ _ (setField (.ref it) 1 (rawInt ((i : Int) + 1)) >>= _) _ _ s
  refine wpAny_bind (wpAny_setField ho hd (by simp) ?_)
  have hit' : (s.heap.update it (Obj.mapFields (·.setIfInBounds 1 (rawInt ((i : Int) + 1))))).IsKeyIter it d (i + 1) es.size ep :=
    ⟨_, Heap.get?_update_self _ ho (Obj.isFreed_of_fields (Obj.data_mapFields hd _)), (Obj.cls_mapFields ..).trans hc, by rw [Obj.data_mapFields hd]; simp [rawInt]⟩
  refine wpAny_bind (wpAny_holding ?_)
  refine wpAny_bind (wpAny_isOneOf_keyiter (s := { s with heap := s.heap.update it (Obj.mapFields (·.setIfInBounds 1 (rawInt ((i : Int) + 1)))) }) hit'.typeIs ?_)
  show wpAny _ _ (pure es[i].key) _ _ _
  exact wpAny_pure (wpAny_pure ⟨_, rfl, wpAny_pure (hQ _ hit' (Heap.SameBut.update ..))⟩)
theorem raw_end {Q : Option Value → Shared → Prop} (hh : A.handled = none) (hit : s.heap.IsKeyIter it d es.size es.size ep) (hm : RawAt s.heap d es ep)
    (hQ : ∀ h', Heap.ExtBut it s.heap h' → Q none { s with heap := h' }) : wpAny (model prog w) A (pyNext (.ref it)) Q E s := by
  obtain ⟨o, ho, hc, hd⟩ := id hit
  obtain ⟨od, hod, hcd, hdd⟩ := id hm
  unfold pyNext
  refine wpAny_bind (wpAny_attempt (wpAny_callSpecial?_slot (name := Str.ofString "__next__") hit.typeIs PySem.F.slot_dict_keyiterator_next
    (wpAny_call_entry PySem.F.slot_dict_keyiterator_next hit.typeIs PySem.F.entry_dict_keyiterator_next ?_ (PySem.F.args_dict_keyiterator_next_1 _))))
  refine wpAny_bind (wpAny_pure ?_)
  refine wpAny_bind ?_
  refine wpAny_bind ?_
  first | refine wpAny_bind (wpAny_typeNameOfWhole_keyiter hit.typeIs (wpAny_pure ?_)) | refine wpAny_bind (wpAny_typeNameOf_keyiter hit.typeIs (wpAny_pure ?_))
  refine wpAny_bind (wpAny_fieldsOf ho hd ?_)
  have hown : Builtin.Dict_items.ownsTuple "dict_keyiterator" = false := by decide
  simp only [hown, Bool.false_eq_true, if_false]
  show wpAny _ _ (if (Value.ref d == Value.none) = true then _ else _) _ _ s
  rw [if_neg (show ¬ ((Value.ref d == Value.none) = true) from Bool.false_ne_true)]
  refine wpAny_bind (wpAny_pure ?_)
  refine wpAny_bind (wpAny_dictEntries hod hdd ?_)
  rw [if_neg (by simp)]
  refine wpAny_bind (wpAny_pure ?_)
  refine wpAny_bind (wpAny_dictEpoch hod hdd ?_)
  rw [if_neg (by simp)]
  refine wpAny_pure ?_
  simp only [show ¬ ((es.size : Int) < 0) from by lia, if_false, Int.toNat_natCast, Array.getElem?_eq_none (Nat.le_refl es.size)]
  refine wpAny_bind ?_
  first | refine wpAny_bind (wpAny_typeNameOfWhole_keyiter hit.typeIs (wpAny_pure ?_)) | refine wpAny_bind (wpAny_typeNameOf_keyiter hit.typeIs (wpAny_pure ?_))
  show wpAny _ _ (setField (.ref it) 0 .none >>= _) _ _ s
  refine wpAny_bind (wpAny_setField ho hd (by simp) ?_)
  show wpAny _ _ (newExc (.type "StopIteration") [] >>= _) _ _ _
  refine wpAny_bind ?_
  simp only [newExc, newTuple]
  refine wpAny_bind (wpAny_newObj_type ?_ (by size_fits))
  refine wpAny_bind (m := firstArgMember _ _) (wpAny_of_eq (a := Value.none) (by first | rfl | (simp only [firstArgMember]; rfl)) ?_)
  refine wpAny_newObj_type ?_ (by size_fits)
  simp only [raiseNew]
  refine wpAny_bind (wpAny_handled ?_)
  rw [show A.in1.handled = none from hh]
  refine wpAny_bind (wpAny_pure (wpAny_throw ?_))
  refine wpAny_bind (wpAny_isInstance (T := "StopIteration") (b := true) ⟨_, Heap.get?_push_size _ rfl, rfl⟩ isSubtype_stop ?_)
  exact wpAny_pure (hQ _ (((Heap.SameBut.update ..).extBut.push _).push _))
theorem raw_walks (hh : A.handled = none) (I : Addr) (hne : d ≠ I) (es : Array DictEntry) (ep : Nat) :
    Walks prog w A I [I, d] [I] es.size (fun i v => ∃ e, es[i]? = some e ∧ v = e.key) (fun i h => h.IsKeyIter I d i es.size ep ∧ RawAt h d es ep) where
  sub := fun b hb => by simp at hb; simp [hb]
  frame := fun _ _ _ st hk => ⟨st.1.at fun o e => hk I (by simp) o e, st.2.at' fun o e => hk d (by simp) o e⟩
  item := fun i s Q E hi st hQ => raw_next st.1 st.2 hi fun h' hit' hs' => hQ _ h' s.toks ⟨_, Array.getElem?_eq_getElem hi, rfl⟩ ⟨hit', st.2.at' fun o e => hs'.extBut d o hne e⟩ fun b o hb e => hs'.extBut b o (fun h => hb (by simp [h])) e
  done := fun s Q E st hQ => raw_end hh st.1 st.2 fun h' he' => hQ h' s.toks fun b o hb e => he' b o (fun h => hb (by simp [h])) e
  self := fun _ _ _ _ st hQ => wpAny_pyIter_keyiter st.1 hQ
theorem raw_src (lo : (d == sysModules) = false) : KdlSrc prog w "dict" d d es.size (fun i v => ∃ e, es[i]? = some e ∧ v = e.key) (fun h => RawAt h d es ep) where
  type := fun _ hm => hm.typeIs
  there := fun _ hm => ⟨hm.lt, hm.lt⟩
  keep := fun _ _ hm hk => hm.at' fun o e => hk d (.inl rfl) o e
  notList := by decide
  notTuple := by decide
  hint := fun _ _ _ _ hm hq => kdl_hint_dict hm.typeIs hq
  iter := fun _ _ hh hm => ⟨_, _, (fun _ _ hq => raw_iter lo hm hq), raw_walks hh _ (Nat.ne_of_lt hm.lt) es ep, ⟨⟨_, Heap.get?_push_size _ rfl, rfl, rfl⟩, hm.at' fun o e => Heap.get?_push_of_some _ e⟩⟩
end
noncomputable def rk : List Int → Int
  | [r, b] => r * 100 + b
  | _ => 0
theorem isInt_eq {i : Int} {v : Value} (h : Value.isInt i v = true) : ∃ t, v = .int i t := by
  cases v <;> simp_all [Value.isInt]
theorem key_items {w : World} {h : Heap} {i j : Int} {a : Addr} (x : (TK w).is h [i, j] a) : ∃ o t u n, h.get? a = some o ∧ o.cls = .type "tuple" ∧ o.data = .seq #[.int i t, .int j u] n := by
  obtain ⟨o, items, n, ho, hc, hd, hi⟩ := x
  obtain ⟨l⟩ := items
  cases hi with
  | cons h1 r =>
    cases r with
    | cons h2 r2 =>
      cases r2
      obtain ⟨t, rfl⟩ := isInt_eq h1
      obtain ⟨u, rfl⟩ := isInt_eq h2
      exact ⟨o, t, u, n, ho, hc, hd⟩
section
variable {prog : Program} {w : World} {A : Around} {E : Value → Shared → Prop} {s : Shared} {g : Heap} {L : Addr} {m : Str → Option Value}
theorem keys_lt {x y : Addr} {i j k l : Int} {ox oy : Obj} {t u t' u' : Tok} {n n' : Nat} {Q : Bool → Shared → Prop} (hx : s.heap.get? x = some ox) (dx : ox.data = .seq #[.int i t, .int j u] n) (hy : s.heap.get? y = some oy) (dy : oy.data = .seq #[.int k t', .int l u'] n')
    (h : Q (decide (i < k ∨ (i = k ∧ j < l))) s) : wpAny (model prog w) A (keyLt' (tuples' true) (.ref x) (.ref y)) Q (fun _ _ => False) s := by
  refine kat_lt hx dx hy dy ?_
  refine kat_cons (wpAny_eqBool_int (kat_go (fun e => ?_) fun e => ?_))
  · have e : i = k := by simpa using e
    refine kat_yes (kat_cons (wpAny_eqBool_int (kat_go (fun e2 => ?_) fun e2 => ?_)))
    · have e2 : j = l := by simpa using e2
      refine kat_yes (kat_nil ?_)
      have : decide (i < k ∨ (i = k ∧ j < l)) = false := by simp; lia
      rw [this] at h
      exact h
    · refine kat_no (kat_one _ _ (PyProof.Rows.lt_int ?_))
      show Q (decide (j < l)) s
      have : decide (i < k ∨ (i = k ∧ j < l)) = decide (j < l) := by
        apply decide_eq_decide.mpr; lia
      rw [this] at h
      exact h
  · have e : i ≠ k := by simpa using e
    refine kat_no (oneLt_int ?_)
    have : decide (i < k ∨ (i = k ∧ j < l)) = decide (i < k) := by
      apply decide_eq_decide.mpr; lia
    rw [this] at h
    exact h
end
theorem sort_short {prog : Program} {w : World} {A : Around} {E : Value → Shared → Prop} {s : Shared} {g : Heap} {L : Addr} {m : Str → Option Value} {D : Addr} {vs : List Value} {n : Nat} {rest : List (Addr × Obj)} {Q : Value → Shared → Prop} (F : Fr g L s.heap m) (N : News g L s.heap ((D, PySem.W.listOf vs.toArray n) :: rest)) (hr : ∀ q ∈ rest, q.1 ≠ D) (h2 : vs.length < 2)
    (h : ∀ h' c, Fr g L h' m → News g L h' ((D, PySem.W.listOf vs.toArray c) :: rest) → Q .none { s with heap := h' }) : wpAny (model prog w) A (call (.builtin "list.sort") [.ref D]) Q E s := by
  have nz := N _ (.head _)
  have ho : s.heap.get? D = some (seqObj "list" vs.toArray n) := nz.1
  have ha : D < s.heap.objs.size := Heap.lt_size ho
  refine wpAny_call_entry slot_list_sort ⟨_, nz.1, rfl⟩ entry_list_sort ?_ (args_list_sort _)
  rw [list_sort_plain]
  refine wpAny_bind (listItems_at ho rfl ?_)
  refine wpAny_bind (listUpdate_at ho rfl ?_ (by rw [List.size_toArray, sizeLine_eq]; lia) (Nat.zero_le _))
  obtain ⟨e1, ho1⟩ : ∃ e1, (s.heap.update D (Obj.mapSeq fun _ => #[])).get? D = some (seqObj "list" #[] e1) := ⟨_, get?_update_seq ho (fun _ => #[])⟩
  refine wpAny_bind (seqEpoch_at ho1 rfl ?_)
  refine wpAny_bind (wpAny_newTuple ?_ (by show vs.length ≤ _; rw [sizeLine_eq]; lia))
  refine wpAny_bind (wpAny_newList ?_ (Nat.zero_le _))
  refine wpAny_holding ?_
  have ho6 : (((s.heap.update D (Obj.mapSeq fun _ => #[])).push (seqObj "tuple" vs.toArray 0)).push (seqObj "list" #[] 0)).get? D = some (seqObj "list" #[] e1) := by
    rw [Heap.get?_push_ne _ _ _ (by rw [size_push', Heap.size_update]; exact Nat.ne_of_lt (Nat.lt_succ_of_lt ha)), Heap.get?_push_ne _ _ _ (by rw [Heap.size_update]; exact Nat.ne_of_lt ha)]
    exact ho1
  show wpAny (model prog w) _ _ _ E { s with heap := ((s.heap.update D (Obj.mapSeq fun _ => #[])).push (seqObj "tuple" vs.toArray 0)).push (seqObj "list" #[] 0) }
  dsimp only
  have h2' : vs.toArray.size < 2 := by rw [List.size_toArray]; exact h2
  rw [if_pos h2', if_pos h2']
  refine wpAny_bind (wpAny_pure ?_)
  rw [StateT.run_pure]
  refine wpAny_bind (wpAny_pure ?_)
  dsimp only
  have hz : (vs.toArray.zip vs.toArray).map (·.2) = vs.toArray := by
    apply Array.toList_inj.mp
    simp [List.map_snd_zip]
  show wpAny _ _ (do let touched ← _; _) _ _ _
  refine wpAny_bind (seqEpoch_at ho6 rfl ?_)
  rw [show (arrOf (SortSt.mk' general' (vs.toArray.zip vs.toArray) #[] 7 none)) = vs.toArray.zip vs.toArray from rfl, hz]
  refine wpAny_bind (listUpdate_at ho6 rfl ?_ (Nat.zero_le _) (by rw [List.size_toArray, sizeLine_eq]; lia))
  simp only [bne_self_eq_false, Bool.false_eq_true, if_false]
  obtain ⟨c, hc⟩ := sortedHeap_at (out := vs.toArray) ho
  have old : ∀ b o, b ≠ D → s.heap.get? b = some o → (sortedHeap s.heap D vs vs.toArray).get? b = some o := fun b o n e => by rw [sortedHeap_old n (Heap.lt_size e)]; exact e
  refine wpAny_pure ⟨_, rfl, h _ c ⟨let ⟨o, es, ep, q, r⟩ := F.ns; ⟨o, es, ep, old _ _ (fun z => nz.2.1 z.symm) q, r⟩, fun b o e => old b o (fun z => by rw [z, nz.2.2] at e; cases e) (F.keep b o e), F.above⟩ fun q hq => ?_⟩
  rcases List.mem_cons.mp hq with rfl | hq
  · exact ⟨hc, nz.2⟩
  · have y := N q (.tail _ hq)
    exact ⟨old _ _ (hr q hq) y.1, y.2⟩
theorem kat_tups {w : World} {h : Heap} : ∀ (xs : TX), (∀ x ∈ xs, (TK w).is h x.1 x.2.1 ∧ ∃ r b : Nat, x.1 = [(r : Int), (b : Int)]) → ∃ fs, KatTups h (xs.map fun x => Value.ref x.2.1) fs ∧ fs.length = xs.length ∧ ∀ v ∈ fs, ∃ i t, v = Value.int i t
  | [], _ => ⟨[], .nil, rfl, fNm _⟩
  | x :: xs, hk => by
    obtain ⟨fs, a, b, c⟩ := kat_tups xs fun y hy => hk y (.tail _ hy)
    obtain ⟨hx, r, bb, e⟩ := hk x (.head _)
    rw [e] at hx
    obtain ⟨o, t, u, n, ho, hc, hd⟩ := key_items hx
    exact ⟨.int r t :: fs, .cons ho hc hd rfl a, by simp [b], fCm ⟨⟨_, _, rfl⟩, c⟩⟩
theorem tab_raw {w : World} {h : Heap} {D : Addr} {od : Obj} {xs : TX} (hD : h.get? D = some od) (T : TabObj w h od xs) : ∃ es ep, RawAt h D es ep ∧ es.toList = xs.map (entryOfKey (TK w)) := by
  obtain ⟨es, ep, hd, he⟩ := T.data
  exact ⟨es, ep, ⟨od, hD, T.exact_, hd⟩, he⟩
theorem pw_short {α : Type} {R : α → α → Prop} : ∀ {xs : List α}, xs.length < 2 → xs.Pairwise R
  | [], _ => .nil
  | [_], _ => List.pairwise_singleton _ _
  | _ :: _ :: r, h => absurd h (Nat.not_lt.mpr (Nat.le_add_left 2 r.length))
theorem sorted_keys {w : World} {A : Around} {E : Value → Shared → Prop} {s : Shared} {g : Heap} {L D : Addr} {m : Str → Option Value} {od : Obj} {xs : TX} {Q : Value → Shared → Prop} (hh : A.handled = none) (F : Fr g L s.heap m) (lo : (D == sysModules) = false) (hD : s.heap.get? D = some od) (T : TabObj w s.heap od xs)
    (hk : ∀ x ∈ xs, ∃ r b : Nat, x.1 = [(r : Int), (b : Int)] ∧ b < 100) (h64 : xs.length < 64)
    (h : ∀ D' h' tk (ys : TX) c, Fr g L h' m → Kept [L] s.heap h' → NA g L h' D' (PySem.W.listOf (ys.map fun x => Value.ref x.2.1).toArray c) → ys.Perm xs → ys.Pairwise (fun a b => rk a.1 ≤ rk b.1) → Q (.ref D') { s with heap := h', toks := tk }) :
    wpAny (model PySem.Challenge.rw_sj0046_01.row.prog w) A (call (.builtin "sorted") [.ref D]) Q E s := by
  obtain ⟨es, ep, raw, he⟩ := tab_raw hD T
  have hsz : es.size = xs.length := by rw [← Array.length_toList, he, List.length_map]
  obtain ⟨rest, N, H⟩ := see F [] (fNm _)
  try dsimp only [List.nil_append] at N
  refine kdu_sorted (raw_src (es := es) (ep := ep) lo) hh F N raw (by rw [hsz, sizeLine_eq]; lia) fun D' h1 tk vs F1 N1 lt1 hlen hP => ?_
  have hvs : vs = xs.map fun x => Value.ref x.2.1 := by
    apply List.ext_getElem?
    intro j
    by_cases hj : j < vs.length
    · obtain ⟨e, hee, hv⟩ := hP j _ (List.getElem?_eq_getElem hj)
      rw [List.getElem?_eq_getElem hj, hv]
      have : es.toList[j]? = some e := by rw [Array.getElem?_toList]; exact hee
      rw [he, List.getElem?_map] at this
      rw [List.getElem?_map]
      cases hx : xs[j]? with
      | none => rw [hx] at this; cases this
      | some x => rw [hx] at this; cases this; rfl
    · rw [List.getElem?_eq_none (by lia), List.getElem?_eq_none (by rw [List.length_map]; lia)]
  subst hvs
  have hr : ∀ q ∈ rest, q.1 ≠ D' := fun q m e => absurd (lt1 q m) (by rw [e]; exact Nat.lt_irrefl _)
  have k1 : Kept [L] s.heap h1 := seen H F1 fun q m => (N1 q (.tail _ m)).1
  by_cases h2 : xs.length < 2
  · refine sort_short F1 N1 hr (by rw [List.length_map]; exact h2) fun h' c F' N' => ?_
    refine h D' h' tk xs c F' (seen H F' fun q m => (N' q (.tail _ m)).1) (N' _ (.head _)) (List.Perm.refl _) ?_
    exact pw_short h2
  · have hlx : (xs.map fun x => Value.ref x.2.1).length = xs.length := List.length_map _
    refine kat_lsort (vs := xs.map fun x => Value.ref x.2.1) F1 N1 (UpdF.head hr) rfl (by lia) (by lia) fun e1 h2' F2 N2 => ?_
    have k2 : Kept [L] s.heap h2' := seen H F2 fun q m => (N2 q (.tail _ m)).1
    have keyat : ∀ x ∈ xs, (TK w).is h2' x.1 x.2.1 ∧ ∃ r b : Nat, x.1 = [(r : Int), (b : Int)] := fun x hx => by
      obtain ⟨r, b, e, _⟩ := hk x hx
      refine ⟨?_, r, b, e⟩
      obtain ⟨o, its, n, ho, hc, hd, r⟩ := T.keys x hx
      refine ⟨o, its, n, k2 _ _ ho (nm1 fun z => ?_), hc, hd, r⟩
      obtain ⟨oL, _, _, hL, hcL, _⟩ := F.ns
      have z : x.2.1 = L := z
      rw [z, hL] at ho
      cases ho
      rw [hcL] at hd
      cases hd
    obtain ⟨fs, t1, t2, t3⟩ := kat_tups xs keyat
    refine kat_kind (T := .type "int") t1 (by lia) (fun v hv => by obtain ⟨i, t, rfl⟩ := t3 v hv; exact Looks.of_pure rfl) rfl ?_
    let dx : List Int × Addr × Value := ([], 0, .none)
    rw [hlx]
    refine sort_ok (key := fun i => rk (xs.getD i dx).1) (fun i j C hi hj hc => ?_) (by lia) fun p hp hs => ?_
    · have ei : (xs.map fun x => Value.ref x.2.1).getD i Value.none = .ref (xs.getD i dx).2.1 := by simp [List.getD_eq_getElem?_getD, hi]
      have ej : (xs.map fun x => Value.ref x.2.1).getD j Value.none = .ref (xs.getD j dx).2.1 := by simp [List.getD_eq_getElem?_getD, hj]
      have mi : xs.getD i dx ∈ xs := by simp [List.getD_eq_getElem?_getD, hi]
      have mj : xs.getD j dx ∈ xs := by simp [List.getD_eq_getElem?_getD, hj]
      unfold kas_ask
      rw [ei, ej]
      obtain ⟨ri, bi, e1, b1⟩ := hk _ mi
      obtain ⟨rj, bj, e2, b2⟩ := hk _ mj
      have y1 := (keyat _ mi).1
      have y2 := (keyat _ mj).1
      rw [e1] at y1
      rw [e2] at y2
      obtain ⟨o1, u1, u2, n1, a1, a2, a3⟩ := key_items y1
      obtain ⟨o2, u3, u4, n2, b1', b2', b3⟩ := key_items y2
      refine keys_lt a1 a3 b1' b3 ?_
      have : decide ((ri : Int) < rj ∨ ((ri : Int) = rj ∧ (bi : Int) < bj)) = decide (rk (xs.getD i dx).1 < rk (xs.getD j dx).1) := by
        apply decide_eq_decide.mpr
        rw [e1, e2]
        show _ ↔ (ri : Int) * 100 + bi < (rj : Int) * 100 + bj
        lia
      rw [this]
      exact hc
    · refine KasFin.intro F2 N2 (UpdF.head hr) fun h3 c F3 N3 => ?_
      have hps := hp.size
      have eo : (p.toList.map fun i => (xs.map fun x => Value.ref x.2.1).getD i Value.none) = ((p.toList.map fun i => xs.getD i dx).map fun x => Value.ref x.2.1) := by
        rw [List.map_map]
        apply List.map_congr_left
        intro i hi
        have hi' : i < xs.length := by simpa using hp.mem_iff.mp hi
        simp [List.getD_eq_getElem?_getD, hi']
      have nn := N3 _ (.head _)
      refine h D' h3 tk (p.toList.map fun i => xs.getD i dx) c F3 (seen H F3 fun q m => (N3 q (.tail _ m)).1) ?_ ?_ ?_
      · rw [← eo]; exact nn
      · refine (hp.map _).trans (List.Perm.of_eq ?_)
        apply List.ext_getElem?
        intro j
        by_cases hj : j < xs.length
        · simp [hj, List.getD_eq_getElem?_getD]
        · rw [List.getElem?_eq_none (by simp; lia), List.getElem?_eq_none (by lia)]
      · rw [List.pairwise_iff_getElem]
        intro i j hi hj hij
        simp only [List.length_map, Array.length_toList] at hi hj
        have := hs i j (Nat.le_of_lt hij) (by lia)
        simp only [List.getElem_map, Array.getElem_toList]
        have e1 : p[i] = p.getD i 0 := by simp [Array.getD_eq_getD_getElem?, hi]
        have e2 : p[j] = p.getD j 0 := by simp [Array.getD_eq_getD_getElem?, hj]
        rw [e1, e2]
        exact this
section
variable {prog : Program} {w : World} {A : Around} {E : Value → Shared → Prop} {s : Shared} {K : Type} [DecidableEq K] {knd : HeapKind prog w K} {a b : Addr} {xs ys : List (K × Addr × Value)}
theorem tabs_same {nm : String} {Q : Bool → Shared → Prop} (la : (a == sysModules) = false) (lb : (b == sysModules) = false) (da : s.heap.DictOfH knd a xs) (db : s.heap.DictOfH knd b ys) (hu : knd.room A) (hl : xs.length = ys.length)
    (hrow : ∀ x ∈ xs, (∃ p, (x.1, p) ∈ ys) ∧ ∀ p, (x.1, p) ∈ ys → SeqAt.EqAt A s x.2.2 p.2 true) (h : Q true s) : wpAny (model prog w) A (Builtin.Dict.samePairs nm a b) Q E s := by
  obtain ⟨oa, es, ep, hoa, _, hda, hea, hka, _⟩ := da
  obtain ⟨ob, es', ep', hob, _, hdb, heb, hkb, hnb⟩ := db
  have hla : es.size = xs.length := by rw [← Array.length_toList, hea, List.length_map]
  have hlb : es'.size = ys.length := by rw [← Array.length_toList, heb, List.length_map]
  have hsz : es.size = es'.size := by lia
  unfold Builtin.Dict.samePairs Builtin.Dict.showsAll
  rw [if_neg (show ¬ (a == sysModules) = true by rw [la]; exact Bool.false_ne_true), if_neg (show ¬ (b == sysModules) = true by rw [lb]; exact Bool.false_ne_true)]
  refine wpAny_bind (wpAny_pure (wpAny_bind (wpAny_pure ?_)))
  refine wpAny_bind (wpAny_dictEntries hoa hda ?_)
  dsimp only
  refine wpAny_bind (wpAny_dictEntries hob hdb ?_)
  rw [if_neg (by rw [hsz]; simp)]
  refine wpAny_bind (wpAny_dictEpoch hoa hda ?_)
  refine wpAny_bind ?_
  rw [Std.Legacy.Range.forIn_eq_forIn_range']
  simp only [Std.Legacy.Range.size, Nat.sub_zero, Nat.add_sub_cancel, Nat.div_one]
  refine wpAny_forIn_list _ (fun rest q s' => s' = s ∧ q = (none, ()) ∧ ∃ i, rest = List.range' i (es.size - i) ∧ i ≤ es.size) _ ?_ ?_ _ _ ⟨rfl, rfl, 0, by simp, Nat.zero_le _⟩
  · rintro x rest q s' ⟨rfl, rfl, i, hr, hi⟩
    have hlt : i < es.size := by
      rcases Nat.lt_or_ge i es.size with h | h
      · exact h
      · rw [Nat.sub_eq_zero_of_le h] at hr; simp at hr
    obtain ⟨rfl, hrest⟩ : x = i ∧ rest = List.range' (i + 1) (es.size - (i + 1)) := by
      have e : es.size - i = (es.size - (i + 1)) + 1 := by lia
      rw [e, List.range'_succ] at hr
      injection hr with h1 h2
      exact ⟨h1, h2⟩
    refine wpAny_bind (wpAny_dictEntries hoa hda ?_)
    rw [Array.getElem?_eq_getElem hlt]
    have hlt' : x < xs.length := by lia
    have hee : es[x] = entryOfKey knd xs[x] := by
      have e1 : es.toList[x]? = some es[x] := by rw [Array.getElem?_toList]; exact Array.getElem?_eq_getElem hlt
      rw [hea, List.getElem?_map, List.getElem?_eq_getElem hlt'] at e1
      exact (Option.some.inj e1).symm
    obtain ⟨⟨p0, hp0⟩, hrw⟩ := hrow xs[x] (List.getElem_mem hlt')
    show wpAny _ _ (holding [es[x].key, es[x].val] _ >>= _) _ _ _
    rw [hee]
    refine wpAny_bind (wpAny_holding (wpAny_bind (wpAny_dictFind_heap (knd := knd) (k := xs[x].1) (a := xs[x].2.1) hu (hka _ (List.getElem_mem hlt')) hob hdb heb hkb hnb (fun hno => ?_) fun j p hj => ?_)))
    · obtain ⟨j, hj⟩ := List.getElem?_of_mem hp0
      exact absurd hj (hno j p0)
    · refine wpAny_bind (wpAny_dictEntries hob hdb ?_)
      have ej : es'[j]? = some (entryOfKey knd (xs[x].1, p)) := by
        rw [← Array.getElem?_toList, heb, List.getElem?_map, hj]; rfl
      rw [ej]
      refine wpAny_holding (hrw p (List.mem_of_getElem? hj) prog w _ _ ?_)
      show wpAny _ _ (if (!true) = true then _ else _) _ _ _
      rw [if_neg (by decide)]
      refine wpAny_bind (wpAny_dictEpoch hoa hda ?_)
      rw [if_neg (by simp)]
      exact wpAny_pure ⟨rfl, rfl, x + 1, hrest, hlt⟩
  · rintro q s' ⟨rfl, rfl, i, hr, hi⟩
    exact wpAny_pure h
theorem dictH_type {h : Heap} {d : Addr} (x : h.DictOfH knd d xs) : ∃ o, h.get? d = some o ∧ o.cls = .type "dict" := let ⟨o, _, _, ho, hc, _⟩ := x; ⟨o, ho, hc.1⟩
theorem tabs_ne {Q : Value → Shared → Prop} (la : (a == sysModules) = false) (lb : (b == sysModules) = false) (da : s.heap.DictOfH knd a xs) (db : s.heap.DictOfH knd b ys) (hu : A.units < cLine) (hr : knd.room A.in1) (hl : xs.length = ys.length)
    (hrow : ∀ x ∈ xs, (∃ p, (x.1, p) ∈ ys) ∧ ∀ p, (x.1, p) ∈ ys → SeqAt.EqAt A.in1 s x.2.2 p.2 true) (h : Q (.bool false) s) : wpAny (model prog w) A (compareOp .NotEq (.ref a) (.ref b)) Q E s := by
  obtain ⟨oa, hoa, ca⟩ := dictH_type da
  obtain ⟨ob, hob, cb⟩ := dictH_type db
  have ta : s.TypeIs (.ref a) "dict" := ⟨oa, hoa, ca⟩
  have tb : s.TypeIs (.ref b) "dict" := ⟨ob, hob, cb⟩
  refine wpAny_richCompare_same_room (op := .NotEq) ta tb PySem.F.slot_dict_ne (wpAny_call_entry PySem.F.slot_dict_ne ta PySem.F.entry_dict_ne ?_ (PySem.F.args_dict_ne_2 _ _)) hu
  show wpAny _ _ (Builtin.Dict.dictSlotArgs "__ne__" ⟨[.ref a, .ref b], []⟩ >>= _) _ _ s
  refine wpAny_bind ?_
  unfold Builtin.Dict.dictSlotArgs
  refine wpAny_bind (wpAny_notOrdered_dict ta ?_)
  show wpAny _ _ (pure (Value.ref a, Value.ref b)) _ _ s
  refine wpAny_pure ?_
  refine wpAny_bind (wpAny_isInstance (T := "dict") tb PySem.F.sub_dict_dict ?_)
  simp only [Bool.not_true, Bool.false_eq_true, if_false]
  refine wpAny_bind (wpAny_pure (wpAny_bind (wpAny_pure ?_)))
  refine wpAny_bind (tabs_same la lb da db hr hl hrow ?_)
  refine wpAny_pure ⟨_, rfl, ?_, ?_⟩
  · exact fun x => nomatch x
  · exact h
end
theorem rising_pw : ∀ (l : List Str) (p : Str), risingS p l = true → (p :: l).Pairwise (fun a b => ¬ b.cps.toList < a.cps.toList)
  | [], p, _ => List.pairwise_singleton _ _
  | x :: r, p, h => by
    have h' : (!ltCps x.cps.toList p.cps.toList && risingS x r) = true := h
    rw [Bool.and_eq_true, ltCps_eq] at h'
    have h1 : ¬ x.cps.toList < p.cps.toList := by simpa using h'.1
    have ih := rising_pw r x h'.2
    refine List.pairwise_cons.mpr ⟨fun y hy => ?_, ih⟩
    rcases List.mem_cons.mp hy with rfl | hy
    · exact h1
    · have h2 := (List.pairwise_cons.mp ih).1 y hy
      intro h3
      rcases PyProof.Rows.strKind.negTrans y.cps.toList x.cps.toList p.cps.toList (by simpa using h3) with z | z
      · exact h2 (by simpa using z)
      · exact h1 (by simpa using z)
theorem sorted_pw : ∀ {l : List Str}, sortedS l = true → l.Pairwise (fun a b => ¬ b.cps.toList < a.cps.toList)
  | [], _ => .nil
  | x :: r, h => rising_pw r x h
theorem sorted_same {a b : List Str} (hp : a.Perm b) (ha : sortedS a = true) (hb : sortedS b = true) : a = b := by
  refine List.Perm.eq_of_pairwise (fun x y _ _ h1 h2 => ?_) (sorted_pw ha) (sorted_pw hb) hp
  have e := PyProof.Rows.strKind.total x.cps.toList y.cps.toList (by simpa using h2) (by simpa using h1)
  obtain ⟨⟨x⟩⟩ := x
  obtain ⟨⟨y⟩⟩ := y
  simpa using e
section
variable {w : World} {A : Around} {E : Value → Shared → Prop} {s : Shared} {g : Heap} {L D : Addr} {m : Str → Option Value} {Q : Value → Shared → Prop}
theorem sort_strs {prog : Program} {vs : List Value} {ss : List Str} {n : Nat} {rest : List (Addr × Obj)} (F : Fr g L s.heap m) (N : News g L s.heap ((D, PySem.W.listOf vs.toArray n) :: rest)) (hr : ∀ q ∈ rest, q.1 ≠ D) (hS : StrsAre vs ss) (h64 : vs.length < 64)
    (h : ∀ h' c vs' ss', Fr g L h' m → News g L h' ((D, PySem.W.listOf (List.toArray vs') c) :: rest) → StrsAre vs' ss' → ss'.Perm ss → sortedS ss' = true → Q .none { s with heap := h' }) : wpAny (model prog w) A (call (.builtin "list.sort") [.ref D]) Q E s := by
  have nz := N _ (.head _)
  have ho : s.heap.get? D = some (seqObj "list" vs.toArray n) := nz.1
  refine wpAny_call_entry slot_list_sort ⟨_, nz.1, rfl⟩ entry_list_sort ?_ (args_list_sort _)
  refine list_sort_treeK strKind_oneLt ho hS.keysOf (fun v₁ v₂ rest e => keyKind_strs (by rw [← e]; exact hS)) h64 fun st' hp hs => ?_
  obtain ⟨ss', h1, h2, h3⟩ := sorted_out_str hS hp hs
  obtain ⟨c, hc⟩ := sortedHeap_at (out := (arrOf st').map (·.2)) ho
  have old : ∀ b o, b ≠ D → s.heap.get? b = some o → (sortedHeap s.heap D vs ((arrOf st').map (·.2))).get? b = some o := fun b o n e => by rw [sortedHeap_old n (Heap.lt_size e)]; exact e
  refine ⟨_, rfl, h _ c ((arrOf st').map (·.2)).toList ss' ⟨let ⟨o, es, ep, q, r⟩ := F.ns; ⟨o, es, ep, old _ _ (fun z => nz.2.1 z.symm) q, r⟩, fun b o e => old b o (fun z => by rw [z, nz.2.2] at e; cases e) (F.keep b o e), F.above⟩ (fun q hq => ?_) h1 h2 h3⟩
  rcases List.mem_cons.mp hq with rfl | hq
  · exact ⟨by rw [Array.toArray_toList]; exact hc, nz.2⟩
  · have y := N q (.tail _ hq)
    exact ⟨old _ _ (hr q hq) y.1, y.2⟩
theorem strs_of : ∀ (vs : List Value) (ss : List Str), vs.length = ss.length → (∀ (j : Nat) (v : Value), vs[j]? = some v → ∃ x t, ss[j]? = some x ∧ v = Value.str x t) → StrsAre vs ss
  | [], [], _, _ => .nil
  | [], _ :: _, h, _ => by cases h
  | _ :: _, [], h, _ => by cases h
  | v :: vs, x :: ss, h, k => by
    obtain ⟨y, t, e, rfl⟩ := k 0 v rfl
    cases e
    exact .cons _ _ (strs_of vs ss (by simpa using h) fun j v e => k (j + 1) v e)
theorem sorted_names {om : Obj} {kvs : List (Str × Value)} (hh : A.handled = none) (F : Fr g L s.heap m) (lo : (D == sysModules) = false) (hD : s.heap.get? D = some om) (T : DObj (SK w) om kvs) (h64 : kvs.length < 64)
    (h : ∀ D' h' tk vs' ss' c, Fr g L h' m → Kept [L] s.heap h' → NA g L h' D' (PySem.W.listOf (List.toArray vs') c) → StrsAre vs' ss' → ss'.Perm (kvs.map (·.1)) → sortedS ss' = true → Q (.ref D') { s with heap := h', toks := tk }) :
    wpAny (model PySem.Challenge.rw_sj0046_01.row.prog w) A (call (.builtin "sorted") [.ref D]) Q E s := by
  obtain ⟨ep, da⟩ := (T.at hD).dictAt
  obtain ⟨rest, N, H⟩ := see F [] (fNm _)
  try dsimp only [List.nil_append] at N
  refine kdu_sorted (kdl_dict (kvs := kvs) (ep := ep) lo) hh F N da (by rw [sizeLine_eq]; lia) fun D' h1 tk vs F1 N1 lt1 hlen hP => ?_
  have hS : StrsAre vs (kvs.map (·.1)) := by
    refine strs_of _ _ (by rw [List.length_map]; exact hlen) fun j v e => ?_
    obtain ⟨k, x, e1, e2⟩ := hP j v e
    refine ⟨k, ?_⟩
    obtain ⟨t, rfl⟩ := Value.isStrOf_shape e2
    exact ⟨t, by rw [List.getElem?_map, e1]; rfl, rfl⟩
  have hr : ∀ q ∈ rest, q.1 ≠ D' := fun q m e => absurd (lt1 q m) (by rw [e]; exact Nat.lt_irrefl _)
  refine sort_strs F1 N1 hr hS (by lia) fun h' c vs' ss' F' N' a1 a2 a3 => ?_
  exact h D' h' tk vs' ss' c F' (seen H F' fun q m => (N' q (.tail _ m)).1) (N' _ (.head _)) a1 a2 a3
theorem sorted_strs_l {its : Array Value} {n : Nat} {ss : List Str} (F : Fr g L s.heap m) (hD : s.heap.get? D = some (PySem.W.listOf its n)) (hS : StrsAre its.toList ss) (h64 : its.size < 64)
    (h : ∀ D' h' tk vs' ss' c, Fr g L h' m → Kept [L] s.heap h' → NA g L h' D' (PySem.W.listOf (List.toArray vs') c) → StrsAre vs' ss' → ss'.Perm ss → sortedS ss' = true → Q (.ref D') { s with heap := h', toks := tk }) :
    wpAny (model PySem.Challenge.rw_sj0046_01.row.prog w) A (call (.builtin "sorted") [.ref D]) Q E s := by
  obtain ⟨rest, N, H⟩ := see F [] (fNm _)
  try dsimp only [List.nil_append] at N
  refine sorted_N_str F N (l := D) (vs := its.toList) ?_ hS (by simpa using h64) fun h' vs' ss' e F' N' a1 a2 a3 => ?_
  · rw [Array.toArray_toList]; exact listAt hD
  · exact h _ h' _ vs' ss' e F' (seen H F' fun q m => (N' q (.tail _ m)).1) (N' _ (.head _)) a1 a2 a3
end
section
variable {w : World} {A : Around} {E : Value → Shared → Prop} {s : Shared} {d a : Addr} {xs : TX} {ks : List Int}
theorem get_meth {pl : Sem Bool} {Q : Value × List Value → Shared → Prop} (hd : s.heap.DictOfH (TK w) d xs) (h : Q (.builtin "dict.get", [.ref d]) s) : wpAny (model PySem.Challenge.rw_sj0046_01.row.prog w) A (getMethod (.ref d) (Str.ofString "get") pl) Q E s :=
  getMethod_builtin hd.typeIs PySem.F.plainAttrs_dict PySem.F.slot_dict_get PySem.F.type_dict_get (dictOfH_noDict hd) h
theorem get_call {dflt : Value} {Q : Value → Shared → Prop} (hu : A.units + 1 < cLine) (hkey : (TK w).is s.heap ks a) (lo : (d == sysModules) = false) (hd : s.heap.DictOfH (TK w) d xs)
    (h : ∀ tk, Q (((atKey xs ks).map (·.2)).getD dflt) { s with toks := tk }) : wpAny (model PySem.Challenge.rw_sj0046_01.row.prog w) A (call (.builtin "dict.get") [.ref d, .ref a, dflt]) Q E s :=
  call_meetsIn PySem.F.slot_dict_get hd.typeIs PySem.F.entry_dict_get (PySem.F.args_dict_get_3 _ _ _) (meetsH_dict_get_default (TK w) d a lo dflt) ⟨tupleKind_room_in1 hu, ks, xs, hkey, hd, h _⟩
end
theorem atKey_some {K : Type} [DecidableEq K] : ∀ {xs : List (K × Addr × Value)} {k : K} {p : Addr × Value}, atKey xs k = some p → (k, p) ∈ xs
  | x :: xs, k, p, h => by
    unfold atKey at h
    rw [List.find?_cons] at h
    by_cases e : x.1 = k
    · rw [decide_eq_true e] at h
      have h : x.2 = p := Option.some.inj h
      rw [← e, ← h]
      exact .head _
    · rw [decide_eq_false e] at h
      exact .tail _ (atKey_some h)
theorem atKey_none {K : Type} [DecidableEq K] {xs : List (K × Addr × Value)} {k : K} (h : atKey xs k = none) : ∀ x ∈ xs, x.1 ≠ k := fun x hx e => by
  unfold atKey at h
  have h : xs.find? (fun x => decide (x.1 = k)) = none := by
    cases q : xs.find? (fun x => decide (x.1 = k)) with
    | none => rfl
    | some y => rw [q] at h; cases h
  exact absurd e (by simpa using List.find?_eq_none.mp h x hx)
noncomputable def NonTup (h : Heap) (s : Addr) : Prop := ∀ o its n, h.get? s = some o → o.cls = .type "tuple" → o.data = .seq its n → False
theorem NonTup.cls {h : Heap} {s : Addr} {o : Obj} (e : h.get? s = some o) (c : o.cls ≠ .type "tuple") : NonTup h s := fun o' _ _ e' c' _ => by
  rw [e] at e'; cases e'; exact c c'
theorem NonTup.none {h : Heap} {s : Addr} (e : h.get? s = none) : NonTup h s := fun o' _ _ e' _ _ => by rw [e] at e'; cases e'
theorem NonTup.fr {g h : Heap} {L : Addr} {m : Str → Option Value} (F : Fr g L h m) : NonTup h L := fun o its n e _ d => by
  obtain ⟨oL, _, _, hL, hd, _⟩ := F.ns
  rw [hL] at e; cases e; rw [hd] at d; cases d
theorem NonTup.list {h : Heap} {s : Addr} {its : Array Value} {n : Nat} (e : h.get? s = some (PySem.W.listOf its n)) : NonTup h s := .cls e (fun q => by injection q with q; exact absurd q (by decide))
theorem NonTup.dict {h : Heap} {s : Addr} {o : Obj} (e : h.get? s = some o) (x : o.ExactDict) : NonTup h s := .cls e (fun q => by have := x.1.symm.trans q; injection this with q; exact absurd q (by decide))
noncomputable def TupAt (h : Heap) (a : Addr) (its : Array Value) : Prop := ∃ o n, h.get? a = some o ∧ o.cls = .type "tuple" ∧ o.data = .seq its n
theorem TupAt.but {S : List Addr} {h h' : Heap} {a : Addr} {its : Array Value} (x : TupAt h a its) (k : Kept S h h') (hS : ∀ s ∈ S, NonTup h s) : TupAt h' a its :=
  let ⟨o, n, e, c, d⟩ := x; ⟨o, n, k _ _ e fun m => hS _ m _ _ _ e c d, c, d⟩
theorem tab_but {S : List Addr} {w : World} {h h' : Heap} {od : Obj} {xs : TX} (T : TabObj w h od xs) (k : Kept S h h') (hS : ∀ s ∈ S, NonTup h s) : TabObj w h' od xs :=
  ⟨T.exact_, T.data, fun x hx => let ⟨o, its, n, e, c, d, r⟩ := T.keys x hx; ⟨o, its, n, k _ _ e fun m => hS _ m _ _ _ e c d, c, d, r⟩, T.nodup⟩

structure Cell where
  kind : String
  out : Int
  pins : List Int
  inv : Option Int
  name : String
  init : Int
noncomputable def Cell.data (c : Cell) : PyData := .tuple [.str (Str.ofString c.kind), .int c.out, .tuple (c.pins.map .int), .tuple (match c.inv with | some x => [.int x, .str (Str.ofString c.name), .int c.init] | none => [.str (Str.ofString c.name), .int c.init])]
noncomputable def CellAt (h : Heap) (v : Value) (c : Cell) : Prop := ∃ a pa ma pits t1 t2, v = .ref a ∧ TupAt h a #[.str (Str.ofString c.kind) t1, .int c.out t2, .ref pa, .ref ma] ∧ TupAt h pa pits ∧ PyProof.Rows.IntsAre pits.toList c.pins ∧
  match c.inv with
  | some x => ∃ t3 t4 t5, TupAt h ma #[.int x t3, .str (Str.ofString c.name) t4, .int c.init t5]
  | none => ∃ t4 t5, TupAt h ma #[.str (Str.ofString c.name) t4, .int c.init t5]
theorem CellAt.but {S : List Addr} {h h' : Heap} {v : Value} {c : Cell} (x : CellAt h v c) (k : Kept S h h') (hS : ∀ s ∈ S, NonTup h s) : CellAt h' v c := by
  obtain ⟨a, pa, ma, pits, t1, t2, e, x1, x2, x3, x4⟩ := x
  refine ⟨a, pa, ma, pits, t1, t2, e, x1.but k hS, x2.but k hS, x3, ?_⟩
  cases hc : c.inv with
  | some y => rw [hc] at x4; obtain ⟨a, b, d, x4⟩ := x4; exact ⟨a, b, d, x4.but k hS⟩
  | none => rw [hc] at x4; obtain ⟨a, b, x4⟩ := x4; exact ⟨a, b, x4.but k hS⟩
theorem ints_reads (h : Heap) : ∀ {vs : List Value} {l : List Int}, PyProof.Rows.IntsAre vs l → ReadsAll h vs (l.map .int) []
  | _, _, .nil => .nil
  | _, _, .cons n t r => ReadsAll.cons (as := []) (bs := []) (.int n t) (ints_reads h r)
theorem TupAt.reads {h : Heap} {a : Addr} {its : Array Value} {ds : List PyData} {as : List Addr} (x : TupAt h a its) (r : ReadsAll h its.toList ds as) : Reads h (.ref a) (.tuple ds) as :=
  let ⟨_, _, e, c, d⟩ := x; .tuple e c d r
theorem CellAt.reads {h : Heap} {v : Value} {c : Cell} (x : CellAt h v c) : Reads h v c.data [] := by
  obtain ⟨a, pa, ma, pits, t1, t2, rfl, x1, x2, x3, x4⟩ := x
  have r2 := x2.reads (ints_reads h x3)
  have rm : Reads h (.ref ma) (.tuple (match c.inv with | some x => [.int x, .str (Str.ofString c.name), .int c.init] | none => [.str (Str.ofString c.name), .int c.init])) [] := by
    cases hc : c.inv with
    | some y =>
      rw [hc] at x4
      obtain ⟨t3, t4, t5, x4⟩ := x4
      exact x4.reads (ReadsAll.cons (as := []) (bs := []) (.int _ _) (ReadsAll.cons (as := []) (bs := []) (.str _ _) (ReadsAll.cons (as := []) (bs := []) (.int _ _) .nil)))
    | none =>
      rw [hc] at x4
      obtain ⟨t4, t5, x4⟩ := x4
      exact x4.reads (ReadsAll.cons (as := []) (bs := []) (.str _ _) (ReadsAll.cons (as := []) (bs := []) (.int _ _) .nil))
  exact x1.reads (ReadsAll.cons (as := []) (bs := []) (.str _ _) (ReadsAll.cons (as := []) (bs := []) (.int _ _) (ReadsAll.cons (as := []) (bs := []) r2 (ReadsAll.cons (as := []) (bs := []) rm .nil))))
inductive CellsAt (h : Heap) : List Value → List Cell → Prop
  | nil : CellsAt h [] []
  | cons {v c vs cs} : CellAt h v c → CellsAt h vs cs → CellsAt h (v :: vs) (c :: cs)
theorem CellsAt.but {S : List Addr} {h h' : Heap} (k : Kept S h h') (hS : ∀ s ∈ S, NonTup h s) : ∀ {vs : List Value} {cs : List Cell}, CellsAt h vs cs → CellsAt h' vs cs
  | _, _, .nil => .nil
  | _, _, .cons x r => .cons (x.but k hS) (r.but k hS)
theorem CellsAt.snoc {h : Heap} {v : Value} {c : Cell} (x : CellAt h v c) : ∀ {vs : List Value} {cs : List Cell}, CellsAt h vs cs → CellsAt h (vs ++ [v]) (cs ++ [c])
  | _, _, .nil => .cons x .nil
  | _, _, .cons y r => .cons y (r.snoc x)
theorem CellsAt.reads {h : Heap} : ∀ {vs : List Value} {cs : List Cell}, CellsAt h vs cs → ReadsAll h vs (cs.map Cell.data) []
  | _, _, .nil => .nil
  | _, _, .cons x r => ReadsAll.cons (as := []) (bs := []) x.reads r.reads
theorem CellsAt.len {h : Heap} : ∀ {vs : List Value} {cs : List Cell}, CellsAt h vs cs → vs.length = cs.length
  | _, _, .nil => rfl
  | _, _, .cons _ r => congrArg (· + 1) r.len

mutual
theorem noMix_self : ∀ d : PyData, d.canLay0 = true → SeqAt.noMix d d = true
  | .none, _ => rfl
  | .bool _, _ => rfl
  | .int _, _ => rfl
  | .str _, _ => rfl
  | .list xs, h => by rw [SeqAt.noMix]; exact noMixAll_self xs (by rw [PyData.canLay0] at h; exact h)
  | .tuple xs, h => by rw [SeqAt.noMix]; exact noMixAll_self xs (by rw [PyData.canLay0] at h; exact h)
  | .dict _, h => by rw [PyData.canLay0] at h; cases h
theorem noMixAll_self : ∀ ds : List PyData, PyData.canLayAll0 ds = true → SeqAt.noMixAll ds ds = true
  | [], _ => rfl
  | x :: xs, h => by
    rw [PyData.canLayAll0, Bool.and_eq_true] at h
    rw [SeqAt.noMixAll, noMix_self x h.1, noMixAll_self xs h.2]; rfl
end
theorem eqv_self {d : PyData} (h : d.canLay0 = true) : PyData.eqv d d = true := by
  rw [← SeqAt.same_eq_eqv d d (noMix_self d h)]
  exact same_self d
theorem ints_lay : ∀ l : List Int, PyData.canLayAll0 (l.map .int) = true ∧ PyData.depthAll (l.map .int) = 0
  | [] => ⟨rfl, rfl⟩
  | x :: r => by
    obtain ⟨a, b⟩ := ints_lay r
    exact ⟨by show (true && _) = true; rw [a]; rfl, by show max 0 _ = 0; rw [b]; rfl⟩
noncomputable def NamesAt (h : Heap) (a : Addr) : Prop := ∃ arr n, h.get? a = some (PySem.W.listOf arr n) ∧ arr.size = 5 ∧ ∀ r : Nat, r < 5 → ∃ l its m, arr[r]? = some (.ref l) ∧ h.get? l = some (PySem.W.listOf its m) ∧ its.size = widthAt r ∧ ∀ b : Nat, b < widthAt r → ∃ t, its[b]? = some (.str (Str.ofString (nameAt r b)) t)
noncomputable def PathsAt (h : Heap) (a : Addr) : Prop := ∃ arr n, h.get? a = some (PySem.W.listOf arr n) ∧ arr.size = 5 ∧ ∀ r : Nat, r < 5 → ∃ t, arr[r]? = some (.str (Str.ofString (pathAt r)) t)
theorem lt2 {p : Nat → Prop} (a : p 0) (b : p 1) : ∀ i, i < 2 → p i
  | 0, _ => a
  | 1, _ => b
theorem lt1 {p : Nat → Prop} (a : p 0) : ∀ i, i < 1 → p i
  | 0, _ => a
theorem lt3 {p : Nat → Prop} (a : p 0) (b : p 1) (c : p 2) : ∀ i, i < 3 → p i
  | 0, _ => a
  | 1, _ => b
  | 2, _ => c
theorem lt4 {p : Nat → Prop} (a : p 0) (b : p 1) (c : p 2) (d : p 3) : ∀ i, i < 4 → p i
  | 0, _ => a
  | 1, _ => b
  | 2, _ => c
  | 3, _ => d
theorem lt5 {p : Nat → Prop} (a : p 0) (b : p 1) (c : p 2) (d : p 3) (e : p 4) : ∀ i, i < 5 → p i
  | 0, _ => a
  | 1, _ => b
  | 2, _ => c
  | 3, _ => d
  | 4, _ => e
set_option maxHeartbeats 4000000 in
theorem names_spec {w : World} {A : Around} {s : Shared} {base : Heap} {outer : List Env} {mean : ExcName → Option Value} {mg mb : Str → Option Value} {R : Result → Shared → Prop}
    (B : Below A base outer s.heap) (XB : (Mine.hd.heap_39 w.params).In base) (TB : Top Mine.hd.view_39 (looseW Mine.hd.view_39 [Str.ofString "GateloomError"]) mean mg mb base) (hroom : A.depth < 650)
    (hR : ∀ h' tk a, Kept [] s.heap h' → s.heap.get? a = none → NamesAt h' a → R (.ok (.ret (.ref a))) { s with heap := h', toks := tk }) :
    codeAny (model PySem.Challenge.rw_sj0046_01.row.prog w) A (.call (.ref 341) ⟨[], []⟩) R s := by
  refine hold fun gP kont => ?_
  obtain ⟨h, g, d, tt, os⟩ := s
  refine kont ?_
  clear kont gP
  refine' enter (binds := []) [] B XB TB ?q1 ?q2 ?q3 ?k6 ?k7 ?k8 ?k9 ?kB ?_ ?c2 ?c3 ?c4 ?c5
  case k8 => exact Nat.lt_of_lt_of_le hroom (by decide)
  tb_start
  case q1 => exact fNm _
  case q2 => exact fNm _
  case q3 => exact fun _ _ => fNm _
  intro gg L h₁ hg1 hg2 hL F N B' X' T'
  try dsimp only
  k_steps
  rename Fr _ _ _ _ => F4
  rename News _ _ _ _ => N4
  refine hR _ _ _ (kept_end hg1 F4.keep (fNm _)) (fresh_end hg1 (N4 _ (.head _)).2.2 (fNm _)) ⟨_, _, (N4 _ (.head _)).1, rfl, lt5 ?_ ?_ ?_ ?_ ?_⟩
  · exact ⟨_, _, _, rfl, (N4 _ (.tail _ (.tail _ (.tail _ (.tail _ (.tail _ (.head _))))))).1, rfl, lt4 ⟨_, rfl⟩ ⟨_, rfl⟩ ⟨_, rfl⟩ ⟨_, rfl⟩⟩
  · exact ⟨_, _, _, rfl, (N4 _ (.tail _ (.tail _ (.tail _ (.tail _ (.head _)))))).1, rfl, lt2 ⟨_, rfl⟩ ⟨_, rfl⟩⟩
  · exact ⟨_, _, _, rfl, (N4 _ (.tail _ (.tail _ (.tail _ (.head _))))).1, rfl, lt1 ⟨_, rfl⟩⟩
  · exact ⟨_, _, _, rfl, (N4 _ (.tail _ (.tail _ (.head _)))).1, rfl, lt3 ⟨_, rfl⟩ ⟨_, rfl⟩ ⟨_, rfl⟩⟩
  · exact ⟨_, _, _, rfl, (N4 _ (.tail _ (.head _))).1, rfl, lt2 ⟨_, rfl⟩ ⟨_, rfl⟩⟩
set_option maxHeartbeats 4000000 in
theorem paths_spec {w : World} {A : Around} {s : Shared} {base : Heap} {outer : List Env} {mean : ExcName → Option Value} {mg mb : Str → Option Value} {R : Result → Shared → Prop}
    (B : Below A base outer s.heap) (XB : (Mine.hd.heap_39 w.params).In base) (TB : Top Mine.hd.view_39 (looseW Mine.hd.view_39 [Str.ofString "GateloomError"]) mean mg mb base) (hroom : A.depth < 650)
    (hR : ∀ h' tk a, Kept [] s.heap h' → s.heap.get? a = none → PathsAt h' a → R (.ok (.ret (.ref a))) { s with heap := h', toks := tk }) :
    codeAny (model PySem.Challenge.rw_sj0046_01.row.prog w) A (.call (.ref 348) ⟨[], []⟩) R s := by
  refine hold fun gP kont => ?_
  obtain ⟨h, g, d, tt, os⟩ := s
  refine kont ?_
  clear kont gP
  refine' enter (binds := []) [] B XB TB ?q1 ?q2 ?q3 ?k6 ?k7 ?k8 ?k9 ?kB ?_ ?c2 ?c3 ?c4 ?c5
  case k8 => exact Nat.lt_of_lt_of_le hroom (by decide)
  tb_start
  case q1 => exact fNm _
  case q2 => exact fNm _
  case q3 => exact fun _ _ => fNm _
  intro gg L h₁ hg1 hg2 hL F N B' X' T'
  try dsimp only
  k_steps
  rename Fr _ _ _ _ => F4
  rename News _ _ _ _ => N4
  exact hR _ _ _ (kept_end hg1 F4.keep (fNm _)) (fresh_end hg1 (N4 _ (.head _)).2.2 (fNm _)) ⟨_, _, (N4 _ (.head _)).1, rfl, lt5 ⟨_, rfl⟩ ⟨_, rfl⟩ ⟨_, rfl⟩ ⟨_, rfl⟩ ⟨_, rfl⟩⟩
theorem name_ok : ∀ r : Nat, r < 5 → ∀ b : Nat, b < widthAt r → PyData.strOk (Str.ofString (nameAt r b)) = true :=
  lt5 (lt4 (by decide +kernel) (by decide +kernel) (by decide +kernel) (by decide +kernel)) (lt2 (by decide +kernel) (by decide +kernel)) (lt1 (by decide +kernel)) (lt3 (by decide +kernel) (by decide +kernel) (by decide +kernel)) (lt2 (by decide +kernel) (by decide +kernel))
theorem path_ok : ∀ r : Nat, r < 5 → PyData.strOk (Str.ofString (pathAt r)) = true := lt5 (by decide +kernel) (by decide +kernel) (by decide +kernel) (by decide +kernel) (by decide +kernel)
noncomputable def CellOk (c : Cell) : Prop := PyData.strOk (Str.ofString c.kind) = true ∧ PyData.strOk (Str.ofString c.name) = true
theorem cell_lay {c : Cell} (h : CellOk c) : c.data.canLay0 = true ∧ c.data.depth ≤ 2 := by
  obtain ⟨a, b⟩ := ints_lay c.pins
  unfold Cell.data
  cases c.inv with
  | some x =>
    refine ⟨?_, ?_⟩
    · simp only [PyData.canLay0, PyData.canLayAll0, h.1, h.2, a, Bool.and_self]
    · simp only [PyData.depth, PyData.depthAll, b]; decide
  | none =>
    refine ⟨?_, ?_⟩
    · simp only [PyData.canLay0, PyData.canLayAll0, h.1, h.2, a, Bool.and_self]
    · simp only [PyData.depth, PyData.depthAll, b]; decide
theorem cells_lay : ∀ {cs : List Cell}, (∀ c ∈ cs, CellOk c) → PyData.canLayAll0 (cs.map Cell.data) = true ∧ PyData.depthAll (cs.map Cell.data) ≤ 2
  | [], _ => ⟨rfl, Nat.zero_le _⟩
  | c :: cs, h => by
    obtain ⟨a, b⟩ := cell_lay (h c (.head _))
    obtain ⟨x, y⟩ := cells_lay fun d hd => h d (.tail _ hd)
    refine ⟨?_, ?_⟩
    · show (_ && _) = true; rw [a, x]; rfl
    · show max _ _ ≤ 2; lia
theorem cells_shaped {cs : List Cell} (h : ∀ c ∈ cs, CellOk c) : SeqAt.shaped (.list (cs.map Cell.data)) = true := by
  obtain ⟨a, b⟩ := cells_lay h
  unfold SeqAt.shaped
  rw [Bool.and_eq_true]
  exact ⟨a, decide_eq_true (by show PyData.depthAll _ + 1 ≤ 64; lia)⟩
theorem strs_shaped {ss : List Str} (h : ∀ x ∈ ss, PyData.strOk x = true) : SeqAt.shaped (.list (ss.map .str)) = true := by
  have : PyData.canLayAll0 (ss.map .str) = true ∧ PyData.depthAll (ss.map .str) = 0 := by
    induction ss with
    | nil => exact ⟨rfl, rfl⟩
    | cons x r ih =>
      obtain ⟨a, b⟩ := ih fun y hy => h y (.tail _ hy)
      exact ⟨by show (_ && _) = true; rw [a]; exact (by rw [show PyData.canLay0 (.str x) = true from h x (.head _)]; rfl), by show max 0 _ = 0; rw [b]; rfl⟩
  unfold SeqAt.shaped
  rw [Bool.and_eq_true]
  exact ⟨this.1, decide_eq_true (by show PyData.depthAll _ + 1 ≤ 64; lia)⟩
theorem err_shaped {k p : Str} {i : Int} (hk : PyData.strOk k = true) (hp : PyData.strOk p = true) : SeqAt.shaped (.tuple [.str k, .int i, .str p]) = true := by
  unfold SeqAt.shaped
  rw [Bool.and_eq_true]
  refine ⟨?_, decide_eq_true (by show max 0 (max 0 (max 0 0)) + 1 ≤ 64; decide)⟩
  show (PyData.strOk k && (true && (PyData.strOk p && true))) = true
  rw [hk, hp]; rfl
section
variable {prog : Program} {w : World} {A : Around} {E : Value → Shared → Prop} {s : Shared} {Q : Value → Shared → Prop} {v v' : Value} {d : PyData} {as bs : List Addr}
theorem data_ne (ra : Reads s.heap v d as) (rb : Reads s.heap v' d bs) (hs : SeqAt.shaped d = true) (hu : A.units + 64 < cLine) (h : Q (.bool false) s) : wpAny (model prog w) A (compareOp .NotEq v v') Q E s :=
  ne_dataH ra rb hs hs hu (by rw [eqv_self (by unfold SeqAt.shaped at hs; exact (Bool.and_eq_true_iff.mp hs).1)]; exact h)
theorem data_eq (ra : Reads s.heap v d as) (rb : Reads s.heap v' d bs) (hs : SeqAt.shaped d = true) (hu : A.units + 64 < cLine) (h : Q (.bool true) s) : wpAny (model prog w) A (compareOp .Eq v v') Q E s :=
  eq_dataH ra rb hs hs hu (by rw [eqv_self (by unfold SeqAt.shaped at hs; exact (Bool.and_eq_true_iff.mp hs).1)]; exact h)
end
theorem list_reads {h : Heap} {a : Addr} {its : Array Value} {n : Nat} {ds : List PyData} {as : List Addr} (e : h.get? a = some (PySem.W.listOf its n)) (r : ReadsAll h its.toList ds as) : Reads h (.ref a) (.list ds) (a :: as) := .list e rfl rfl r
theorem err_reads {h : Heap} {a : Addr} {k p : Str} {i : Int} {t1 t2 t3 : Tok} {n : Nat} (e : h.get? a = some { cls := .type "tuple", data := .seq #[.str k t1, .int i t2, .str p t3] n }) : Reads h (.ref a) (.tuple [.str k, .int i, .str p]) [] :=
  .tuple e rfl rfl (ReadsAll.cons (as := []) (bs := []) (.str _ _) (ReadsAll.cons (as := []) (bs := []) (.int _ _) (ReadsAll.cons (as := []) (bs := []) (.str _ _) .nil)))
set_option maxHeartbeats 4000000 in
theorem drive_more {w : World} {A : Around} {s : Shared} {base : Heap} {outer : List Env} {mean : ExcName → Option Value} {mg mb : Str → Option Value} {R : Result → Shared → Prop}
    {wr wd D I M : Addr} {t : Nat → Tok} {v : Nat → Value} {od : Obj} {xs : TX} {key bit net : Int} {tk tb tn : Tok}
    (B : Below A base outer s.heap) (XB : (Mine.hd.heap_39 w.params).In base) (TB : Top Mine.hd.view_39 (looseW Mine.hd.view_39 [Str.ofString "GateloomError"]) mean mg mb base) (hroom : A.depth < 850) (hun : A.units < 900)
    (hwr : s.heap.get? wr = some (instObj 85 wd)) (hwd : s.heap.get? wd = some (wdOf w.params t v D I M)) (hD : s.heap.get? D = some od) (hT : TabObj w s.heap od xs)
    (hb : base.get? wr = none ∧ base.get? wd = none ∧ base.get? D = none) (hf : ∀ env ∈ outer, env.frame ≠ some wr ∧ env.frame ≠ some wd ∧ env.frame ≠ some D) (hsm : (D == sysModules) = false)
    {pa il : Addr} {its : Array Value} {n : Nat} (hno : atKey xs [key, bit] = some (pa, .ref il)) (hil : s.heap.get? il = some (PySem.W.listOf its n)) (hbl : base.get? il = none) (hfl : ∀ env ∈ outer, env.frame ≠ some il) (hne : wr ≠ il ∧ wd ≠ il ∧ D ≠ il) (hits : its.size ≤ sizeLine)
    (hR : ∀ h' tk', Kept [il] s.heap h' → h'.get? il = some (PySem.W.listOf (its.push (.int net tn)) (n + 1)) → R (.ok (.ret .none)) { s with heap := h', toks := tk' }) :
    codeAny (model PySem.Challenge.rw_sj0046_01.row.prog w) A (.call (.ref 75) ⟨[.ref wr, .int key tk, .int bit tb, .int net tn], []⟩) R s := by
  refine hold fun gP kont => ?_
  obtain ⟨h, g, d, tt, os⟩ := s
  refine kont ?_
  clear kont gP
  refine' enter (binds := [(Str.ofString "self", .ref wr), (Str.ofString "key", .int key tk), (Str.ofString "bit", .int bit tb), (Str.ofString "net", .int net tn)]) [(il, PySem.W.listOf its n), (wr, instObj 85 wd), (wd, wdOf w.params t v D I M), (D, od)] B XB TB ?q1 ?q2 ?q3 ?k6 ?k7 ?k8 ?k9 ?kB ?_ ?c2 ?c3 ?c4 ?c5
  case k8 => exact Nat.lt_of_lt_of_le hroom (by decide)
  tb_start
  case q1 => exact fCm ⟨hil, fCm ⟨hwr, fCm ⟨hwd, fCm ⟨hD, fNm _⟩⟩⟩⟩
  case q2 => exact fCm ⟨hbl, fCm ⟨hb.1, fCm ⟨hb.2.1, fCm ⟨hb.2.2, fNm _⟩⟩⟩⟩
  case q3 => exact fun env hm => fCm ⟨hfl env hm, fCm ⟨(hf env hm).1, fCm ⟨(hf env hm).2.1, fCm ⟨(hf env hm).2.2, fNm _⟩⟩⟩⟩
  intro gg L h₁ hg1 hg2 hL F N B' X' T'
  have hT' : TabObj w gg od xs := hT.cut fun x hx o ho hc => hg1 _ _ ho fun hm => by
    simp only [List.map_cons, List.map_nil, List.mem_cons, List.not_mem_nil, or_false] at hm
    rcases hm with e | e | e | e
    · rw [e, hil] at ho; cases ho; exact no_tup_list hc
    · rw [e, hwr] at ho; cases ho; exact no_tup_ref hc
    · rw [e, hwd] at ho; cases ho; exact no_tup_dict hc
    · rw [e, hD] at ho; cases ho; rw [hT.exact_.1] at hc; exact no_tup_dict hc
  have hu1 : ∀ env, (A.deeper env).units + 1 < cLine := hu_of hun (Nat.le_of_ble_eq_true rfl)
  try dsimp only
  k_steps
  rename Fr _ _ _ _ => F1
  rename News _ _ _ _ => N1
  rename _ < _ ∧ _ ∧ _ => l1
  have hk1 := key_is (w := w) (N1 _ (.head _)).1
  have hd1 := hT'.dictOfH F1.keep (N1 _ (.tail _ (.tail _ (.tail _ (.tail _ (.head _)))))).1
  refine' wpAny_notIn_heap (tupleKind_room_in1 (hu1 _)) hk1 hsm hd1 ?_
  rw [hno, show (!(some (pa, Value.ref il)).isSome) = false from rfl]
  try dsimp only
  k_steps
  try dsimp only
  rename Fr _ _ _ _ => F3
  rename News _ _ _ _ => N3
  have hm3 := hT'.dictOfH F3.keep (N3 _ (.tail _ (.tail _ (.tail _ (.tail _ (.head _)))))).1
  refine' subscriptTail_builtin hm3.typeIs slot_dict_getitem.lookup (wpAny_getItem_heap (tupleKind_room_in1 (hu1 _)) (key_is (w := w) (N3 _ (.head _)).1) hm3 hno ?_) (by with_unfolding_all rfl)
  try dsimp only
  k_steps
  have n1 : wr ≠ il := hne.1
  have n2 : wd ≠ il := hne.2.1
  have n3 : D ≠ il := hne.2.2
  refine append_K (n := n) F3 N3 (.tail (by k_ne) (.head (by k_all))) ?_ hits
  intro h4 F4' N4'
  try dsimp only
  k_steps
  rename Fr _ _ _ _ => F4
  rename News _ _ _ _ => N4
  refine hR _ _ (kept_end hg1 F4.keep ?a1) (N4 _ (.tail _ (.head _))).1
  case a1 => exact fCm ⟨.inl (.head _), fCm ⟨.inr (same_end hwr (N4 _ (.tail _ (.tail _ (.head _)))).1), fCm ⟨.inr (same_end hwd (N4 _ (.tail _ (.tail _ (.tail _ (.head _))))).1), fCm ⟨.inr (same_end hD (N4 _ (.tail _ (.tail _ (.tail _ (.tail _ (.head _)))))).1), fNm _⟩⟩⟩⟩
set_option maxHeartbeats 4000000 in
theorem coin_spec {w : World} {A : Around} {s : Shared} {base : Heap} {outer : List Env} {mean : ExcName → Option Value} {mg mb : Str → Option Value} {R : Result → Shared → Prop}
    {pa ca : Addr} {cs : Array Value} {l : List Int} {n cn : Nat} {k many : Int} {tk tm : Tok}
    (B : Below A base outer s.heap) (XB : (Mine.hd.heap_39 w.params).In base) (TB : Top Mine.hd.view_39 (looseW Mine.hd.view_39 [Str.ofString "GateloomError"]) mean mg mb base) (hroom : A.depth < 650)
    (hpa : s.heap.get? pa = some (PySem.W.listOf #[.ref ca, .int k tk] n)) (hca : s.heap.get? ca = some (PySem.W.listOf cs cn)) (hci : PyProof.Rows.IntsAre cs.toList l) (hll : l.length ≤ 60) (hk : -1 ≤ k ∧ k < 1000) (hm : 0 < many) (hpc : pa ≠ ca) (opa : Own base outer pa) (oca : Own base outer ca)
    (hR : ∀ h' tk' r t t', Kept [pa] s.heap h' → h'.get? pa = some (PySem.W.listOf #[.ref ca, .int (k + 1) t'] n) → 0 ≤ r → r < many → R (.ok (.ret (.int r t))) { s with heap := h', toks := tk' }) :
    codeAny (model PySem.Challenge.rw_sj0046_01.row.prog w) A (.call (.ref 334) ⟨[.ref pa, .int many tm], []⟩) R s := by
  refine hold fun gP kont => ?_
  obtain ⟨h, g, d, tt, os⟩ := s
  refine kont ?_
  clear kont gP
  refine' enter (binds := [(Str.ofString "purse", .ref pa), (Str.ofString "many", .int many tm)]) [(pa, PySem.W.listOf #[.ref ca, .int k tk] n), (ca, PySem.W.listOf cs cn)] B XB TB ?q1 ?q2 ?q3 ?k6 ?k7 ?k8 ?k9 ?kB ?_ ?c2 ?c3 ?c4 ?c5
  case k8 => exact Nat.lt_of_lt_of_le hroom (by decide)
  tb_start
  case q1 => exact fCm ⟨hpa, fCm ⟨hca, fNm _⟩⟩
  case q2 => exact fCm ⟨opa.1, fCm ⟨oca.1, fNm _⟩⟩
  case q3 => exact fun env he => fCm ⟨opa.2 env he, fCm ⟨oca.2 env he, fNm _⟩⟩
  intro gg L h₁ hg1 hg2 hL F N B' X' T'
  have n1 : @Ne Nat pa ca := hpc
  try dsimp only
  k_steps
  all_goals (rename Fr _ _ _ _ => F4; rename News _ _ _ _ => N4; exact hR _ _ _ _ _ (kept_end hg1 F4.keep (fCm ⟨.inl (.head _), fCm ⟨.inr (same_end hca (N4 _ (.tail _ (.head _))).1), fNm _⟩⟩)) (N4 _ (.head _)).1 (Int.fmod_nonneg_of_pos _ hm) (Int.fmod_lt_of_pos _ hm))
section
local macro_rules | `(tactic| k_steps) => `(tactic| (walk_at "q0"; repeat' (walk_at "g1"; walk_at "q1")))
set_option maxHeartbeats 4000000 in
theorem isnet_reg {w : World} {A : Around} {s : Shared} {base : Heap} {outer : List Env} {mean : ExcName → Option Value} {mg mb : Str → Option Value} {R : Result → Shared → Prop}
    {sg sd : Addr} {t u : Nat → Tok} {key width msb lsb at_ : Int} {path : String} {sgn : Bool} {fst lst : Value}
    (B : Below A base outer s.heap) (XB : (Mine.hd.heap_39 w.params).In base) (TB : Top Mine.hd.view_39 (looseW Mine.hd.view_39 [Str.ofString "GateloomError"]) mean mg mb base) (hroom : A.depth < 750)
    (hsg : s.heap.get? sg = some (instObj 176 sd)) (hsd : s.heap.get? sd = some (sdOf w.params t u key path "reg" width sgn msb lsb fst lst at_)) (og : Own base outer sg) (od : Own base outer sd)
    (hR : ∀ h' tk', Kept [] s.heap h' → R (.ok (.ret (.bool false))) { s with heap := h', toks := tk' }) :
    codeAny (model PySem.Challenge.rw_sj0046_01.row.prog w) A (.call (.ref 145) ⟨[.ref sg], []⟩) R s := by
  refine hold fun gP kont => ?_
  obtain ⟨h, g, d, tt, os⟩ := s
  refine kont ?_
  clear kont gP
  refine' enter (binds := [(Str.ofString "self", .ref sg)]) [(sg, instObj 176 sd), (sd, sdOf w.params t u key path "reg" width sgn msb lsb fst lst at_)] B XB TB ?q1 ?q2 ?q3 ?k6 ?k7 ?k8 ?k9 ?kB ?_ ?c2 ?c3 ?c4 ?c5
  case k8 => exact Nat.lt_of_lt_of_le hroom (by decide)
  tb_start
  case q1 => exact fCm ⟨hsg, fCm ⟨hsd, fNm _⟩⟩
  case q2 => exact fCm ⟨og.1, fCm ⟨od.1, fNm _⟩⟩
  case q3 => exact fun env he => fCm ⟨og.2 env he, fCm ⟨od.2 env he, fNm _⟩⟩
  intro gg L h₁ hg1 hg2 hL F N B' X' T'
  try dsimp only
  k_steps
  rename Fr _ _ _ _ => F4
  rename News _ _ _ _ => N4
  exact hR _ _ (kept_all hg1 F4.keep N4 (fCm ⟨hsg, fCm ⟨hsd, fNm _⟩⟩) fun q hq => .tail _ hq)
set_option maxHeartbeats 4000000 in
theorem isnet_integer {w : World} {A : Around} {s : Shared} {base : Heap} {outer : List Env} {mean : ExcName → Option Value} {mg mb : Str → Option Value} {R : Result → Shared → Prop}
    {sg sd : Addr} {t u : Nat → Tok} {key width msb lsb at_ : Int} {path : String} {sgn : Bool} {fst lst : Value}
    (B : Below A base outer s.heap) (XB : (Mine.hd.heap_39 w.params).In base) (TB : Top Mine.hd.view_39 (looseW Mine.hd.view_39 [Str.ofString "GateloomError"]) mean mg mb base) (hroom : A.depth < 750)
    (hsg : s.heap.get? sg = some (instObj 176 sd)) (hsd : s.heap.get? sd = some (sdOf w.params t u key path "integer" width sgn msb lsb fst lst at_)) (og : Own base outer sg) (od : Own base outer sd)
    (hR : ∀ h' tk', Kept [] s.heap h' → R (.ok (.ret (.bool false))) { s with heap := h', toks := tk' }) :
    codeAny (model PySem.Challenge.rw_sj0046_01.row.prog w) A (.call (.ref 145) ⟨[.ref sg], []⟩) R s := by
  refine hold fun gP kont => ?_
  obtain ⟨h, g, d, tt, os⟩ := s
  refine kont ?_
  clear kont gP
  refine' enter (binds := [(Str.ofString "self", .ref sg)]) [(sg, instObj 176 sd), (sd, sdOf w.params t u key path "integer" width sgn msb lsb fst lst at_)] B XB TB ?q1 ?q2 ?q3 ?k6 ?k7 ?k8 ?k9 ?kB ?_ ?c2 ?c3 ?c4 ?c5
  case k8 => exact Nat.lt_of_lt_of_le hroom (by decide)
  tb_start
  case q1 => exact fCm ⟨hsg, fCm ⟨hsd, fNm _⟩⟩
  case q2 => exact fCm ⟨og.1, fCm ⟨od.1, fNm _⟩⟩
  case q3 => exact fun env he => fCm ⟨og.2 env he, fCm ⟨od.2 env he, fNm _⟩⟩
  intro gg L h₁ hg1 hg2 hL F N B' X' T'
  try dsimp only
  k_steps
  rename Fr _ _ _ _ => F4
  rename News _ _ _ _ => N4
  exact hR _ _ (kept_all hg1 F4.keep N4 (fCm ⟨hsg, fCm ⟨hsd, fNm _⟩⟩) fun q hq => .tail _ hq)
set_option maxHeartbeats 4000000 in
theorem isnet_wire {w : World} {A : Around} {s : Shared} {base : Heap} {outer : List Env} {mean : ExcName → Option Value} {mg mb : Str → Option Value} {R : Result → Shared → Prop}
    {sg sd : Addr} {t u : Nat → Tok} {key width msb lsb at_ : Int} {path : String} {sgn : Bool} {fst lst : Value}
    (B : Below A base outer s.heap) (XB : (Mine.hd.heap_39 w.params).In base) (TB : Top Mine.hd.view_39 (looseW Mine.hd.view_39 [Str.ofString "GateloomError"]) mean mg mb base) (hroom : A.depth < 750)
    (hsg : s.heap.get? sg = some (instObj 176 sd)) (hsd : s.heap.get? sd = some (sdOf w.params t u key path "wire" width sgn msb lsb fst lst at_)) (og : Own base outer sg) (od : Own base outer sd)
    (hR : ∀ h' tk', Kept [] s.heap h' → R (.ok (.ret (.bool true))) { s with heap := h', toks := tk' }) :
    codeAny (model PySem.Challenge.rw_sj0046_01.row.prog w) A (.call (.ref 145) ⟨[.ref sg], []⟩) R s := by
  refine hold fun gP kont => ?_
  obtain ⟨h, g, d, tt, os⟩ := s
  refine kont ?_
  clear kont gP
  refine' enter (binds := [(Str.ofString "self", .ref sg)]) [(sg, instObj 176 sd), (sd, sdOf w.params t u key path "wire" width sgn msb lsb fst lst at_)] B XB TB ?q1 ?q2 ?q3 ?k6 ?k7 ?k8 ?k9 ?kB ?_ ?c2 ?c3 ?c4 ?c5
  case k8 => exact Nat.lt_of_lt_of_le hroom (by decide)
  tb_start
  case q1 => exact fCm ⟨hsg, fCm ⟨hsd, fNm _⟩⟩
  case q2 => exact fCm ⟨og.1, fCm ⟨od.1, fNm _⟩⟩
  case q3 => exact fun env he => fCm ⟨og.2 env he, fCm ⟨od.2 env he, fNm _⟩⟩
  intro gg L h₁ hg1 hg2 hL F N B' X' T'
  try dsimp only
  k_steps
  rename Fr _ _ _ _ => F4
  rename News _ _ _ _ => N4
  exact hR _ _ (kept_all hg1 F4.keep N4 (fCm ⟨hsg, fCm ⟨hsd, fNm _⟩⟩) fun q hq => .tail _ hq)
theorem isnet_spec {w : World} {A : Around} {s : Shared} {base : Heap} {outer : List Env} {mean : ExcName → Option Value} {mg mb : Str → Option Value} {R : Result → Shared → Prop}
    {sg sd : Addr} {t u : Nat → Tok} {r : Nat}
    (B : Below A base outer s.heap) (XB : (Mine.hd.heap_39 w.params).In base) (TB : Top Mine.hd.view_39 (looseW Mine.hd.view_39 [Str.ofString "GateloomError"]) mean mg mb base) (hroom : A.depth < 750)
    (hr : r < 5) (hsg : s.heap.get? sg = some (instObj 176 sd)) (hsd : s.heap.get? sd = some (sdAt r w.params t u)) (og : Own base outer sg) (od : Own base outer sd)
    (hR : ∀ h' tk', Kept [] s.heap h' → R (.ok (.ret (.bool (decide (r = 4))))) { s with heap := h', toks := tk' }) :
    codeAny (model PySem.Challenge.rw_sj0046_01.row.prog w) A (.call (.ref 145) ⟨[.ref sg], []⟩) R s := by
  match r, hr, hsd, hR with
  | 0, _, hsd, hR => exact isnet_reg B XB TB hroom hsg hsd og od hR
  | 1, _, hsd, hR => exact isnet_reg B XB TB hroom hsg hsd og od hR
  | 2, _, hsd, hR => exact isnet_reg B XB TB hroom hsg hsd og od hR
  | 3, _, hsd, hR => exact isnet_integer B XB TB hroom hsg hsd og od hR
  | 4, _, hsd, hR => exact isnet_wire B XB TB hroom hsg hsd og od hR
end
set_option maxHeartbeats 8000000 in
theorem signal_spec {w : World} {A : Around} {s : Shared} {base : Heap} {outer : List Env} {mean : ExcName → Option Value} {mg mb : Str → Option Value} {R : Result → Shared → Prop}
    {sf sd : Addr} {key width msb lsb : Int} {path kind : String} {sgn : Bool} {t1 t2 t3 t4 t5 t6 : Tok}
    (B : Below A base outer s.heap) (XB : (Mine.hd.heap_39 w.params).In base) (TB : Top Mine.hd.view_39 (looseW Mine.hd.view_39 [Str.ofString "GateloomError"]) mean mg mb base) (hroom : A.depth < 750)
    (hsf : s.heap.get? sf = some (instObj 176 sd)) (hsd : s.heap.get? sd = some (dictOf [] 0)) (of : Own base outer sf) (od : Own base outer sd) (hne : sf ≠ sd)
    (hR : ∀ h' tk' t u, Kept [sd] s.heap h' → h'.get? sd = some (sdOf w.params t u key path kind width sgn msb lsb .none .none (-1)) → R (.ok (.ret .none)) { s with heap := h', toks := tk' }) :
    codeAny (model PySem.Challenge.rw_sj0046_01.row.prog w) A (.call (.ref 138) ⟨[.ref sf, .int key t1, .str (Str.ofString path) t2, .str (Str.ofString kind) t3, .int width t4, .bool sgn, .int msb t5, .int lsb t6], []⟩) R s := by
  refine hold fun gP kont => ?_
  obtain ⟨h, g, d, tt, os⟩ := s
  refine kont ?_
  clear kont gP
  refine' enter (binds := [(Str.ofString "self", .ref sf), (Str.ofString "key", .int key t1), (Str.ofString "path", .str (Str.ofString path) t2), (Str.ofString "kind", .str (Str.ofString kind) t3), (Str.ofString "width", .int width t4), (Str.ofString "signed", .bool sgn), (Str.ofString "msb", .int msb t5), (Str.ofString "lsb", .int lsb t6)]) [(sf, instObj 176 sd), (sd, dictOf [] 0)] B XB TB ?q1 ?q2 ?q3 ?k6 ?k7 ?k8 ?k9 ?kB ?_ ?c2 ?c3 ?c4 ?c5
  case k8 => exact Nat.lt_of_lt_of_le hroom (by decide)
  tb_start
  case q1 => exact fCm ⟨hsf, fCm ⟨hsd, fNm _⟩⟩
  case q2 => exact fCm ⟨of.1, fCm ⟨od.1, fNm _⟩⟩
  case q3 => exact fun env he => fCm ⟨of.2 env he, fCm ⟨od.2 env he, fNm _⟩⟩
  intro gg L h₁ hg1 hg2 hL F N B' X' T'
  have n1 : @Ne Nat sf sd := hne
  try dsimp only
  k_steps
  rename Fr _ _ _ _ => F4
  rename News _ _ _ _ => N4
  have e4 := (N4 _ (.tail _ (.head _))).1
  refine' hR _ _ (fun i => [_, _, _, _, _, _, _, _, _, _, _, _].getD i 0) (fun i => [t1, t2, t3, t4, t5, t6, _].getD i 0) (kept_end hg1 F4.keep (fCm ⟨.inr (same_end hsf (N4 _ (.head _)).1), fCm ⟨.inl (.head _), fNm _⟩⟩)) ?e9
  case e9 => exact e4
set_option maxHeartbeats 8000000 in
theorem addsig_spec {w : World} {A : Around} {s : Shared} {base : Heap} {outer : List Env} {mean : ExcName → Option Value} {mg mb : Str → Option Value} {R : Result → Shared → Prop}
    {ds dd sl bp : Addr} {ob : Obj} {kvs : List (Str × Value)} {its : Array Value} {n : Nat} {td : Nat → Tok} {vd : Nat → Value} {width msb lsb at_ : Int} {path kind : String} {sgn : Bool} {t1 t2 t3 t4 t5 t6 : Tok}
    (B : Below A base outer s.heap) (XB : (Mine.hd.heap_39 w.params).In base) (TB : Top Mine.hd.view_39 (looseW Mine.hd.view_39 [Str.ofString "GateloomError"]) mean mg mb base) (hroom : A.depth < 650)
    (hds : s.heap.get? ds = some (instObj 239 dd)) (hdd : s.heap.get? dd = some (ddOf w.params td vd sl)) (hsl : s.heap.get? sl = some (PySem.W.listOf its n)) (hbp : vd 11 = .ref bp) (hbo : s.heap.get? bp = some ob) (hbk : DObj (SK w) ob kvs) (hkl : kvs.length ≤ sizeLine) (hil : its.size < 6)
    (ods : Own base outer ds) (odd : Own base outer dd) (osl : Own base outer sl) (obp : Own base outer bp) (n1' : ds ≠ sl) (n2' : dd ≠ sl) (n3' : ds ≠ bp) (n4' : dd ≠ bp) (n5' : sl ≠ bp) (n6' : ds ≠ dd)
    (hR : ∀ h' tk' sg sd t u ob', Kept [sl, bp] s.heap h' → s.heap.get? sg = none → s.heap.get? sd = none → h'.get? sg = some (instObj 176 sd) → h'.get? sd = some (sdOf w.params t u its.size path kind width sgn msb lsb .none .none at_) → h'.get? sl = some (PySem.W.listOf (its.push (.ref sg)) (n + 1)) → h'.get? bp = some ob' → (∃ kvs', DObj (SK w) ob' kvs' ∧ kvs'.length ≤ kvs.length + 1) → R (.ok (.ret (.ref sg))) { s with heap := h', toks := tk' }) :
    codeAny (model PySem.Challenge.rw_sj0046_01.row.prog w) A (.call (.ref 201) ⟨[.ref ds, .str (Str.ofString path) t1, .str (Str.ofString kind) t2, .int width t3, .bool sgn, .int msb t4, .int lsb t5, .int at_ t6], []⟩) R s := by
  refine hold fun gP kont => ?_
  obtain ⟨h, g, d, tt, os⟩ := s
  refine kont ?_
  clear kont gP
  have hdd' : h.get? dd = some (dictOf [ent w.params "signals" (td 0) (.ref sl), ent w.params "assigns" (td 1) (vd 1), ent w.params "gates" (td 2) (vd 2), ent w.params "udps" (td 3) (vd 3), ent w.params "processes" (td 4) (vd 4), ent w.params "routines" (td 5) (vd 5), ent w.params "scopes" (td 6) (vd 6), ent w.params "tops" (td 7) (vd 7), ent w.params "ports" (td 8) (vd 8), ent w.params "maker" (td 9) (vd 9), ent w.params "nesting" (td 10) (vd 10), ent w.params "by_path" (td 11) (.ref bp)] 12) := by rw [← hbp]; exact hdd
  refine' enter (binds := [(Str.ofString "self", .ref ds), (Str.ofString "path", .str (Str.ofString path) t1), (Str.ofString "kind", .str (Str.ofString kind) t2), (Str.ofString "width", .int width t3), (Str.ofString "signed", .bool sgn), (Str.ofString "msb", .int msb t4), (Str.ofString "lsb", .int lsb t5), (Str.ofString "at", .int at_ t6)]) [(sl, PySem.W.listOf its n), (bp, ob), (ds, instObj 239 dd), (dd, dictOf [ent w.params "signals" (td 0) (.ref sl), ent w.params "assigns" (td 1) (vd 1), ent w.params "gates" (td 2) (vd 2), ent w.params "udps" (td 3) (vd 3), ent w.params "processes" (td 4) (vd 4), ent w.params "routines" (td 5) (vd 5), ent w.params "scopes" (td 6) (vd 6), ent w.params "tops" (td 7) (vd 7), ent w.params "ports" (td 8) (vd 8), ent w.params "maker" (td 9) (vd 9), ent w.params "nesting" (td 10) (vd 10), ent w.params "by_path" (td 11) (.ref bp)] 12)] B XB TB ?q1 ?q2 ?q3 ?k6 ?k7 ?k8 ?k9 ?kB ?_ ?c2 ?c3 ?c4 ?c5
  case k8 => exact Nat.lt_of_lt_of_le hroom (by decide)
  tb_start
  case q1 => exact fCm ⟨hsl, fCm ⟨hbo, fCm ⟨hds, fCm ⟨hdd', fNm _⟩⟩⟩⟩
  case q2 => exact fCm ⟨osl.1, fCm ⟨obp.1, fCm ⟨ods.1, fCm ⟨odd.1, fNm _⟩⟩⟩⟩
  case q3 => exact fun env he => fCm ⟨osl.2 env he, fCm ⟨obp.2 env he, fCm ⟨ods.2 env he, fCm ⟨odd.2 env he, fNm _⟩⟩⟩⟩
  intro gg L h₁ hg1 hg2 hL F N B' X' T'
  have n1 : @Ne Nat ds sl := n1'
  have n2 : @Ne Nat dd sl := n2'
  have n5 : @Ne Nat sl bp := n5'
  try dsimp only
  walk_at "q0"
  repeat ((fail_if_success (with_reducible show wpAny _ _ (call (Value.ref _) _) _ _ _)); walk_at "q2")
  refine' call_cls ?k1 ?k2 ?k3 ?k4 ?k5 ?k6 ?_
  case k1 => k_asm
  case k2 => k_asm
  case k3 => k_asm
  case k4 => k_is
  case k5 => k_is
  case k6 => k_is
  k_whole
  intro sg sd h2 F2 N2 l1 l2
  have ne2 : sg ≠ sd := ne_cls (N2 _ (.head _)).1 (N2 _ (.tail _ (.head _))).1 no_ref_dict
  refine' signal_spec (below_under (B'.push F2) rfl) XB TB ?z1 (N2 _ (.head _)).1 (N2 _ (.tail _ (.head _))).1 ?z2 ?z3 ne2 ?_
  case z1 => (simp only [depth_under_make, depth_deeper]; lia)
  case z2 => exact (Own.fresh B' (N2 _ (.head _)).2.2).frame (N2 _ (.head _)).2.1
  case z3 => exact (Own.fresh B' (N2 _ (.tail _ (.head _))).2.2).frame (N2 _ (.tail _ (.head _))).2.1
  intro h3 tk3 ts us k3 e3
  refine ⟨rfl, ?_⟩
  have l9 : @LT.lt Nat _ sl sd ∧ @LT.lt Nat _ bp sd ∧ @LT.lt Nat _ ds sd ∧ @LT.lt Nat _ dd sd := ⟨l1 _ (.head _), l1 _ (.tail _ (.head _)), l1 _ (.tail _ (.tail _ (.head _))), l1 _ (.tail _ (.tail _ (.tail _ (.head _))))⟩
  have F3 := led_kept k3 F2 (fCm ⟨⟨(N2 _ (.tail _ (.head _))).2.2, (N2 _ (.tail _ (.head _))).2.1⟩, fNm _⟩)
  have N3 : News gg L h3 [(sg, instObj 176 sd), (sd, sdOf w.params ts us its.size path kind width sgn msb lsb .none .none (-1)), (sl, _), (bp, _), (ds, _), (dd, _)] := fCm ⟨nk k3 (N2 _ (.head _)) (nm1 ne2), fCm ⟨⟨e3, (N2 _ (.tail _ (.head _))).2⟩, fCm ⟨nk k3 (N2 _ (.tail _ (.tail _ (.head _)))) (nm1 (Nat.ne_of_lt l9.1)), fCm ⟨nk k3 (N2 _ (.tail _ (.tail _ (.tail _ (.head _))))) (nm1 (Nat.ne_of_lt l9.2.1)), fCm ⟨nk k3 (N2 _ (.tail _ (.tail _ (.tail _ (.tail _ (.head _)))))) (nm1 (Nat.ne_of_lt l9.2.2.1)), fCm ⟨nk k3 (N2 _ (.tail _ (.tail _ (.tail _ (.tail _ (.tail _ (.head _))))))) (nm1 (Nat.ne_of_lt l9.2.2.2)), fNm _⟩⟩⟩⟩⟩⟩
  have l10 : @LT.lt Nat _ sd sg := l2
  clear F2 N2 l1 l2
  k_steps
  try dsimp only
  rename Fr _ L _ _ => F5
  rename News _ L _ _ => N5
  walk_at "q0"
  refine' wpAny_setItem_pairs (knd := SK w) (k := Str.ofString path) ?i1 (hbk.at (N5 _ (.tail _ (.tail _ (.tail _ (.head _))))).1) ?_ hkl
  case i1 => exact strKind_is _ _ _ _
  intro h6 hm6 hs6
  refine hold fun gP kont => ?_
  obtain ⟨ob6, hb6, hbk6⟩ := DObj.of hm6
  obtain ⟨F6, N6⟩ := led_set F5 N5 (.tail (by k_ne) (.tail (by k_ne) (.tail n5' (.head (fCm ⟨n3', fCm ⟨n4', fNm _⟩⟩))))) hs6 hb6
  refine kont ?_
  clear kont gP
  clear F5 N5
  try dsimp only
  k_steps
  rename Fr _ L _ _ => F7
  rename News _ L _ _ => N7
  refine' hR _ _ _ _ (fun i => [_, _, _, _, _, _, _, _, _, _, _, _].getD i 0) (fun i => [_, _, _, _, _, _, _].getD i 0) ob6 (kept_end hg1 F7.keep ?a1) (fresh_end hg1 (N7 _ (.head _)).2.2 ?a2) (fresh_end hg1 (N7 _ (.tail _ (.head _))).2.2 ?a3) (N7 _ (.head _)).1 ?a9 (N7 _ (.tail _ (.tail _ (.head _)))).1 (N7 _ (.tail _ (.tail _ (.tail _ (.head _))))).1 ⟨_, hbk6, ?a4⟩
  case a9 => exact (N7 _ (.tail _ (.head _))).1
  case a1 => exact fCm ⟨.inl (.head _), fCm ⟨.inl (.tail _ (.head _)), fCm ⟨.inr (same_end hds (N7 _ (.tail _ (.tail _ (.tail _ (.tail _ (.head _)))))).1), fCm ⟨.inr (same_end hdd' (N7 _ (.tail _ (.tail _ (.tail _ (.tail _ (.tail _ (.head _))))))).1), fNm _⟩⟩⟩⟩
  case a2 => exact fCm ⟨Nat.ne_of_lt (Nat.lt_trans l9.1 (by assumption)), fCm ⟨Nat.ne_of_lt (Nat.lt_trans l9.2.1 (by assumption)), fCm ⟨Nat.ne_of_lt (Nat.lt_trans l9.2.2.1 (by assumption)), fCm ⟨Nat.ne_of_lt (Nat.lt_trans l9.2.2.2 (by assumption)), fNm _⟩⟩⟩⟩
  case a3 => exact fCm ⟨Nat.ne_of_lt l9.1, fCm ⟨Nat.ne_of_lt l9.2.1, fCm ⟨Nat.ne_of_lt l9.2.2.1, fCm ⟨Nat.ne_of_lt l9.2.2.2, fNm _⟩⟩⟩⟩
  case a4 =>
    unfold stored
    split
    · rw [List.length_map]; exact Nat.le_succ _
    · rw [List.length_append]; exact Nat.le_refl _
set_option maxHeartbeats 4000000 in
theorem dinit_spec {w : World} {A : Around} {s : Shared} {base : Heap} {outer : List Env} {mean : ExcName → Option Value} {mg mb : Str → Option Value} {R : Result → Shared → Prop}
    {sf sd : Addr}
    (B : Below A base outer s.heap) (XB : (Mine.hd.heap_39 w.params).In base) (TB : Top Mine.hd.view_39 (looseW Mine.hd.view_39 [Str.ofString "GateloomError"]) mean mg mb base) (hroom : A.depth < 650)
    (hsf : s.heap.get? sf = some (instObj 239 sd)) (hsd : s.heap.get? sd = some (dictOf [] 0)) (of : Own base outer sf) (od : Own base outer sd) (hne : sf ≠ sd)
    (hR : ∀ h' tk' t v sl bp ob, Kept [sd] s.heap h' → h'.get? sd = some (ddOf w.params t v sl) → v 11 = .ref bp → s.heap.get? sl = none → h'.get? sl = some (PySem.W.listOf #[] 0) → s.heap.get? bp = none → h'.get? bp = some ob → DObj (SK w) ob [] → bp ≠ sl → R (.ok (.ret .none)) { s with heap := h', toks := tk' }) :
    codeAny (model PySem.Challenge.rw_sj0046_01.row.prog w) A (.call (.ref 194) ⟨[.ref sf], []⟩) R s := by
  refine hold fun gP kont => ?_
  obtain ⟨h, g, d, tt, os⟩ := s
  refine kont ?_
  clear kont gP
  refine' enter (binds := [(Str.ofString "self", .ref sf)]) [(sf, instObj 239 sd), (sd, dictOf [] 0)] B XB TB ?q1 ?q2 ?q3 ?k6 ?k7 ?k8 ?k9 ?kB ?_ ?c2 ?c3 ?c4 ?c5
  case k8 => exact Nat.lt_of_lt_of_le hroom (by decide)
  tb_start
  case q1 => exact fCm ⟨hsf, fCm ⟨hsd, fNm _⟩⟩
  case q2 => exact fCm ⟨of.1, fCm ⟨od.1, fNm _⟩⟩
  case q3 => exact fun env he => fCm ⟨of.2 env he, fCm ⟨od.2 env he, fNm _⟩⟩
  intro gg L h₁ hg1 hg2 hL F N B' X' T'
  have n1 : @Ne Nat sf sd := hne
  try dsimp only
  k_steps
  rename Fr _ _ _ _ => F4
  rename News _ _ _ _ => N4
  have hs := (by assumption : Obj.IsDictOf (PySem.strKind PySem.Challenge.rw_sj0046_01.row.prog w) _ [])
  obtain ⟨es, ep, hob⟩ := hs
  refine' hR _ _ (fun i => [_, _, _, _, _, _, _, _, _, _, _, _].getD i 0) (fun i => [.none, _, _, _, _, _, _, _, _, _, _, _].getD i .none) _ _ _ (kept_end hg1 F4.keep ?a1) ?a9 rfl (fresh_end hg1 (N4 _ (.tail _ (.tail _ (.tail _ (.tail _ (.tail _ (.tail _ (.tail _ (.tail _ (.tail _ (.head _))))))))))).2.2 ?a3) (N4 _ (.tail _ (.tail _ (.tail _ (.tail _ (.tail _ (.tail _ (.tail _ (.tail _ (.tail _ (.head _))))))))))).1 (fresh_end hg1 (N4 _ (.head _)).2.2 ?a4) (N4 _ (.head _)).1 ⟨es, ep, hob⟩ ?a5
  case a9 => exact (N4 _ (.tail _ (.tail _ (.tail _ (.tail _ (.tail _ (.tail _ (.tail _ (.tail _ (.tail _ (.tail _ (.tail _ (.head _)))))))))))) ).1
  case a1 => exact fCm ⟨.inr (same_end hsf (N4 _ (.tail _ (.tail _ (.tail _ (.tail _ (.tail _ (.tail _ (.tail _ (.tail _ (.tail _ (.tail _ (.head _)))))))))))).1), fCm ⟨.inl (.head _), fNm _⟩⟩
  case a3 => k_all
  case a4 => k_all
  case a5 => k_ne
theorem dobj_of {prog : Program} {w : World} {K : Type} [DecidableEq K] {knd : KeyKind prog w K} {o : Obj} {kvs : List (K × Value)} (h : o.IsDictOf knd kvs) : DObj knd o kvs := h
theorem tab_empty {w : World} {h : Heap} {o : Obj} (hs : Obj.IsDictOf (PySem.strKind PySem.Challenge.rw_sj0046_01.row.prog w) o []) : TabObj w h o [] := by
  refine hold fun gP kont => ?_
  obtain ⟨es, ep, hx, hd, _, hp, _⟩ := hs
  refine kont ?_
  clear kont gP
  refine ⟨hx, ⟨es, ep, hd, ?_⟩, fNm _, List.nodup_nil⟩
  have := hp.length
  simpa using this
set_option maxHeartbeats 8000000 in
theorem winit_spec {w : World} {A : Around} {s : Shared} {base : Heap} {outer : List Env} {mean : ExcName → Option Value} {mg mb : Str → Option Value} {R : Result → Shared → Prop}
    {sf sd : Addr}
    (B : Below A base outer s.heap) (XB : (Mine.hd.heap_39 w.params).In base) (TB : Top Mine.hd.view_39 (looseW Mine.hd.view_39 [Str.ofString "GateloomError"]) mean mg mb base) (hroom : A.depth < 650)
    (hsf : s.heap.get? sf = some (instObj 85 sd)) (hsd : s.heap.get? sd = some (dictOf [] 0)) (of : Own base outer sf) (od : Own base outer sd) (hne : sf ≠ sd)
    (hR : ∀ h' tk' t v D I M oD oI oM, Kept [sd] s.heap h' → h'.get? sd = some (wdOf w.params t v D I M) → s.heap.get? D = none → h'.get? D = some oD → TabObj w h' oD [] → s.heap.get? I = none → h'.get? I = some oI → DObj (IK w) oI [] → s.heap.get? M = none → h'.get? M = some oM → DObj (SK w) oM [] → (D ≠ I ∧ D ≠ M ∧ I ≠ M) → ((D == sysModules) = false ∧ (M == sysModules) = false ∧ (I == sysModules) = false) → R (.ok (.ret .none)) { s with heap := h', toks := tk' }) :
    codeAny (model PySem.Challenge.rw_sj0046_01.row.prog w) A (.call (.ref 68) ⟨[.ref sf], []⟩) R s := by
  refine hold fun gP kont => ?_
  obtain ⟨h, g, d, tt, os⟩ := s
  refine kont ?_
  clear kont gP
  refine' enter (binds := [(Str.ofString "self", .ref sf)]) [(sf, instObj 85 sd), (sd, dictOf [] 0)] B XB TB ?q1 ?q2 ?q3 ?k6 ?k7 ?k8 ?k9 ?kB ?_ ?c2 ?c3 ?c4 ?c5
  case k8 => exact Nat.lt_of_lt_of_le hroom (by decide)
  tb_start
  case q1 => exact fCm ⟨hsf, fCm ⟨hsd, fNm _⟩⟩
  case q2 => exact fCm ⟨of.1, fCm ⟨od.1, fNm _⟩⟩
  case q3 => exact fun env he => fCm ⟨of.2 env he, fCm ⟨od.2 env he, fNm _⟩⟩
  intro gg L h₁ hg1 hg2 hL F N B' X' T'
  have n1 : @Ne Nat sf sd := hne
  try dsimp only
  k_steps
  rename Fr _ _ _ _ => F4
  rename News _ _ _ _ => N4
  refine' hR _ _ (fun i => [_, _, _, _, _, _, _, _, _, _].getD i 0) (fun i => [_, _, _, _, _, _, _].getD i .none) _ _ _ _ _ _ (kept_end hg1 F4.keep ?a1) ?a0 (fresh_end hg1 (N4 _ (.tail _ (.tail _ (.tail _ (.tail _ (.tail _ (.tail _ (.tail _ (.tail _ (.head _)))))))))).2.2 ?b1) (N4 _ (.tail _ (.tail _ (.tail _ (.tail _ (.tail _ (.tail _ (.tail _ (.tail _ (.head _)))))))))).1 (tab_empty ?c1) (fresh_end hg1 (N4 _ (.tail _ (.tail _ (.tail _ (.tail _ (.tail _ (.tail _ (.tail _ (.head _))))))))).2.2 ?b2) (N4 _ (.tail _ (.tail _ (.tail _ (.tail _ (.tail _ (.tail _ (.tail _ (.head _))))))))).1 ?cc (fresh_end hg1 (N4 _ (.head _)).2.2 ?b3) (N4 _ (.head _)).1 ?cd ⟨?e1, ?e2, ?e3⟩ ⟨?f1, ?f2, ?f3⟩
  case a0 => exact (N4 _ (.tail _ (.tail _ (.tail _ (.tail _ (.tail _ (.tail _ (.tail _ (.tail _ (.tail _ (.tail _ (.tail _ (.head _))))))))))))).1
  case a1 => exact fCm ⟨.inr (same_end hsf (N4 _ (.tail _ (.tail _ (.tail _ (.tail _ (.tail _ (.tail _ (.tail _ (.tail _ (.tail _ (.tail _ (.head _)))))))))))).1), fCm ⟨.inl (.head _), fNm _⟩⟩
  case b1 => exact fCm ⟨Nat.ne_of_lt (by assumption : _ ∧ @LT.lt Nat _ sf _ ∧ @LT.lt Nat _ sd _).2.1, fCm ⟨Nat.ne_of_lt (by assumption : _ ∧ @LT.lt Nat _ sf _ ∧ @LT.lt Nat _ sd _).2.2, fNm _⟩⟩
  case b2 => exact fCm ⟨Nat.ne_of_lt (by assumption : _ ∧ _ ∧ @LT.lt Nat _ sf _ ∧ @LT.lt Nat _ sd _).2.2.1, fCm ⟨Nat.ne_of_lt (by assumption : _ ∧ _ ∧ @LT.lt Nat _ sf _ ∧ @LT.lt Nat _ sd _).2.2.2, fNm _⟩⟩
  case b3 => exact fCm ⟨Nat.ne_of_lt (by assumption : _ ∧ _ ∧ _ ∧ _ ∧ _ ∧ _ ∧ _ ∧ _ ∧ _ ∧ @LT.lt Nat _ sf _ ∧ @LT.lt Nat _ sd _).2.2.2.2.2.2.2.2.2.1, fCm ⟨Nat.ne_of_lt (by assumption : _ ∧ _ ∧ _ ∧ _ ∧ _ ∧ _ ∧ _ ∧ _ ∧ _ ∧ @LT.lt Nat _ sf _ ∧ @LT.lt Nat _ sd _).2.2.2.2.2.2.2.2.2.2, fNm _⟩⟩
  case c1 => assumption
  case cc => exact dobj_of (by assumption)
  case cd => exact dobj_of (by assumption)
  case e1 => exact Nat.ne_of_lt (by assumption : _ ∧ _ ∧ @LT.lt Nat _ sf _ ∧ @LT.lt Nat _ sd _).1
  case e2 => exact Nat.ne_of_lt (by assumption : _ ∧ _ ∧ _ ∧ _ ∧ _ ∧ _ ∧ _ ∧ _ ∧ _ ∧ @LT.lt Nat _ sf _ ∧ @LT.lt Nat _ sd _).2.2.2.2.2.2.2.1
  case e3 => exact Nat.ne_of_lt (by assumption : _ ∧ _ ∧ _ ∧ _ ∧ _ ∧ _ ∧ _ ∧ _ ∧ _ ∧ @LT.lt Nat _ sf _ ∧ @LT.lt Nat _ sd _).2.2.2.2.2.2.1
  case f1 => assumption
  case f2 => assumption
  case f3 => assumption
set_option maxHeartbeats 8000000 in
theorem ninit_spec {w : World} {A : Around} {s : Shared} {base : Heap} {outer : List Env} {mean : ExcName → Option Value} {mg mb : Str → Option Value} {R : Result → Shared → Prop}
    {sf sd : Addr} {nm : Str} {tn : Tok}
    (B : Below A base outer s.heap) (XB : (Mine.hd.heap_39 w.params).In base) (TB : Top Mine.hd.view_39 (looseW Mine.hd.view_39 [Str.ofString "GateloomError"]) mean mg mb base) (hroom : A.depth < 650)
    (hsf : s.heap.get? sf = some (instObj 316 sd)) (hsd : s.heap.get? sd = some (dictOf [] 0)) (of : Own base outer sf) (od : Own base outer sd) (hne : sf ≠ sd)
    (hR : ∀ h' tk' t v tc nc, Kept [sd] s.heap h' → h'.get? sd = some (ndOf w.params t v 2 tc nc) → s.heap.get? nc = none → h'.get? nc = some (PySem.W.listOf #[] 0) → R (.ok (.ret .none)) { s with heap := h', toks := tk' }) :
    codeAny (model PySem.Challenge.rw_sj0046_01.row.prog w) A (.call (.ref 257) ⟨[.ref sf, .str nm tn], []⟩) R s := by
  refine hold fun gP kont => ?_
  obtain ⟨h, g, d, tt, os⟩ := s
  refine kont ?_
  clear kont gP
  refine' enter (binds := [(Str.ofString "self", .ref sf), (Str.ofString "name", .str nm tn)]) [(sf, instObj 316 sd), (sd, dictOf [] 0)] B XB TB ?q1 ?q2 ?q3 ?k6 ?k7 ?k8 ?k9 ?kB ?_ ?c2 ?c3 ?c4 ?c5
  case k8 => exact Nat.lt_of_lt_of_le hroom (by decide)
  tb_start
  case q1 => exact fCm ⟨hsf, fCm ⟨hsd, fNm _⟩⟩
  case q2 => exact fCm ⟨of.1, fCm ⟨od.1, fNm _⟩⟩
  case q3 => exact fun env he => fCm ⟨of.2 env he, fCm ⟨od.2 env he, fNm _⟩⟩
  intro gg L h₁ hg1 hg2 hL F N B' X' T'
  have n1 : @Ne Nat sf sd := hne
  try dsimp only
  k_steps
  rename Fr _ _ _ _ => F4
  rename News _ _ _ _ => N4
  refine' hR _ _ (fun i => [_, _, _, _, _].getD i 0) (fun i => [_, _, _].getD i .none) _ _ (kept_end hg1 F4.keep ?a1) ?a0 (fresh_end hg1 (N4 _ (.head _)).2.2 ?b1) (N4 _ (.head _)).1
  case a0 => exact (N4 _ (.tail _ (.tail _ (.tail _ (.tail _ (.head _)))))).1
  case a1 => exact fCm ⟨.inr (same_end hsf (N4 _ (.tail _ (.tail _ (.tail _ (.head _))))).1), fCm ⟨.inl (.head _), fNm _⟩⟩
  case b1 => k_all
section
local macro_rules | `(tactic| walk_at "CompSrc") => `(tactic| (k_here; k_dflt (refine LCg.CompSrc.range (by first | rfl | assumption | (show Around.handled _ = _; assumption)) (by k_asm) (by k_asm) (by assumption) (by first | decide | rfl) (by first | rfl | decide) (by first | size_fits | exact Nat.le_of_ble_eq_true rfl) ?_; intro zc; lcg_lit)))
noncomputable abbrev netsEnv (L : Addr) : Env := envOfC (Str.ofString "Netlist.new_nets") (hd.fS (hd.nN (hd.fB (hd.sN 16)) 2)) L 269 (Value.ref 268)
noncomputable abbrev netsScope : Scope := { kind := ScopeKind.function, names := [(Str.ofString ".0", NameKind.local), (Str.ofString "bit", NameKind.local), (Str.ofString "self", NameKind.free)], isGenerator := false, isCoroutine := false }
set_option maxHeartbeats 4000000 in
theorem nets_rest {w : World} {A : Around} {s : Shared} {base gg : Heap} {outer : List Env} {mean : ExcName → Option Value} {mg mb : Str → Option Value} {L sf sd nc : Addr} {oc : Obj} {m : Str → Option Value} {Fin : List Value → List (Addr × Obj) → Prop} {t : Nat → Tok} {v : Nat → Value}
    (B' : Below A base outer gg) (X' : (Mine.hd.heap_39 w.params).In gg) (T' : Top Mine.hd.view_39 (looseW Mine.hd.view_39 [Str.ofString "GateloomError"]) mean mg mb gg) (hroom : A.depth < 650) (hh : A.handled = none) (n1 : @Ne Nat sf sd) (l0 : @LT.lt Nat _ sf L ∧ @LT.lt Nat _ sd L) (hoc : oc.data = .cell (some (.ref sf))) :
    ∀ (j i : Nat) ys (c : Int) tc, (∀ ys tc, Fin ys [(L + 1, oc), (sf, instObj 316 sd), (sd, ndOf w.params t v (c + j) tc nc)]) →
      LCg.CompRest PySem.Challenge.rw_sj0046_01.row.prog w (A.deeper (netsEnv L)) gg L m (netsEnv L) (.Call (.Attribute (.Name (Str.ofString "self") ⟨174, 16, 174, 20⟩) (Str.ofString "new_net") ⟨174, 16, 174, 28⟩) [] [] ⟨174, 16, 174, 30⟩) (Str.ofString "bit") netsScope [(Str.ofString "self", L + 1)] s (fun _ => True) (fun i v => ∃ t, v = Value.int (0 + (i : Int)) t) Fin j i ys [(L + 1, oc), (sf, instObj 316 sd), (sd, ndOf w.params t v c tc nc)] := by
  intro j
  induction j with
  | zero =>
    intro i ys c tc hF
    have := hF ys tc
    rw [show c + ((0 : Nat) : Int) = c by lia] at this
    exact this
  | succ j ih =>
    intro i ys c tc hF
    obtain ⟨hh0, g, d, tt, os⟩ := s
    delta netsEnv netsScope
    refine LCg.CompRest.succ fun v' I oI C oC D m₂ h tk E' hP hC hx F N off ne3 => ?_
    obtain ⟨t9, rfl⟩ := hP
    obtain ⟨⟨a1, a2, a3⟩, ⟨b1, b2, b3⟩, ⟨c1, c2, c3⟩, _⟩ := off
    obtain ⟨d1, d2, d3⟩ := ne3
    k_steps
    refine ih (i + 1) _ (c + 1) _ fun ys tc => ?_
    have := hF ys tc
    rw [show c + ((j + 1 : Nat) : Int) = c + 1 + (j : Int) by push_cast; lia] at this
    exact this
set_option maxHeartbeats 8000000 in
theorem nets_spec {w : World} {A : Around} {s : Shared} {base : Heap} {outer : List Env} {mean : ExcName → Option Value} {mg mb : Str → Option Value} {R : Result → Shared → Prop}
    {sf sd nc : Addr} {t : Nat → Tok} {v : Nat → Value} {tc t6 : Tok}
    (B : Below A base outer s.heap) (XB : (Mine.hd.heap_39 w.params).In base) (TB : Top Mine.hd.view_39 (looseW Mine.hd.view_39 [Str.ofString "GateloomError"]) mean mg mb base) (hroom : A.depth < 650) (hh : A.handled = none)
    (hsf : s.heap.get? sf = some (instObj 316 sd)) (hsd : s.heap.get? sd = some (ndOf w.params t v 2 tc nc)) (of : Own base outer sf) (od : Own base outer sd) (hne : sf ≠ sd)
    (hR : ∀ h' tk' tc' x, Kept [sd] s.heap h' → h'.get? sd = some (ndOf w.params t v 8 tc' nc) → R (.ok (.ret x)) { s with heap := h', toks := tk' }) :
    codeAny (model PySem.Challenge.rw_sj0046_01.row.prog w) A (.call (.ref 269) ⟨[.ref sf, .int 6 t6], []⟩) R s := by
  refine hold fun gP kont => ?_
  obtain ⟨h, g, d, tt, os⟩ := s
  refine kont ?_
  clear kont gP
  refine' enterC (binds := [(Str.ofString "self", .ref sf), (Str.ofString "width", .int 6 t6)]) [(sf, instObj 316 sd), (sd, ndOf w.params t v 2 tc nc)] B XB TB ?q1 ?q2 ?q3 ?k6 ?k7 ?k8 ?k9 ?kB ?kD ?_ ?c2 ?c3 ?c4
  case k8 => exact Nat.lt_of_lt_of_le hroom (by decide)
  case k6 => k_is
  case k7 => k_is
  case k9 => first | exact BindsTo.of_eq rfl | exact binds_K (by k_in) rfl (by k_is) rfl rfl rfl
  case kB => exact rfl
  case kD => decide +kernel
  case c2 => exact rfl
  case c3 => exact rfl
  case c4 => exact rfl
  case q1 => exact fCm ⟨hsf, fCm ⟨hsd, fNm _⟩⟩
  case q2 => exact fCm ⟨of.1, fCm ⟨od.1, fNm _⟩⟩
  case q3 => exact fun env he => fCm ⟨of.2 env he, fCm ⟨od.2 env he, fNm _⟩⟩
  intro gg L h₁ tk cells hg1 hg2 hL F N' Y' hcl B' X' T'
  k_cells Y'
  (try simp only [List.cons_append, List.nil_append] at N')
  have n1 : @Ne Nat sf sd := hne
  have l0 : @LT.lt Nat _ sf L ∧ @LT.lt Nat _ sd L := ⟨by rw [hL]; exact Heap.lt_size hsf, by rw [hL]; exact Heap.lt_size hsd⟩
  try dsimp only
  walk_at "q0"
  repeat ((fail_if_success (with_reducible show LCg.CompSrc _ _ _ _ _ _ _ _ _ _ _ _ _ _)); first | (k_unfold; (try dsimp only [List.cons_append, List.nil_append]); (try k_fold)) | walk1 | (dsimp only; walk1))
  refine LCg.CompSrc.range (show (A.deeper _).handled = none from hh) (by k_asm) (by k_asm) (by assumption) (by decide) (n := 6) (by rfl) (Nat.le_of_ble_eq_true rfl) ?_
  intro g'
  refine nets_rest (t := t) (v := v) B' X' T' hroom hh n1 l0 (by assumption) 6 0 [] 2 tc fun ys tc' => ?_
  unfold LCg.FinE
  intro D h7 tk7 F7 N7 o7
  k_steps
  rename Fr _ _ _ _ => F4
  rename News _ _ _ _ => N4
  refine' hR _ _ _ _ (kept_end hg1 F4.keep ?a1) ?a0
  case a1 => exact fCm ⟨.inr (same_end hsf (N4 _ (.tail _ (.tail _ (.head _)))).1), fCm ⟨.inl (.head _), fNm _⟩⟩
  case a0 => exact (N4 _ (.tail _ (.tail _ (.tail _ (.head _))))).1
end
end
local macro_rules | `(tactic| k_steps) => `(tactic| (walk_at "q0"; repeat' (walk_at "g3"; walk_at "q1")))
noncomputable def caseRows : List PySem.Stmt := match (hd.fB (hd.sN 26))[8]? with
  | some (PySem.Stmt.For _ _ b _ _) => b
  | _ => []
noncomputable def caseEnv (L : Addr) : Env := envOf (Str.ofString "_law_case") (hd.fS (hd.sN 26)) L 383 (Value.ref 382)
theorem rows_same {w : World} {A : Around} {s : Shared} {od ov : Obj} {xs ys : TX} {nets : List Int → List Int} (_hX : TabObj w s.heap od xs) (hY : TabObj w s.heap ov ys) (hk : xs.map (·.1) = ys.map (·.1))
    (lx : ∀ x ∈ xs, ∃ la li n, x.2.2 = .ref la ∧ s.heap.get? la = some (PySem.W.listOf li n) ∧ PyProof.Rows.IntsAre li.toList (nets x.1)) (ly : ∀ x ∈ ys, ∃ la li n, x.2.2 = .ref la ∧ s.heap.get? la = some (PySem.W.listOf li n) ∧ PyProof.Rows.IntsAre li.toList (nets x.1)) (hu : A.in1.in1.units + 64 < cLine) :
    ∀ x ∈ xs, (∃ p, (x.1, p) ∈ ys) ∧ ∀ p, (x.1, p) ∈ ys → SeqAt.EqAt A.in1 s x.2.2 p.2 true := fun x hx => by
  refine ⟨?_, fun p hp => ?_⟩
  · have : x.1 ∈ ys.map (·.1) := hk ▸ List.mem_map_of_mem hx
    obtain ⟨y, hy, e⟩ := List.mem_map.mp this
    exact ⟨y.2, by rw [← e]; exact hy⟩
  · obtain ⟨la, li, n, e1, e2, e3⟩ := lx x hx
    obtain ⟨lb, lj, n', f1, f2, f3⟩ := ly _ hp
    have f1 : p.2 = .ref lb := f1
    rw [e1, f1]
    have z := keq_ints (A := A) (s := s) (vs := li.toList) (us := lj.toList) (ns := nets x.1) (ms := nets x.1) (a := la) (b := lb) (by rw [Array.toArray_toList]; exact listAt e2) e3 (by rw [Array.toArray_toList]; exact listAt f2) f3 (by rw [show A.in1.units = A.units + 1 from rfl] at *; rw [show A.in1.in1.units = A.units + 1 + 1 from rfl] at hu; lia)
    rw [decide_eq_true rfl] at z
    exact z
set_option maxHeartbeats 8000000 in
theorem last_ok {w : World} {A : Around} {s : Shared} {base gg : Heap} {outer : List Env} {mean : ExcName → Option Value} {mg mb : Str → Option Value} {L : Addr} {m : Str → Option Value} {Q : Flow → Shared → Prop} {E : Value → Shared → Prop}
    {wr wd D I M nl nd nc dv tv cv : Addr} {tw tn : Nat → Tok} {vw vn : Nat → Value} {c : Int} {tc : Tok} {cs cs2 its : Array Value} {n n2 n3 : Nat} {cells : List Cell} {om od ov : Obj} {kvs : List (Str × Value)} {names : List Str} {xs ys : TX} {nets : List Int → List Int}
    (B' : Below A base outer gg) (X' : (Mine.hd.heap_39 w.params).In gg) (T' : Top Mine.hd.view_39 (looseW Mine.hd.view_39 [Str.ofString "GateloomError"]) mean mg mb gg) (hh : A.handled = none) (hun : A.units < 800)
    (F : Fr gg L s.heap m) (m1 : m (Str.ofString "netlist") = some (.ref nl)) (m2 : m (Str.ofString "cells") = some (.ref cv)) (m3 : m (Str.ofString "wires") = some (.ref wr)) (m4 : m (Str.ofString "taken") = some (.ref tv)) (m5 : m (Str.ofString "driven") = some (.ref dv))
    (g1 : NA gg L s.heap nl (instObj 316 nd)) (g2 : NA gg L s.heap nd (ndOf w.params tn vn c tc nc)) (g3 : NA gg L s.heap wr (instObj 85 wd)) (g4 : NA gg L s.heap wd (wdOf w.params tw vw D I M))
    (c1 : NA gg L s.heap nc (PySem.W.listOf cs n)) (c2 : CellsAt s.heap cs.toList cells) (c3 : NA gg L s.heap cv (PySem.W.listOf cs2 n2)) (c4 : CellsAt s.heap cs2.toList cells) (c5 : ∀ c ∈ cells, CellOk c)
    (d1 : NA gg L s.heap M om) (d2 : DObj (SK w) om kvs) (d3 : kvs.map (·.1) = names) (d4 : NA gg L s.heap tv (PySem.W.listOf its n3)) (d5 : StrsAre its.toList names) (d6 : names.length < 64) (d7 : ∀ x ∈ names, PyData.strOk x = true)
    (e1 : NA gg L s.heap D od) (e2 : TabObj w s.heap od xs) (e3 : NA gg L s.heap dv ov) (e4 : TabObj w s.heap ov ys) (e5 : xs.map (·.1) = ys.map (·.1))
    (e6 : ∀ x ∈ xs, ∃ la li n, x.2.2 = .ref la ∧ NA gg L s.heap la (PySem.W.listOf li n) ∧ PyProof.Rows.IntsAre li.toList (nets x.1)) (e7 : ∀ x ∈ ys, ∃ la li n, x.2.2 = .ref la ∧ NA gg L s.heap la (PySem.W.listOf li n) ∧ PyProof.Rows.IntsAre li.toList (nets x.1))
    (lo : (D == sysModules) = false ∧ (M == sysModules) = false ∧ (dv == sysModules) = false)
    (hQ : ∀ h' tk', Fr gg L h' m → Kept [L] s.heap h' → Q .next { s with heap := h', toks := tk' }) :
    wpAny (model PySem.Challenge.rw_sj0046_01.row.prog w) (A.deeper (caseEnv L)) (execs (caseRows.drop 7) (caseEnv L)) Q E s := by
  refine hold fun gP kont => ?_
  obtain ⟨h, g, d, tt, os⟩ := s
  refine kont ?_
  clear kont gP
  unfold caseEnv
  have F1 := pin (x := Str.ofString "driven") (pin (x := Str.ofString "taken") (pin (x := Str.ofString "wires") (pin (x := Str.ofString "cells") (pin (x := Str.ofString "netlist") (F) m1) ((if_neg (by decide)).trans m2)) ((if_neg (by decide)).trans ((if_neg (by decide)).trans m3))) ((if_neg (by decide)).trans ((if_neg (by decide)).trans ((if_neg (by decide)).trans m4)))) ((if_neg (by decide)).trans ((if_neg (by decide)).trans ((if_neg (by decide)).trans ((if_neg (by decide)).trans m5))))
  clear F
  have nT : ∀ s ∈ [L], NonTup h s := fCm ⟨NonTup.fr F1, fNm _⟩
  have hu1 : ∀ env, (A.deeper env).units + 64 < cLine := hu_of hun (Nat.le_of_ble_eq_true rfl)
  obtain ⟨rest, N, H⟩ := see F1 [(nl, _), (nd, _), (wr, _), (wd, _)] (fCm ⟨g1, fCm ⟨g2, fCm ⟨g3, fCm ⟨g4, fNm _⟩⟩⟩⟩)
  try dsimp only [List.nil_append, List.cons_append] at N
  k_steps
  rename Fr _ _ _ _ => F2
  rename News _ _ _ _ => N2
  have k2 : Kept [L] h _ := seen H F2 (fun q m => (N2 q (by repeat (first | exact m | refine List.Mem.tail _ ?_))).1)
  have r1 := list_reads (c1.kept k2).1 (c2.but k2 nT).reads
  have r2 := list_reads (c3.kept k2).1 (c4.but k2 nT).reads
  refine' data_ne r1 r2 (cells_shaped c5) (hu1 _) ?_
  try dsimp only
  k_steps
  rename Fr _ _ _ _ => F3
  rename News _ _ _ _ => N3
  have k3 : Kept [L] h _ := seen H F3 (fun q m => (N3 q (by repeat (first | exact m | refine List.Mem.tail _ ?_))).1)
  refine' sorted_names hh F3 lo.2.1 (d1.kept k3).1 d2 (by rw [← List.length_map, d3]; exact d6) ?_
  intro S1 h4 tk4 v1 s1 z1 F4 k4 nS1 hs1 hp1 ho1
  have k4q : Kept [L] h h4 := k3.trans k4
  clear F3 N3
  obtain ⟨rest, N, H⟩ := see F4 [(nl, _), (nd, _), (wr, _), (wd, _)] (fCm ⟨g1.kept k4q, fCm ⟨g2.kept k4q, fCm ⟨g3.kept k4q, fCm ⟨g4.kept k4q, fNm _⟩⟩⟩⟩)
  try dsimp only [List.nil_append, List.cons_append] at N
  try dsimp only
  k_steps
  rename Fr _ _ _ _ => F5
  rename News _ _ _ _ => N5
  have k45 : Kept [L] h4 _ := seen H F5 (fun q m => (N5 q (by repeat (first | exact m | refine List.Mem.tail _ ?_))).1)
  have k5 : Kept [L] h _ := k4q.trans k45
  refine' sorted_strs_l F5 (d4.kept k5).1 d5 (by (have := StrsAre.len_eq d5); rw [← Array.length_toList]; lia) ?_
  intro S2 h6 tk6 v2 s2 z2 F6 k6 nS2 hs2 hp2 ho2
  have k6q : Kept [L] h h6 := k5.trans k6
  clear F5 N5
  obtain ⟨rest, N, H⟩ := see F6 [(nl, _), (nd, _), (wr, _), (wd, _)] (fCm ⟨g1.kept k6q, fCm ⟨g2.kept k6q, fCm ⟨g3.kept k6q, fCm ⟨g4.kept k6q, fNm _⟩⟩⟩⟩)
  try dsimp only [List.nil_append, List.cons_append] at N
  try dsimp only
  k_steps
  rename Fr _ _ _ _ => F7
  rename News _ _ _ _ => N7
  have k67 : Kept [L] h6 _ := seen H F7 (fun q m => (N7 q (by repeat (first | exact m | refine List.Mem.tail _ ?_))).1)
  have k7 : Kept [L] h _ := k6q.trans k67
  have hss : s1 = s2 := sorted_same (by rw [d3] at hp1; exact hp1.trans hp2.symm) ho1 ho2
  subst hss
  have hok1 : ∀ x ∈ s1, PyData.strOk x = true := fun x hx => d7 x (hp2.mem_iff.mp hx)
  have r3 := list_reads (nS1.kept (k45.trans (k6.trans k67))).1 (StrsAre.reads _ (by simpa using hs1))
  have r4 := list_reads (nS2.kept k67).1 (StrsAre.reads _ (by simpa using hs2))
  refine' data_ne r3 r4 (strs_shaped hok1) (hu1 _) ?_
  try dsimp only
  k_steps
  rename Fr _ _ _ _ => F8
  rename News _ _ _ _ => N8
  have k8 : Kept [L] h _ := k6q.trans (seen H F8 (fun q m => (N8 q (by repeat (first | exact m | refine List.Mem.tail _ ?_))).1))
  have hu2 : ∀ env, (A.deeper env).units + 1 < cLine := hu_of hun (Nat.le_of_ble_eq_true rfl)
  have t8 := tab_but e2 k8 nT
  have t9 := tab_but e4 k8 nT
  refine' tabs_ne lo.1 lo.2.2 (t8.dictOfH (fun _ _ e => e) (e1.kept k8).1) (t9.dictOfH (fun _ _ e => e) (e3.kept k8).1) ?u1 (tupleKind_room_in1 (hu2 _)) ?u2 (rows_same t8 t9 e5 (fun x hx => let ⟨la, li, n, a, b, c⟩ := e6 x hx; ⟨la, li, n, a, (b.kept k8).1, c⟩) (fun x hx => let ⟨la, li, n, a, b, c⟩ := e7 x hx; ⟨la, li, n, a, (b.kept k8).1, c⟩) ?u3) ?_
  case u1 => (rw [units_deeper, cLine_is]; lia)
  case u2 => (rw [← List.length_map (f := fun x => x.1), e5, List.length_map])
  case u3 => (show (A.deeper _).units + 1 + 1 + 64 < cLine; rw [units_deeper, cLine_is]; lia)
  try dsimp only
  k_steps
  rename Fr _ _ _ _ => F9
  rename News _ _ _ _ => N9
  have k9 : Kept [L] h _ := k6q.trans (seen H F9 (fun q m => (N9 q (by repeat (first | exact m | refine List.Mem.tail _ ?_))).1))
  exact hQ _ _ (unpin (x := Str.ofString "netlist") (unpin (x := Str.ofString "cells") (unpin (x := Str.ofString "wires") (unpin (x := Str.ofString "taken") (unpin (x := Str.ofString "driven") (F9) ((if_neg (by decide)).trans ((if_neg (by decide)).trans ((if_neg (by decide)).trans ((if_neg (by decide)).trans m5))))) ((if_neg (by decide)).trans ((if_neg (by decide)).trans ((if_neg (by decide)).trans m4)))) ((if_neg (by decide)).trans ((if_neg (by decide)).trans m3))) ((if_neg (by decide)).trans m2)) m1) k9
theorem turned_none {fs : List Addr} {g g' h : Heap} (K : KtsTurn fs g g') (hk : ∀ b o, h.get? b = some o → g.get? b = some o) {a : Addr} (n : g'.get? a = none) : h.get? a = none := by
  cases q : h.get? a with
  | none => rfl
  | some o =>
    by_cases m : a ∈ fs
    · obtain ⟨sl, e⟩ := K.frame _ o (hk _ o q) m
      rw [n] at e; cases e
    · rw [K.other _ o (hk _ o q) m] at n; cases n
set_option maxHeartbeats 8000000 in
theorem emitted_raise {w : World} {A : Around} {s : Shared} {base : Heap} {outer : List Env} {mean : ExcName → Option Value} {mg mb : Str → Option Value} {R : Result → Shared → Prop}
    {wr nl ds row : Addr} {kd dt : Str} {at_ : Int}
    (B : Below A base outer s.heap) (XB : (Mine.hd.heap_39 w.params).In base) (TB : Top Mine.hd.view_39 (looseW Mine.hd.view_39 [Str.ofString "GateloomError"]) mean mg mb base) (hroom : A.depth < 550) (hun : A.units < 700) (hh : A.handled = none)
    (hemit : ∀ (A' : Around) (s' : Shared) (outer' : List Env) (R' : Result → Shared → Prop), Below A' base outer' s'.heap → A'.depth < 650 → A'.units < 800 → A'.handled = none → Kept [] s.heap s'.heap → (∀ x o, s.heap.get? x = some o → Own base outer x → Own base outer' x) →
      (∀ h' tk' e dx es, EsOf w.params kd dt at_ es → Thrown s'.heap h' outer' e dx 52 es 3 → R' (.error (.ref e)) { s' with heap := h', toks := tk' }) →
      codeAny (model PySem.Challenge.rw_sj0046_01.row.prog w) A' (.call (.ref 110) ⟨[.ref wr, .ref nl, .ref ds, .ref row], []⟩) R' s')
    (hR : ∀ h' tk' tp t1 t2 t3, (∀ b o, s.heap.get? b = some o → b ∉ outer.filterMap (·.frame) → h'.get? b = some o) → (∀ b o, s.heap.get? b = some o → b ∈ outer.filterMap (·.frame) → ∃ sl, h'.get? b = some { o with slots := sl }) → s.heap.get? tp = none → h'.get? tp = some { cls := .type "tuple", data := .seq #[.str kd t1, .int at_ t2, .str dt t3] } → R (.ok (.ret (.ref tp))) { s with heap := h', toks := tk' }) :
    codeAny (model PySem.Challenge.rw_sj0046_01.row.prog w) A (.call (.ref 362) ⟨[.ref wr, .ref nl, .ref ds, .ref row], []⟩) R s := by
  refine hold fun gP kont => ?_
  obtain ⟨h, g, d, tt, os⟩ := s
  refine kont ?_
  clear kont gP
  refine' enter (binds := [(Str.ofString "wires", .ref wr), (Str.ofString "netlist", .ref nl), (Str.ofString "design", .ref ds), (Str.ofString "row", .ref row)]) [] B XB TB ?q1 ?q2 ?q3 ?k6 ?k7 ?k8 ?k9 ?kB ?_ ?c2 ?c3 ?c4 ?c5
  case k8 => exact Nat.lt_of_lt_of_le hroom (by decide)
  tb_start
  case q1 => exact fNm _
  case q2 => exact fNm _
  case q3 => exact fun _ _ => fNm _
  intro gg L h₁ hg1 hg2 hL F N B' X' T'
  try dsimp only
  k_steps
  have k0 : Kept [] h h₁ := kept_end hg1 F.keep (fNm _)
  walk_at "q0"
  refine' wpAny_call (hemit _ _ (_ :: outer) _ (B'.push F) ?z1 ?z2 ?z3 k0 (fun x o e ow => ow.frame (by rw [hL]; exact Nat.ne_of_lt (Heap.lt_size e))) ?_)
  case z1 => exact roomD hroom (by decide)
  case z2 => exact roomU hun (by decide)
  case z3 => exact hh
  intro h5 tk5 e dx es hes T5
  refine' x_caught T5 F B' XB TB ?ex ?q ?_
  case ex => k_is
  case q => kts_isx
  intro h6 g6 tk6 vs6 KT6 F6 N6 B6 X6 T6 kp6 ne6 nd6
  refine hold fun gP kont => ?_
  obtain ⟨u1, t1, u2, t2, u3, t3, rfl⟩ := hes
  refine kont ?_
  clear kont gP
  try dsimp only
  k_steps
  have X6' := X6.keeps F6.keep
  have I6 : InstAt h6 e _ 52 (some _) := ⟨(N6 _ (.head _)).1, rfl, rfl, (N6 _ (.tail _ (.head _))).1⟩
  try dsimp only at I6
  refine' x_get (C := 52) ?x I6 ?g1 ?g2 ?g3 (findObj_own ?f1 ?f2 ?f3 ?f4) ?v ?_
  case x => exact X6'
  case g1 => k_is
  case g2 => k_is
  case g3 => k_is
  case f1 => k_is
  case f2 => k_is
  case f3 => k_is
  case f4 => (refine (lookIn_dict _ _ _).trans ?_; k_get)
  case v => rfl
  try dsimp only
  k_steps
  refine' x_get (C := 52) ?x I6 ?g1 ?g2 ?g3 (findObj_own ?f1 ?f2 ?f3 ?f4) ?v ?_
  case x => exact X6'
  case g1 => k_is
  case g2 => k_is
  case g3 => k_is
  case f1 => k_is
  case f2 => k_is
  case f3 => k_is
  case f4 => (refine (lookIn_dict _ _ _).trans ?_; k_get)
  case v => rfl
  try dsimp only
  k_steps
  refine' x_get (C := 52) ?x I6 ?g1 ?g2 ?g3 (findObj_own ?f1 ?f2 ?f3 ?f4) ?v ?_
  case x => exact X6'
  case g1 => k_is
  case g2 => k_is
  case g3 => k_is
  case f1 => k_is
  case f2 => k_is
  case f3 => k_is
  case f4 => (refine (lookIn_dict _ _ _).trans ?_; k_get)
  case v => rfl
  try dsimp only
  k_steps
  rename Fr _ _ _ _ => F9
  rename News _ _ _ _ => N9
  have hk : ∀ b o, h.get? b = some o → gg.get? b = some o := fun b o e => hg1 b o e List.not_mem_nil
  refine hR _ _ _ _ _ _ (fun b o hb hn => F9.keep b o (KT6.other b o (hk b o hb) hn)) (fun b o hb hm => (KT6.frame b o (hk b o hb) hm).imp fun sl e => F9.keep _ _ e) (turned_none KT6 hk (N9 _ (.head _)).2.2) (N9 _ (.head _)).1
set_option maxHeartbeats 8000000 in
theorem emitted_ok {w : World} {A : Around} {s : Shared} {base : Heap} {outer : List Env} {mean : ExcName → Option Value} {mg mb : Str → Option Value} {R : Result → Shared → Prop}
    {wr nl ds row : Addr} {sub : List (Addr × Obj)} {P : Heap → Heap → Prop}
    (B : Below A base outer s.heap) (XB : (Mine.hd.heap_39 w.params).In base) (TB : Top Mine.hd.view_39 (looseW Mine.hd.view_39 [Str.ofString "GateloomError"]) mean mg mb base) (hroom : A.depth < 550) (hun : A.units < 700) (hh : A.handled = none)
    (hs : ∀ q ∈ sub, s.heap.get? q.1 = some q.2) (ho : ∀ q ∈ sub, Own base outer q.1) (hP : ∀ h₀ h₁ h₂, Kept [] h₀ h₁ → P h₁ h₂ → P h₀ h₂)
    (hemit : ∀ (A' : Around) (s' : Shared) (outer' : List Env) (R' : Result → Shared → Prop), Below A' base outer' s'.heap → A'.depth < 650 → A'.units < 800 → A'.handled = none → Kept [] s.heap s'.heap → (∀ x o, s.heap.get? x = some o → Own base outer x → Own base outer' x) →
      (∀ h' tk', Kept (sub.map (·.1)) s'.heap h' → P s'.heap h' → R' (.ok (.ret .none)) { s' with heap := h', toks := tk' }) →
      codeAny (model PySem.Challenge.rw_sj0046_01.row.prog w) A' (.call (.ref 110) ⟨[.ref wr, .ref nl, .ref ds, .ref row], []⟩) R' s')
    (hR : ∀ h' tk', Kept (sub.map (·.1)) s.heap h' → P s.heap h' → R (.ok (.ret .none)) { s with heap := h', toks := tk' }) :
    codeAny (model PySem.Challenge.rw_sj0046_01.row.prog w) A (.call (.ref 362) ⟨[.ref wr, .ref nl, .ref ds, .ref row], []⟩) R s := by
  refine hold fun gP kont => ?_
  obtain ⟨h, g, d, tt, os⟩ := s
  refine kont ?_
  clear kont gP
  refine' enter (binds := [(Str.ofString "wires", .ref wr), (Str.ofString "netlist", .ref nl), (Str.ofString "design", .ref ds), (Str.ofString "row", .ref row)]) sub B XB TB ?q1 ?q2 ?q3 ?k6 ?k7 ?k8 ?k9 ?kB ?_ ?c2 ?c3 ?c4 ?c5
  case k8 => exact Nat.lt_of_lt_of_le hroom (by decide)
  tb_start
  case q1 => exact hs
  case q2 => exact fun q hq => (ho q hq).1
  case q3 => exact fun env he q hq => (ho q hq).2 env he
  intro gg L h₁ hg1 hg2 hL F N B' X' T'
  try dsimp only
  k_steps
  have k0 : Kept [] h h₁ := kept_all hg1 F.keep N hs fun q hq => hq
  walk_at "q0"
  refine' wpAny_call (hemit _ _ (_ :: outer) _ (B'.push F) ?z1 ?z2 ?z3 k0 (fun x o e ow => ow.frame (by rw [hL]; exact Nat.ne_of_lt (Heap.lt_size e))) ?_)
  case z1 => exact roomD hroom (by decide)
  case z2 => exact roomU hun (by decide)
  case z3 => exact hh
  intro h5 tk5 hk5 hp5
  have F5 := led_kept hk5 F fun a ha => (by obtain ⟨q, hq, rfl⟩ := List.mem_map.mp ha; exact ⟨(N q hq).2.2, (N q hq).2.1⟩)
  clear F
  try dsimp only
  k_steps
  exact hR _ _ (fun b o q n => hk5 b o (k0.get q) n) (hP _ _ _ k0 hp5)
set_option maxHeartbeats 8000000 in
theorem checked_raise {w : World} {A : Around} {s : Shared} {base : Heap} {outer : List Env} {mean : ExcName → Option Value} {mg mb : Str → Option Value} {R : Result → Shared → Prop}
    {wr ds : Addr} {kd dt : Str} {at_ : Int}
    (B : Below A base outer s.heap) (XB : (Mine.hd.heap_39 w.params).In base) (TB : Top Mine.hd.view_39 (looseW Mine.hd.view_39 [Str.ofString "GateloomError"]) mean mg mb base) (hroom : A.depth < 550) (hun : A.units < 700) (hh : A.handled = none)
    (hcheck : ∀ (A' : Around) (s' : Shared) (outer' : List Env) (R' : Result → Shared → Prop), Below A' base outer' s'.heap → A'.depth < 650 → A'.units < 800 → A'.handled = none → Kept [] s.heap s'.heap → (∀ x o, s.heap.get? x = some o → Own base outer x → Own base outer' x) →
      (∀ h' tk' e dx es, EsOf w.params kd dt at_ es → Thrown s'.heap h' outer' e dx 52 es 3 → R' (.error (.ref e)) { s' with heap := h', toks := tk' }) →
      codeAny (model PySem.Challenge.rw_sj0046_01.row.prog w) A' (.call (.ref 117) ⟨[.ref wr, .ref ds], []⟩) R' s')
    (hR : ∀ h' tk' tp t1 t2 t3, (∀ b o, s.heap.get? b = some o → b ∉ outer.filterMap (·.frame) → h'.get? b = some o) → (∀ b o, s.heap.get? b = some o → b ∈ outer.filterMap (·.frame) → ∃ sl, h'.get? b = some { o with slots := sl }) → s.heap.get? tp = none → h'.get? tp = some { cls := .type "tuple", data := .seq #[.str kd t1, .int at_ t2, .str dt t3] } → R (.ok (.ret (.ref tp))) { s with heap := h', toks := tk' }) :
    codeAny (model PySem.Challenge.rw_sj0046_01.row.prog w) A (.call (.ref 369) ⟨[.ref wr, .ref ds], []⟩) R s := by
  refine hold fun gP kont => ?_
  obtain ⟨h, g, d, tt, os⟩ := s
  refine kont ?_
  clear kont gP
  refine' enter (binds := [(Str.ofString "wires", .ref wr), (Str.ofString "design", .ref ds)]) [] B XB TB ?q1 ?q2 ?q3 ?k6 ?k7 ?k8 ?k9 ?kB ?_ ?c2 ?c3 ?c4 ?c5
  case k8 => exact Nat.lt_of_lt_of_le hroom (by decide)
  tb_start
  case q1 => exact fNm _
  case q2 => exact fNm _
  case q3 => exact fun _ _ => fNm _
  intro gg L h₁ hg1 hg2 hL F N B' X' T'
  try dsimp only
  k_steps
  have k0 : Kept [] h h₁ := kept_end hg1 F.keep (fNm _)
  walk_at "q0"
  refine' wpAny_call (hcheck _ _ (_ :: outer) _ (B'.push F) ?z1 ?z2 ?z3 k0 (fun x o e ow => ow.frame (by rw [hL]; exact Nat.ne_of_lt (Heap.lt_size e))) ?_)
  case z1 => exact roomD hroom (by decide)
  case z2 => exact roomU hun (by decide)
  case z3 => exact hh
  intro h5 tk5 e dx es hes T5
  refine' x_caught T5 F B' XB TB ?ex ?q ?_
  case ex => k_is
  case q => kts_isx
  intro h6 g6 tk6 vs6 KT6 F6 N6 B6 X6 T6 kp6 ne6 nd6
  refine hold fun gP kont => ?_
  obtain ⟨u1, t1, u2, t2, u3, t3, rfl⟩ := hes
  refine kont ?_
  clear kont gP
  try dsimp only
  k_steps
  have X6' := X6.keeps F6.keep
  have I6 : InstAt h6 e _ 52 (some _) := ⟨(N6 _ (.head _)).1, rfl, rfl, (N6 _ (.tail _ (.head _))).1⟩
  try dsimp only at I6
  refine' x_get (C := 52) ?x I6 ?g1 ?g2 ?g3 (findObj_own ?f1 ?f2 ?f3 ?f4) ?v ?_
  case x => exact X6'
  case g1 => k_is
  case g2 => k_is
  case g3 => k_is
  case f1 => k_is
  case f2 => k_is
  case f3 => k_is
  case f4 => (refine (lookIn_dict _ _ _).trans ?_; k_get)
  case v => rfl
  try dsimp only
  k_steps
  refine' x_get (C := 52) ?x I6 ?g1 ?g2 ?g3 (findObj_own ?f1 ?f2 ?f3 ?f4) ?v ?_
  case x => exact X6'
  case g1 => k_is
  case g2 => k_is
  case g3 => k_is
  case f1 => k_is
  case f2 => k_is
  case f3 => k_is
  case f4 => (refine (lookIn_dict _ _ _).trans ?_; k_get)
  case v => rfl
  try dsimp only
  k_steps
  refine' x_get (C := 52) ?x I6 ?g1 ?g2 ?g3 (findObj_own ?f1 ?f2 ?f3 ?f4) ?v ?_
  case x => exact X6'
  case g1 => k_is
  case g2 => k_is
  case g3 => k_is
  case f1 => k_is
  case f2 => k_is
  case f3 => k_is
  case f4 => (refine (lookIn_dict _ _ _).trans ?_; k_get)
  case v => rfl
  try dsimp only
  k_steps
  rename Fr _ _ _ _ => F9
  rename News _ _ _ _ => N9
  have hk : ∀ b o, h.get? b = some o → gg.get? b = some o := fun b o e => hg1 b o e List.not_mem_nil
  refine hR _ _ _ _ _ _ (fun b o hb hn => F9.keep b o (KT6.other b o (hk b o hb) hn)) (fun b o hb hm => (KT6.frame b o (hk b o hb) hm).imp fun sl e => F9.keep _ _ e) (turned_none KT6 hk (N9 _ (.head _)).2.2) (N9 _ (.head _)).1
set_option maxHeartbeats 8000000 in
theorem checked_ok {w : World} {A : Around} {s : Shared} {base : Heap} {outer : List Env} {mean : ExcName → Option Value} {mg mb : Str → Option Value} {R : Result → Shared → Prop}
    {wr ds : Addr} {sub : List (Addr × Obj)} {P : Heap → Heap → Prop}
    (B : Below A base outer s.heap) (XB : (Mine.hd.heap_39 w.params).In base) (TB : Top Mine.hd.view_39 (looseW Mine.hd.view_39 [Str.ofString "GateloomError"]) mean mg mb base) (hroom : A.depth < 550) (hun : A.units < 700) (hh : A.handled = none)
    (hs : ∀ q ∈ sub, s.heap.get? q.1 = some q.2) (ho : ∀ q ∈ sub, Own base outer q.1) (hP : ∀ h₀ h₁ h₂, Kept [] h₀ h₁ → P h₁ h₂ → P h₀ h₂)
    (hcheck : ∀ (A' : Around) (s' : Shared) (outer' : List Env) (R' : Result → Shared → Prop), Below A' base outer' s'.heap → A'.depth < 650 → A'.units < 800 → A'.handled = none → Kept [] s.heap s'.heap → (∀ x o, s.heap.get? x = some o → Own base outer x → Own base outer' x) →
      (∀ h' tk', Kept (sub.map (·.1)) s'.heap h' → P s'.heap h' → R' (.ok (.ret .none)) { s' with heap := h', toks := tk' }) →
      codeAny (model PySem.Challenge.rw_sj0046_01.row.prog w) A' (.call (.ref 117) ⟨[.ref wr, .ref ds], []⟩) R' s')
    (hR : ∀ h' tk', Kept (sub.map (·.1)) s.heap h' → P s.heap h' → R (.ok (.ret .none)) { s with heap := h', toks := tk' }) :
    codeAny (model PySem.Challenge.rw_sj0046_01.row.prog w) A (.call (.ref 369) ⟨[.ref wr, .ref ds], []⟩) R s := by
  refine hold fun gP kont => ?_
  obtain ⟨h, g, d, tt, os⟩ := s
  refine kont ?_
  clear kont gP
  refine' enter (binds := [(Str.ofString "wires", .ref wr), (Str.ofString "design", .ref ds)]) sub B XB TB ?q1 ?q2 ?q3 ?k6 ?k7 ?k8 ?k9 ?kB ?_ ?c2 ?c3 ?c4 ?c5
  case k8 => exact Nat.lt_of_lt_of_le hroom (by decide)
  tb_start
  case q1 => exact hs
  case q2 => exact fun q hq => (ho q hq).1
  case q3 => exact fun env he q hq => (ho q hq).2 env he
  intro gg L h₁ hg1 hg2 hL F N B' X' T'
  try dsimp only
  k_steps
  have k0 : Kept [] h h₁ := kept_all hg1 F.keep N hs fun q hq => hq
  walk_at "q0"
  refine' wpAny_call (hcheck _ _ (_ :: outer) _ (B'.push F) ?z1 ?z2 ?z3 k0 (fun x o e ow => ow.frame (by rw [hL]; exact Nat.ne_of_lt (Heap.lt_size e))) ?_)
  case z1 => exact roomD hroom (by decide)
  case z2 => exact roomU hun (by decide)
  case z3 => exact hh
  intro h5 tk5 hk5 hp5
  have F5 := led_kept hk5 F fun a ha => (by obtain ⟨q, hq, rfl⟩ := List.mem_map.mp ha; exact ⟨(N q hq).2.2, (N q hq).2.1⟩)
  clear F
  try dsimp only
  k_steps
  exact hR _ _ (fun b o q n => hk5 b o (k0.get q) n) (hP _ _ _ k0 hp5)
theorem gear_mono {w : World} {base : Heap} {outer outer' : List Env} {h h' : Heap} {a : Adr} (G : Gear w base outer h a) (k : Kept [] h h') (ow : ∀ x o, h.get? x = some o → Own base outer x → Own base outer' x)
    (eD : ∃ o, h.get? a.D = some o) (eM : ∃ o, h.get? a.M = some o) (end_ : ∃ o, h.get? a.nd = some o) (enc : ∃ o, h.get? a.nc = some o) : Gear w base outer' h' a := by
  obtain ⟨gwr, gwd, gnl, gds, gdd, gsl, gsig, gini, owr, owd, onl, ods, odd, oD, oM, ond, onc, n_wr_wd, n_wr_nl, n_wr_D, n_wr_M, n_wr_nd, n_wr_nc, n_wd_nl, n_wd_D, n_wd_M, n_wd_nd, n_wd_nc, n_nl_D, n_nl_M, n_nl_nd, n_nl_nc, n_D_M, n_D_nd, n_D_nc, n_M_nd, n_M_nc, n_nd_nc, n_I_M, n_dd_D, n_dd_M, n_dd_nd, sys⟩ := G
  refine ⟨k.get gwr, k.get gwd, k.get gnl, k.get gds, k.get gdd, k.get gsl, fun r hr => ?_, ?_, ow _ _ gwr owr, ow _ _ gwd owd, ow _ _ gnl onl, ow _ _ gds ods, ow _ _ gdd odd, ow _ _ eD.choose_spec oD, ow _ _ eM.choose_spec oM, ow _ _ end_.choose_spec ond, ow _ _ enc.choose_spec onc, n_wr_wd, n_wr_nl, n_wr_D, n_wr_M, n_wr_nd, n_wr_nc, n_wd_nl, n_wd_D, n_wd_M, n_wd_nd, n_wd_nc, n_nl_D, n_nl_M, n_nl_nd, n_nl_nc, n_D_M, n_D_nd, n_D_nc, n_M_nd, n_M_nc, n_nd_nc, n_I_M, n_dd_D, n_dd_M, n_dd_nd, sys⟩
  · obtain ⟨sg, sd, ts, us, e1, e2, e3, o1, o2⟩ := gsig r hr
    exact ⟨sg, sd, ts, us, e1, k.get e2, k.get e3, ow _ _ e2 o1, ow _ _ e3 o2⟩
  · obtain ⟨oi, kvs, e1, e2, e3⟩ := gini
    refine ⟨oi, kvs, k.get e1, e2, fun r hr => ?_⟩
    obtain ⟨il, ins, m, f1, f2, f3, f4⟩ := e3 r hr
    exact ⟨il, ins, m, f1, k.get f2, f3, f4⟩
noncomputable def KF (hb : Heap) (W : List Addr) (h h' : Heap) : Prop := ∀ b o, h.get? b = some o → b ∉ W → (∃ ob, hb.get? b = some ob) → h'.get? b = some o
theorem KF.trans {hb : Heap} {W : List Addr} {h h₁ h₂ : Heap} (x : KF hb W h h₁) (y : KF hb W h₁ h₂) : KF hb W h h₂ := fun b o e n q => y b o (x b o e n q) n q
theorem Kept.kf {hb : Heap} {S W : List Addr} {h h' : Heap} (k : Kept S h h') (hS : ∀ s ∈ S, s ∈ W ∨ hb.get? s = none) : KF hb W h h' := fun b o e n q => k b o e fun m => by
  rcases hS b m with z | z
  · exact n z
  · obtain ⟨ob, q⟩ := q
    rw [z] at q; cases q
structure Tab (w : World) (g : Heap) (L : Addr) (hb h : Heap) (A : Addr) (xs : TX) (nets : List Int → List Int) : Prop where
  at_ : ∃ od, NA g L h A od ∧ TabObj w h od xs
  ls : ∀ x ∈ xs, ∃ la li n, x.2.2 = .ref la ∧ NA g L h la (PySem.W.listOf li n) ∧ PyProof.Rows.IntsAre li.toList (nets x.1) ∧ hb.get? la = none
  nd : (xs.map (·.2.2)).Nodup
theorem Tab.ls3 {w : World} {g : Heap} {L : Addr} {hb h : Heap} {A : Addr} {xs : TX} {nets : List Int → List Int} (T : Tab w g L hb h A xs nets) : ∀ x ∈ xs, ∃ la li n, x.2.2 = .ref la ∧ NA g L h la (PySem.W.listOf li n) ∧ PyProof.Rows.IntsAre li.toList (nets x.1) := fun x hx =>
  let ⟨la, li, n, e1, e2, e3, _⟩ := T.ls x hx; ⟨la, li, n, e1, e2, e3⟩
theorem Tab.but {w : World} {g : Heap} {L : Addr} {hb h h' : Heap} {A : Addr} {xs : TX} {nets : List Int → List Int} {S : List Addr} (T : Tab w g L hb h A xs nets) (k : Kept S h h') (hA : A ∉ S) (hl : ∀ s ∈ S, (∀ x ∈ xs, x.2.2 ≠ .ref s)) (hS : ∀ s ∈ S, NonTup h s) : Tab w g L hb h' A xs nets := by
  refine ⟨?_, fun x hx => ?_, T.nd⟩
  · obtain ⟨od, e, t⟩ := T.at_
    exact ⟨od, e.but k hA, tab_but t k hS⟩
  · obtain ⟨la, li, n, e1, e2, e3⟩ := T.ls x hx
    exact ⟨la, li, n, e1, e2.but k fun m => hl la m x hx e1, e3⟩
theorem Tab.kept {w : World} {g : Heap} {L : Addr} {hb h h' : Heap} {A : Addr} {xs : TX} {nets : List Int → List Int} {m : Str → Option Value} (T : Tab w g L hb h A xs nets) (F : Fr g L h m) (k : Kept [L] h h') : Tab w g L hb h' A xs nets := by
  refine T.but k ?_ ?_ ?_
  · obtain ⟨od, e, _⟩ := T.at_; exact nm1 e.2.1
  · refine fCm ⟨fun x hx e => ?_, fNm _⟩
    obtain ⟨la, li, n, e1, e2, _⟩ := T.ls x hx
    rw [e1] at e
    exact e2.2.1 (by injection e)
  · exact fCm ⟨.fr F, fNm _⟩
theorem Tab.off {w : World} {g : Heap} {L : Addr} {hb h : Heap} {A s : Addr} {xs : TX} {nets : List Int → List Int} (T : Tab w g L hb h A xs nets) (e : ∃ o, hb.get? s = some o) : ∀ x ∈ xs, x.2.2 ≠ .ref s := fun x hx q => by
  obtain ⟨la, li, n, e1, _, _, e4⟩ := T.ls x hx
  obtain ⟨o, e⟩ := e
  rw [e1] at q
  injection q with q
  rw [q, e] at e4; cases e4
noncomputable def W0 (L : Addr) (a : Adr) (dv tv cv : Addr) : List Addr := [L, a.D, a.M, a.nd, a.nc, dv, tv, cv]
theorem live_kept {hb h h' : Heap} {S : List Addr} (x : ∀ b o, hb.get? b = some o → ∃ o', h.get? b = some o') (k : Kept S h h') (hS : ∀ s ∈ S, ∃ o, h'.get? s = some o) : ∀ b o, hb.get? b = some o → ∃ o', h'.get? b = some o' := fun b o e => by
  by_cases m : b ∈ S
  · exact hS b m
  · obtain ⟨o', e'⟩ := x b o e
    exact ⟨o', k _ _ e' m⟩
structure CC (w : World) (base : Heap) (outer : List Env) (gg : Heap) (L : Addr) (hb : Heap) (I : Addr) (a : Adr) (dv tv cv stl : Addr) (sits : Array Value) (fs : List Addr) : Prop where
  gear : ∀ h, (∀ b o, hb.get? b = some o → b ∉ fs → b ∉ I :: W0 L a dv tv cv → h.get? b = some o) → Gear w base (caseEnv L :: outer) h a
  starts : ∀ h, (∀ b o, hb.get? b = some o → b ∉ fs → b ∉ I :: W0 L a dv tv cv → h.get? b = some o) → ∃ n, NA gg L h stl (PySem.W.listOf sits n) ∧ ∀ r : Nat, r < 5 → ∃ il ins m, sits[r]? = some (.ref il) ∧ h.get? il = some (PySem.W.listOf ins m) ∧ PyProof.Rows.IntsAre ins.toList (a.st r) ∧ (a.st r).length = widthAt r
  own : ∀ x ∈ [a.wr, a.wd, a.nl, a.ds, a.dd], x ≠ L ∧ gg.get? x = none
  nd : (W0 L a dv tv cv).Nodup
  ex : ∀ x ∈ W0 L a dv tv cv, ∃ o, hb.get? x = some o
  lo : (dv == sysModules) = false
  nI : a.I ≠ L
  hwr : ∃ o, hb.get? a.wr = some o
  hwd : ∃ o, hb.get? a.wd = some o
  nL : gg.get? L = none
structure Five (w : World) (gg : Heap) (L : Addr) (h : Heap) (a : Adr) (tv cv : Addr) (names : List Str) (cells : List Cell) : Prop where
  M : ∃ om kvs, NA gg L h a.M om ∧ DObj (SK w) om kvs ∧ kvs.map (·.1) = names
  T : ∃ its n, NA gg L h tv (PySem.W.listOf its n) ∧ StrsAre its.toList names
  nd : ∃ tc, NA gg L h a.nd (ndOf w.params a.tn a.vn (8 + cells.length) tc a.nc)
  nc : ∃ cs n, NA gg L h a.nc (PySem.W.listOf cs n) ∧ CellsAt h cs.toList cells
  cv : ∃ cs n, NA gg L h cv (PySem.W.listOf cs n) ∧ CellsAt h cs.toList cells
theorem Five.but {w : World} {gg : Heap} {L : Addr} {h h' : Heap} {a : Adr} {tv cv : Addr} {names : List Str} {cells : List Cell} {S : List Addr} (C : Five w gg L h a tv cv names cells) (k : Kept S h h') (hS : a.M ∉ S ∧ tv ∉ S ∧ a.nd ∉ S ∧ a.nc ∉ S ∧ cv ∉ S) (nT : ∀ s ∈ S, NonTup h s) : Five w gg L h' a tv cv names cells := by
  refine ⟨?_, ?_, ?_, ?_, ?_⟩
  · obtain ⟨om, kvs, e, r⟩ := C.M; exact ⟨om, kvs, e.but k hS.1, r⟩
  · obtain ⟨its, n, e, r⟩ := C.T; exact ⟨its, n, e.but k hS.2.1, r⟩
  · obtain ⟨tc, e⟩ := C.nd; exact ⟨tc, e.but k hS.2.2.1⟩
  · obtain ⟨cs, n, e, r⟩ := C.nc; exact ⟨cs, n, e.but k hS.2.2.2.1, r.but k nT⟩
  · obtain ⟨cs, n, e, r⟩ := C.cv; exact ⟨cs, n, e.but k hS.2.2.2.2, r.but k nT⟩
theorem Five.kept {w : World} {gg : Heap} {L : Addr} {h h' : Heap} {a : Adr} {tv cv : Addr} {names : List Str} {cells : List Cell} {m : Str → Option Value} (C : Five w gg L h a tv cv names cells) (F : Fr gg L h m) (k : Kept [L] h h') : Five w gg L h' a tv cv names cells := by
  refine C.but k ⟨?_, ?_, ?_, ?_, ?_⟩ (fCm ⟨.fr F, fNm _⟩)
  · obtain ⟨_, _, e, _⟩ := C.M; exact nm1 e.2.1
  · obtain ⟨_, _, e, _⟩ := C.T; exact nm1 e.2.1
  · obtain ⟨_, e⟩ := C.nd; exact nm1 e.2.1
  · obtain ⟨_, _, e, _⟩ := C.nc; exact nm1 e.2.1
  · obtain ⟨_, _, e, _⟩ := C.cv; exact nm1 e.2.1
theorem nodup_ne {α : Type} {l : List α} (h : l.Nodup) {i j : Nat} {x y : α} (ei : l[i]? = some x) (ej : l[j]? = some y) (ne : i ≠ j) : x ≠ y := fun e => by
  subst e
  obtain ⟨hi, e1⟩ := List.getElem?_eq_some_iff.mp ei
  obtain ⟨hj, e2⟩ := List.getElem?_eq_some_iff.mp ej
  exact ne ((List.getElem_inj h).mp (e1.trans e2.symm))
theorem CC.ne {w : World} {base : Heap} {outer : List Env} {gg : Heap} {L : Addr} {hb : Heap} {I : Addr} {a : Adr} {dv tv cv stl : Addr} {sits : Array Value} {fs : List Addr} (C : CC w base outer gg L hb I a dv tv cv stl sits fs) {i j : Nat} {x y : Addr} (ei : (W0 L a dv tv cv)[i]? = some x) (ej : (W0 L a dv tv cv)[j]? = some y) (ne : i ≠ j) : x ≠ y := nodup_ne C.nd ei ej ne
theorem CC.at {w : World} {base : Heap} {outer : List Env} {gg : Heap} {L : Addr} {hb : Heap} {I : Addr} {a : Adr} {dv tv cv stl : Addr} {sits : Array Value} {fs : List Addr} (C : CC w base outer gg L hb I a dv tv cv stl sits fs) {i : Nat} {x : Addr} (ei : (W0 L a dv tv cv)[i]? = some x) : ∃ o, hb.get? x = some o := C.ex x (List.mem_of_getElem? ei)
structure CI (w : World) (gg : Heap) (L : Addr) (hb h : Heap) (I : Addr) (a : Adr) (dv tv cv : Addr) (fs : List Addr) (xs ys : TX) (nets : List Int → List Int) (names : List Str) (cells : List Cell) (N : Nat) : Prop where
  kb : ∀ b o, hb.get? b = some o → b ∉ fs → b ∉ I :: W0 L a dv tv cv → h.get? b = some o
  live : ∀ b o, hb.get? b = some o → ∃ o', h.get? b = some o'
  D : Tab w gg L hb h a.D xs nets
  V : Tab w gg L hb h dv ys nets
  dj : ∀ x ∈ xs, ∀ y ∈ ys, x.2.2 ≠ y.2.2
  ks : xs.map (·.1) = ys.map (·.1)
  kn : ∀ x ∈ xs, ∃ r b : Nat, x.1 = [(r : Int), (b : Int)] ∧ r < 5 ∧ b < widthAt r
  five : Five w gg L h a tv cv names cells
  ok : (∀ c ∈ cells, CellOk c) ∧ ∀ x ∈ names, PyData.strOk x = true
  sz : xs.length ≤ N ∧ names.length ≤ N ∧ cells.length ≤ N ∧ ∀ k, (nets k).length ≤ N
  ab : ∀ k, k ∉ xs.map (·.1) → nets k = []
  fw : ∀ b ∈ fs, b ∉ W0 L a dv tv cv
  fu : ∀ b ∈ fs, ∀ o, hb.get? b = some o → ∃ sl, h.get? b = some { o with slots := sl }
theorem CI.kept {w : World} {gg : Heap} {L : Addr} {hb h h' : Heap} {I : Addr} {a : Adr} {dv tv cv : Addr} {fs : List Addr} {xs ys : TX} {nets : List Int → List Int} {names : List Str} {cells : List Cell} {N : Nat} {m m' : Str → Option Value} (C : CI w gg L hb h I a dv tv cv fs xs ys nets names cells N) (F : Fr gg L h m) (F' : Fr gg L h' m') (k : Kept [L] h h') : CI w gg L hb h' I a dv tv cv fs xs ys nets names cells N := by
  exact ⟨fun b o e nf n => k _ _ (C.kb b o e nf n) (nm1 fun q => n (q ▸ .tail _ (.head _))), live_kept C.live k (fCm ⟨let ⟨o, _, _, e, _⟩ := F'.ns; ⟨o, e⟩, fNm _⟩), C.D.kept F k, C.V.kept F k, C.dj, C.ks, C.kn, C.five.kept F k, C.ok, C.sz, C.ab, C.fw, fun b hf o e => let ⟨sl, e'⟩ := C.fu b hf o e; ⟨sl, k _ _ e' (nm1 fun q => C.fw b hf (q ▸ .head _))⟩⟩
structure MPins (m : Str → Option Value) (a : Adr) (dv tv cv stl : Addr) : Prop where
  netlist : m (Str.ofString "netlist") = some (.ref a.nl)
  cells : m (Str.ofString "cells") = some (.ref cv)
  wires : m (Str.ofString "wires") = some (.ref a.wr)
  taken : m (Str.ofString "taken") = some (.ref tv)
  driven : m (Str.ofString "driven") = some (.ref dv)
  design : m (Str.ofString "design") = some (.ref a.ds)
  starts : m (Str.ofString "starts") = some (.ref stl)
structure Ground (w : World) (A : Around) (base : Heap) (outer : List Env) (mean : ExcName → Option Value) (mg mb : Str → Option Value) (gg : Heap) : Prop where
  B : Below A base outer gg
  X : (Mine.hd.heap_39 w.params).In gg
  T : Top Mine.hd.view_39 (looseW Mine.hd.view_39 [Str.ofString "GateloomError"]) mean mg mb gg
structure JI (w : World) (A : Around) (base : Heap) (outer : List Env) (mean : ExcName → Option Value) (mg mb : Str → Option Value) (L : Addr) (hb : Heap) (I : Addr) (a : Adr) (dv tv cv stl : Addr) (sits : Array Value) (fs : List Addr) (g0 : Heap) (N : Nat) (h : Heap) : Prop where
  ex : ∃ gg m xs ys nets names cells, Ground w A base outer mean mg mb gg ∧ (∀ b, g0.get? b = none → gg.get? b = none) ∧ CC w base outer gg L hb I a dv tv cv stl sits fs ∧ Fr gg L h m ∧ MPins m a dv tv cv stl ∧ CI w gg L hb h I a dv tv cv fs xs ys nets names cells N
set_option maxHeartbeats 4000000 in
theorem emit_net_new {w : World} {A : Around} {s : Shared} {base : Heap} {outer : List Env} {mean : ExcName → Option Value} {mg mb : Str → Option Value} {R : Result → Shared → Prop}
    {a : Adr} {row  : Addr} {rn : Nat} {r bit : Nat} {net : Int} {tr0 tr1 tr2 tr3 : Tok} {od : Obj} {xs : TX}
    (B : Below A base outer s.heap) (XB : (Mine.hd.heap_39 w.params).In base) (TB : Top Mine.hd.view_39 (looseW Mine.hd.view_39 [Str.ofString "GateloomError"]) mean mg mb base) (hroom : A.depth < 650) (hun : A.units < 800) (hh : A.handled = none)
    (G : Gear w base outer s.heap a) (hrow : s.heap.get? row = some { cls := .type "tuple", data := .seq #[.str (Str.ofString "net") tr0, .int r tr1, .int bit tr2, .int net tr3] rn }) (orow : Own base outer row)
    (hD : s.heap.get? a.D = some od) (hT : TabObj w s.heap od xs) (hno : atKey xs [(r : Int), (bit : Int)] = none) (hlen : xs.length ≤ sizeLine)
    (hR : ∀ h' tk' pl nl od', Kept [a.D] s.heap h' → s.heap.get? pl = none → s.heap.get? nl = none → h'.get? a.D = some od' → TabObj w h' od' (xs ++ [([(r : Int), (bit : Int)], pl, .ref nl)]) → h'.get? nl = some (PySem.W.listOf #[.int net tr3] 1) → R (.ok (.ret .none)) { s with heap := h', toks := tk' }) :
    codeAny (model PySem.Challenge.rw_sj0046_01.row.prog w) A (.call (.ref 110) ⟨[.ref a.wr, .ref a.nl, .ref a.ds, .ref row], []⟩) R s := by
  refine hold fun gP kont => ?_
  obtain ⟨h, g, d, tt, os⟩ := s
  obtain ⟨wr, wd, D, I, M, nl, nd, nc, ds, dd, sl, tw, tn, td, vw, vn, vd, its, sn, st⟩ := a
  obtain ⟨gwr, gwd, gnl, gds, gdd, gsl, gsig, gini, owr, owd, onl, ods, odd, oD, oM, ond, onc, n_wr_wd, n_wr_nl, n_wr_D, n_wr_M, n_wr_nd, n_wr_nc, n_wd_nl, n_wd_D, n_wd_M, n_wd_nd, n_wd_nc, n_nl_D, n_nl_M, n_nl_nd, n_nl_nc, n_D_M, n_D_nd, n_D_nc, n_M_nd, n_M_nc, n_nd_nc, n_I_M, n_dd_D, n_dd_M, n_dd_nd, ⟨sD, sM, sI⟩⟩ := G
  refine kont ?_
  clear kont gP
  try dsimp only at *
  have X₁ : (Mine.hd.heap_39 w.params).In h := XB.keeps B.stays
  have hu1 : ∀ env, (A.deeper env).units + 1 < cLine := hu_of hun (Nat.le_of_ble_eq_true rfl)
  have hq1 : ∀ q ∈ [((row, { cls := .type "tuple", data := .seq #[.str (Str.ofString "net") tr0, .int r tr1, .int bit tr2, .int net tr3] rn }) : Addr × Obj), ((D, od) : Addr × Obj), ((wr, instObj 85 wd) : Addr × Obj), ((wd, wdOf w.params tw vw D I M) : Addr × Obj)], h.get? q.1 = some q.2 := fCm ⟨hrow, fCm ⟨hD, fCm ⟨gwr, fCm ⟨gwd, fNm _⟩⟩⟩⟩
  refine' enter (binds := [(Str.ofString "wires", .ref wr), (Str.ofString "netlist", .ref nl), (Str.ofString "design", .ref ds), (Str.ofString "row", .ref row)]) [(row, { cls := .type "tuple", data := .seq #[.str (Str.ofString "net") tr0, .int r tr1, .int bit tr2, .int net tr3] rn }), (D, od), (wr, instObj 85 wd), (wd, wdOf w.params tw vw D I M)] B XB TB ?q1 ?q2 ?q3 ?k6 ?k7 ?k8 ?k9 ?kB ?_ ?c2 ?c3 ?c4 ?c5
  case k8 => exact Nat.lt_of_lt_of_le hroom (by decide)
  tb_start
  case q1 => exact hq1
  case q2 => exact fCm ⟨orow.1, fCm ⟨oD.1, fCm ⟨owr.1, fCm ⟨owd.1, fNm _⟩⟩⟩⟩
  case q3 => exact fun env hm => fCm ⟨orow.2 env hm, fCm ⟨oD.2 env hm, fCm ⟨owr.2 env hm, fCm ⟨owd.2 env hm, fNm _⟩⟩⟩⟩
  intro gg L h₁ hg1 hg2 hL F N B' X' T'
  have rD : row ≠ D := ne_tup hrow hD rfl (fun e => no_tup_dict (hT.exact_.1.symm.trans e))
  try dsimp only
  k_steps
  try dsimp only
  rename Fr _ _ _ _ => F1
  rename News _ _ _ _ => N1
  have kk1 := kept_all hg1 F1.keep N1 hq1 fun q hq => .tail _ hq
  walk_at "q0"
  refine' wpAny_call (drive_new (B'.push F1) XB TB ?z1 ?z2 (kk1.get gwr) (kk1.get gwd) (kk1.get hD) (hT.kept kk1) ?z3 ?z4 sD hlen hno ?z5 ?_)
  case z1 => exact roomD hroom (by decide)
  case z2 => exact roomU hun (by decide)
  case z3 => exact ⟨owr.1, owd.1, oD.1⟩
  case z4 => exact fun env he => ⟨(owr.frame (by rw [hL]; exact Nat.ne_of_lt (Heap.lt_size gwr))).2 env he, (owd.frame (by rw [hL]; exact Nat.ne_of_lt (Heap.lt_size gwd))).2 env he, (oD.frame (by rw [hL]; exact Nat.ne_of_lt (Heap.lt_size hD))).2 env he⟩
  case z5 => exact ⟨n_wr_D, n_wd_D⟩
  intro h5 tk5 pl ln od5 hk5 hp5 hl5 hD5 hT5 hln5
  have F5 := led_kept hk5 F1 fun a ha => (by rw [List.mem_singleton.mp ha]; exact ⟨(N1 _ (.tail _ (.tail _ (.head _)))).2.2, (N1 _ (.tail _ (.tail _ (.head _)))).2.1⟩)
  clear F1 N1
  try dsimp only
  k_steps
  exact hR _ _ pl ln od5 (fun b o q n => hk5 b o (kk1.get q) n) (kk1.none_ hp5) (kk1.none_ hl5) hD5 hT5 hln5
set_option maxHeartbeats 4000000 in
theorem emit_net_more {w : World} {A : Around} {s : Shared} {base : Heap} {outer : List Env} {mean : ExcName → Option Value} {mg mb : Str → Option Value} {R : Result → Shared → Prop}
    {a : Adr} {row  : Addr} {rn : Nat} {r bit : Nat} {net : Int} {tr0 tr1 tr2 tr3 : Tok} {od : Obj} {xs : TX}
    (B : Below A base outer s.heap) (XB : (Mine.hd.heap_39 w.params).In base) (TB : Top Mine.hd.view_39 (looseW Mine.hd.view_39 [Str.ofString "GateloomError"]) mean mg mb base) (hroom : A.depth < 650) (hun : A.units < 800) (hh : A.handled = none)
    (G : Gear w base outer s.heap a) (hrow : s.heap.get? row = some { cls := .type "tuple", data := .seq #[.str (Str.ofString "net") tr0, .int r tr1, .int bit tr2, .int net tr3] rn }) (orow : Own base outer row)
    (hD : s.heap.get? a.D = some od) (hT : TabObj w s.heap od xs) {pa il : Addr} {ls : Array Value} {ln : Nat} (hno : atKey xs [(r : Int), (bit : Int)] = some (pa, .ref il)) (hil : s.heap.get? il = some (PySem.W.listOf ls ln)) (hls : ls.size ≤ sizeLine) (oil : Own base outer il) (nil : row ≠ il ∧ a.wr ≠ il ∧ a.wd ≠ il ∧ a.D ≠ il)
    (hR : ∀ h' tk', Kept [il] s.heap h' → h'.get? il = some (PySem.W.listOf (ls.push (.int net tr3)) (ln + 1)) → R (.ok (.ret .none)) { s with heap := h', toks := tk' }) :
    codeAny (model PySem.Challenge.rw_sj0046_01.row.prog w) A (.call (.ref 110) ⟨[.ref a.wr, .ref a.nl, .ref a.ds, .ref row], []⟩) R s := by
  refine hold fun gP kont => ?_
  obtain ⟨h, g, d, tt, os⟩ := s
  obtain ⟨wr, wd, D, I, M, nl, nd, nc, ds, dd, sl, tw, tn, td, vw, vn, vd, its, sn, st⟩ := a
  obtain ⟨gwr, gwd, gnl, gds, gdd, gsl, gsig, gini, owr, owd, onl, ods, odd, oD, oM, ond, onc, n_wr_wd, n_wr_nl, n_wr_D, n_wr_M, n_wr_nd, n_wr_nc, n_wd_nl, n_wd_D, n_wd_M, n_wd_nd, n_wd_nc, n_nl_D, n_nl_M, n_nl_nd, n_nl_nc, n_D_M, n_D_nd, n_D_nc, n_M_nd, n_M_nc, n_nd_nc, n_I_M, n_dd_D, n_dd_M, n_dd_nd, ⟨sD, sM, sI⟩⟩ := G
  refine kont ?_
  clear kont gP
  try dsimp only at *
  have X₁ : (Mine.hd.heap_39 w.params).In h := XB.keeps B.stays
  have hu1 : ∀ env, (A.deeper env).units + 1 < cLine := hu_of hun (Nat.le_of_ble_eq_true rfl)
  have hq1 : ∀ q ∈ [((row, { cls := .type "tuple", data := .seq #[.str (Str.ofString "net") tr0, .int r tr1, .int bit tr2, .int net tr3] rn }) : Addr × Obj), ((il, PySem.W.listOf ls ln) : Addr × Obj), ((D, od) : Addr × Obj), ((wr, instObj 85 wd) : Addr × Obj), ((wd, wdOf w.params tw vw D I M) : Addr × Obj)], h.get? q.1 = some q.2 := fCm ⟨hrow, fCm ⟨hil, fCm ⟨hD, fCm ⟨gwr, fCm ⟨gwd, fNm _⟩⟩⟩⟩⟩
  refine' enter (binds := [(Str.ofString "wires", .ref wr), (Str.ofString "netlist", .ref nl), (Str.ofString "design", .ref ds), (Str.ofString "row", .ref row)]) [(row, { cls := .type "tuple", data := .seq #[.str (Str.ofString "net") tr0, .int r tr1, .int bit tr2, .int net tr3] rn }), (il, PySem.W.listOf ls ln), (D, od), (wr, instObj 85 wd), (wd, wdOf w.params tw vw D I M)] B XB TB ?q1 ?q2 ?q3 ?k6 ?k7 ?k8 ?k9 ?kB ?_ ?c2 ?c3 ?c4 ?c5
  case k8 => exact Nat.lt_of_lt_of_le hroom (by decide)
  tb_start
  case q1 => exact hq1
  case q2 => exact fCm ⟨orow.1, fCm ⟨oil.1, fCm ⟨oD.1, fCm ⟨owr.1, fCm ⟨owd.1, fNm _⟩⟩⟩⟩⟩
  case q3 => exact fun env hm => fCm ⟨orow.2 env hm, fCm ⟨oil.2 env hm, fCm ⟨oD.2 env hm, fCm ⟨owr.2 env hm, fCm ⟨owd.2 env hm, fNm _⟩⟩⟩⟩⟩
  intro gg L h₁ hg1 hg2 hL F N B' X' T'
  try dsimp only
  k_steps
  try dsimp only
  rename Fr _ _ _ _ => F1
  rename News _ _ _ _ => N1
  have kk1 := kept_all hg1 F1.keep N1 hq1 fun q hq => .tail _ hq
  walk_at "q0"
  refine' wpAny_call (drive_more (B'.push F1) XB TB ?z1 ?z2 (kk1.get gwr) (kk1.get gwd) (kk1.get hD) (hT.kept kk1) ?z3 ?z4 sD hno (kk1.get hil) oil.1 ?z6 ?z5 hls ?_)
  case z1 => exact roomD hroom (by decide)
  case z2 => exact roomU hun (by decide)
  case z3 => exact ⟨owr.1, owd.1, oD.1⟩
  case z4 => exact fun env he => ⟨(owr.frame (by rw [hL]; exact Nat.ne_of_lt (Heap.lt_size gwr))).2 env he, (owd.frame (by rw [hL]; exact Nat.ne_of_lt (Heap.lt_size gwd))).2 env he, (oD.frame (by rw [hL]; exact Nat.ne_of_lt (Heap.lt_size hD))).2 env he⟩
  case z6 => exact (oil.frame (by rw [hL]; exact Nat.ne_of_lt (Heap.lt_size hil))).2
  case z5 => exact ⟨nil.2.1, nil.2.2.1, nil.2.2.2⟩
  intro h5 tk5 hk5 hl5
  have F5 := led_kept hk5 F1 fun a ha => (by rw [List.mem_singleton.mp ha]; exact ⟨(N1 _ (.tail _ (.tail _ (.head _)))).2.2, (N1 _ (.tail _ (.tail _ (.head _)))).2.1⟩)
  clear F1 N1
  try dsimp only
  k_steps
  exact hR _ _ (fun b o q n => hk5 b o (kk1.get q) n) hl5
noncomputable def upd (nets : List Int → List Int) (k : List Int) (l : List Int) : List Int → List Int := fun x => if x = k then l else nets x
theorem ints_snoc : ∀ {vs : List Value} {l : List Int} {n : Int} {t : Tok}, PyProof.Rows.IntsAre vs l → PyProof.Rows.IntsAre (vs ++ [.int n t]) (l ++ [n])
  | _, _, _, _, .nil => .cons _ _ .nil
  | _, _, _, _, .cons a b r => .cons a b (ints_snoc r)
structure Grown (w : World) (g : Heap) (L : Addr) (hb h h' : Heap) (D : Addr) (xs xs' : TX) (nets' : List Int → List Int) (key : List Int) : Prop where
  ex : ∃ S, Kept S h h' ∧ (∀ s ∈ S, s = D ∨ (hb.get? s = none ∧ ∃ x ∈ xs, x.2.2 = .ref s)) ∧ (∀ s ∈ S, NonTup h s) ∧ (∀ s ∈ S, ∃ o, h'.get? s = some o) ∧ (∀ s ∈ S, g.get? s = none ∧ s ≠ L)
  tab : Tab w g L hb h' D xs' nets'
  keys : xs'.map (·.1) = if key ∈ xs.map (·.1) then xs.map (·.1) else xs.map (·.1) ++ [key]
  vals : ∀ x ∈ xs', (∃ y ∈ xs, x.2.2 = y.2.2) ∨ ∃ ln, x.2.2 = .ref ln ∧ h.get? ln = none
theorem nodup_map_inj {α β : Type} {f : α → β} : ∀ {l : List α} {x y : α}, (l.map f).Nodup → x ∈ l → y ∈ l → f x = f y → x = y
  | z :: l, x, y, n, hx, hy, e => by
    have n : f z ∉ l.map f ∧ (l.map f).Nodup := List.nodup_cons.mp n
    rcases List.mem_cons.mp hx with q | hx
    · rcases List.mem_cons.mp hy with q2 | hy
      · rw [q, q2]
      · exact absurd (show f z ∈ l.map f by rw [← q, e]; exact List.mem_map_of_mem hy) n.1
    · rcases List.mem_cons.mp hy with q2 | hy
      · exact absurd (show f z ∈ l.map f by rw [← q2, ← e]; exact List.mem_map_of_mem hx) n.1
      · exact nodup_map_inj n.2 hx hy e
theorem atKey_isSome {xs : TX} {k : List Int} : (∃ p, atKey xs k = some p) ↔ k ∈ xs.map (·.1) := by
  constructor
  · rintro ⟨p, h⟩; exact List.mem_map_of_mem (atKey_some h)
  · intro h
    cases q : atKey xs k with
    | some p => exact ⟨p, rfl⟩
    | none =>
      obtain ⟨x, hx, e⟩ := List.mem_map.mp h
      exact absurd e (atKey_none q x hx)
set_option maxHeartbeats 4000000 in
theorem emitted_net {w : World} {A : Around} {s : Shared} {base g hb : Heap} {outer : List Env} {mean : ExcName → Option Value} {mg mb : Str → Option Value} {R : Result → Shared → Prop} {L : Addr} {m : Str → Option Value}
    {a : Adr} {row : Addr} {rn r bit : Nat} {net : Int} {tr0 tr1 tr2 tr3 : Tok} {xs : TX} {nets : List Int → List Int}
    (B : Below A base outer s.heap) (XB : (Mine.hd.heap_39 w.params).In base) (TB : Top Mine.hd.view_39 (looseW Mine.hd.view_39 [Str.ofString "GateloomError"]) mean mg mb base) (hroom : A.depth < 550) (hun : A.units < 700) (hh : A.handled = none)
    (G : Gear w base outer s.heap a) (hrow : s.heap.get? row = some { cls := .type "tuple", data := .seq #[.str (Str.ofString "net") tr0, .int r tr1, .int bit tr2, .int net tr3] rn }) (orow : Own base outer row)
    (F : Fr g L s.heap m) (T : Tab w g L hb s.heap a.D xs nets) (hO : ∀ b, g.get? b = none → b ≠ L → Own base outer b ∨ s.heap.get? b = none) (live : ∀ b o, hb.get? b = some o → ∃ o', s.heap.get? b = some o') (eM : ∃ o, s.heap.get? a.M = some o) (end_ : ∃ o, s.heap.get? a.nd = some o) (enc : ∃ o, s.heap.get? a.nc = some o) (hlen : xs.length ≤ 100) (hnl : ∀ k, (nets k).length ≤ 100)
    (hab : ∀ k, k ∉ xs.map (·.1) → nets k = []) (hwf : ∃ o, hb.get? a.wr = some o) (hwf2 : ∃ o, hb.get? a.wd = some o) (hwD : ∃ o, hb.get? a.D = some o)
    (hR : ∀ h' tk' xs', Grown w g L hb s.heap h' a.D xs xs' (upd nets [(r : Int), (bit : Int)] (nets [(r : Int), (bit : Int)] ++ [net])) [(r : Int), (bit : Int)] → R (.ok (.ret .none)) { s with heap := h', toks := tk' }) :
    codeAny (model PySem.Challenge.rw_sj0046_01.row.prog w) A (.call (.ref 362) ⟨[.ref a.wr, .ref a.nl, .ref a.ds, .ref row], []⟩) R s := by
  obtain ⟨od, vD, tD⟩ := T.at_
  have nDt : NonTup s.heap a.D := .dict vD.1 tD.exact_
  have own : ∀ {b : Addr} {o : Obj}, NA g L s.heap b o → Own base outer b := fun x => (hO _ x.2.2 x.2.1).elim id fun n => by have y := x.1; rw [n] at y; cases y
  cases hq : atKey xs [(r : Int), (bit : Int)] with
  | none =>
    have hnk : [(r : Int), (bit : Int)] ∉ xs.map (·.1) := fun h => by obtain ⟨p, e⟩ := atKey_isSome.mpr h; rw [hq] at e; cases e
    refine emitted_ok (sub := [(a.D, od)]) (P := fun h h' => ∃ pl ln od', h.get? pl = none ∧ h.get? ln = none ∧ h'.get? a.D = some od' ∧ TabObj w h' od' (xs ++ [([(r : Int), (bit : Int)], pl, .ref ln)]) ∧ h'.get? ln = some (PySem.W.listOf #[.int net tr3] 1)) B XB TB hroom hun hh
      (fCm ⟨vD.1, fNm _⟩) (fCm ⟨own vD, fNm _⟩) (fun h₀ h₁ h₂ k ⟨pl, ln, od', x, y, z⟩ => ⟨pl, ln, od', k.none_ x, k.none_ y, z⟩)
      (fun A' s' outer' R' Bs hd hu hn' kk ow hRR => emit_net_new Bs XB TB hd hu hn' (gear_mono G kk ow ⟨_, vD.1⟩ eM end_ enc) (kk.get hrow) (ow _ _ hrow orow) (kk.get vD.1) (tD.kept kk) hq (by rw [sizeLine_eq]; lia) fun h' tk' pl ln od' k1 p0 l0 e t e2 => hRR h' tk' k1 ⟨pl, ln, od', p0, l0, e, t, e2⟩) ?_
    rintro h' tk' k5 ⟨pl, ln, od', p0, l0, e5, t5, el5⟩
    have k5 : Kept [a.D] s.heap h' := k5
    have hbl : hb.get? ln = none := by
      cases q : hb.get? ln with
      | none => rfl
      | some o => obtain ⟨o', e⟩ := live _ _ q; rw [l0] at e; cases e
    refine hR h' tk' _ ⟨⟨[a.D], k5, fCm ⟨.inl rfl, fNm _⟩, fCm ⟨nDt, fNm _⟩, fCm ⟨⟨_, e5⟩, fNm _⟩, fCm ⟨⟨vD.2.2, vD.2.1⟩, fNm _⟩⟩, ⟨⟨od', ⟨e5, vD.2⟩, t5⟩, fun x hx => ?_, ?_⟩, ?_, fun x hx => ?_⟩
    · rcases List.mem_append.mp hx with hx | hx
      · obtain ⟨la, li, n, e1, e2, e3, e4⟩ := T.ls x hx
        refine ⟨la, li, n, e1, e2.but k5 (nm1 fun q => ?_), ?_, e4⟩
        · obtain ⟨o, eo⟩ := hwD; rw [q, eo] at e4; cases e4
        · unfold upd
          rw [if_neg (fun q : x.1 = [(r : Int), (bit : Int)] => hnk (by rw [← q]; exact List.mem_map_of_mem hx))]
          exact e3
      · rw [List.mem_singleton.mp hx]
        refine ⟨ln, _, _, rfl, NA.ofNew F l0 el5, ?_, hbl⟩
        unfold upd
        rw [if_pos rfl, hab _ hnk]
        exact .cons _ _ .nil
    · rw [List.map_append, List.nodup_append]
      refine ⟨T.nd, by simp, fun x hx y hy e => ?_⟩
      obtain ⟨z, hz, rfl⟩ := List.mem_map.mp hx
      obtain ⟨la, li, n, e1, e2, _⟩ := T.ls z hz
      have hy : y = .ref ln := by simpa using hy
      rw [e1, hy] at e
      injection e with e
      have e2 := e2.1
      rw [e, l0] at e2; cases e2
    · rw [if_neg hnk, List.map_append]; rfl
    · rcases List.mem_append.mp hx with hx | hx
      · exact .inl ⟨x, hx, rfl⟩
      · rw [List.mem_singleton.mp hx]; exact .inr ⟨ln, rfl, l0⟩
  | some p =>
    have hpx := atKey_some hq
    obtain ⟨il, li, n, e1, e2, e3, e4⟩ := T.ls _ hpx
    obtain ⟨pa, pv⟩ := p
    have e1 : pv = .ref il := e1
    subst e1
    have hk : [(r : Int), (bit : Int)] ∈ xs.map (·.1) := List.mem_map_of_mem hpx
    have off : ∀ {b : Addr}, (∃ o, hb.get? b = some o) → b ≠ il := fun ⟨o, eo⟩ q => by rw [q, e4] at eo; cases eo
    have nil : NonTup s.heap il := .list e2.1
    have nrow : row ≠ il := fun q => nil _ _ _ (q ▸ hrow) rfl rfl
    have hsz : li.size ≤ sizeLine := by
      have : li.toList.length = (nets [(r : Int), (bit : Int)]).length := PyProof.Rows.IntsAre.length e3
      have h2 := hnl [(r : Int), (bit : Int)]
      rw [Array.length_toList] at this
      rw [sizeLine_eq]; lia
    refine emitted_ok (sub := [(il, PySem.W.listOf li n)]) (P := fun h h' => h'.get? il = some (PySem.W.listOf (li.push (.int net tr3)) (n + 1))) B XB TB hroom hun hh
      (fCm ⟨e2.1, fNm _⟩) (fCm ⟨own e2, fNm _⟩) (fun h₀ h₁ h₂ k x => x)
      (fun A' s' outer' R' Bs hd hu hn' kk ow hRR => emit_net_more Bs XB TB hd hu hn' (gear_mono G kk ow ⟨_, vD.1⟩ eM end_ enc) (kk.get hrow) (ow _ _ hrow orow) (kk.get vD.1) (tD.kept kk) hq (kk.get e2.1) hsz (ow _ _ e2.1 (own e2)) ⟨nrow, off hwf, off hwf2, off hwD⟩ fun h' tk' k1 e => hRR h' tk' k1 e) ?_
    intro h' tk' k5 e5
    have k5 : Kept [il] s.heap h' := k5
    refine hR h' tk' xs ⟨⟨[il], k5, fCm ⟨.inr ⟨e4, _, hpx, rfl⟩, fNm _⟩, fCm ⟨nil, fNm _⟩, fCm ⟨⟨_, e5⟩, fNm _⟩, fCm ⟨⟨e2.2.2, e2.2.1⟩, fNm _⟩⟩, ⟨⟨od, vD.but k5 (nm1 (off hwD)), tab_but tD k5 (fCm ⟨nil, fNm _⟩)⟩, fun x hx => ?_, T.nd⟩, by rw [if_pos hk], fun x hx => .inl ⟨x, hx, rfl⟩⟩
    by_cases hxk : x.1 = [(r : Int), (bit : Int)]
    · have hxe : x.2 = (pa, .ref il) := by
        have := atKey_mem hx tD.nodup
        rw [hxk, hq] at this
        exact (Option.some.inj this).symm
      refine ⟨il, _, _, by rw [hxe], ⟨e5, e2.2⟩, ?_, e4⟩
      unfold upd
      rw [if_pos hxk, Array.toList_push]
      exact ints_snoc e3
    · obtain ⟨la, lj, n', f1, f2, f3, f4⟩ := T.ls x hx
      refine ⟨la, lj, n', f1, f2.but k5 (nm1 fun q => ?_), ?_, f4⟩
      · have : x = ([(r : Int), (bit : Int)], pa, .ref il) := by
          have hv : x.2.2 = Value.ref il := by rw [f1, q]
          exact nodup_map_inj T.nd hx hpx hv
        exact hxk (by rw [this])
      · unfold upd
        rw [if_neg hxk]
        exact f3
theorem putAt_key {k : List Int} {v : Value} (x : List Int × Addr × Value) : (putAt k v x).1 = x.1 := by unfold putAt; split <;> rfl
theorem storedH_keys {xs : TX} {k : List Int} {a : Addr} {v : Value} : (storedH xs k a v).map (·.1) = if k ∈ xs.map (·.1) then xs.map (·.1) else xs.map (·.1) ++ [k] := by
  cases q : atKey xs k with
  | some p =>
    rw [storedH_old q, if_pos (atKey_isSome.mp ⟨p, q⟩), List.map_map]
    exact List.map_congr_left fun x _ => putAt_key x
  | none =>
    rw [storedH_new q, if_neg (fun h => by obtain ⟨p, e⟩ := atKey_isSome.mpr h; rw [q] at e; cases e), List.map_append]; rfl
theorem storedH_mem {xs : TX} {k : List Int} {a : Addr} {v : Value} : ∀ y ∈ storedH xs k a v, (∃ x ∈ xs, y.2.2 = x.2.2 ∧ y.1 = x.1 ∧ x.1 ≠ k) ∨ (y.1 = k ∧ y.2.2 = v) := by
  intro y hy
  cases q : atKey xs k with
  | some p =>
    rw [storedH_old q] at hy
    obtain ⟨x, hx, rfl⟩ := List.mem_map.mp hy
    unfold putAt
    by_cases e : x.1 = k
    · rw [if_pos e]; exact .inr ⟨e, rfl⟩
    · rw [if_neg e]; exact .inl ⟨x, hx, rfl, rfl, e⟩
  | none =>
    rw [storedH_new q] at hy
    rcases List.mem_append.mp hy with hy | hy
    · exact .inl ⟨y, hy, rfl, rfl, fun e => atKey_none q y hy e⟩
    · rw [List.mem_singleton.mp hy]; exact .inr ⟨rfl, rfl⟩
theorem storedH_nodup {k : List Int} {a : Addr} {v : Value} {xs : TX} (hk : (xs.map (·.1)).Nodup) (n : (xs.map (·.2.2)).Nodup) (hv : ∀ x ∈ xs, x.2.2 ≠ v) : ((storedH xs k a v).map (·.2.2)).Nodup := by
  have old : ∀ l : TX, (l.map (·.1)).Nodup → (l.map (·.2.2)).Nodup → (∀ x ∈ l, x.2.2 ≠ v) → ((l.map (putAt k v)).map (·.2.2)).Nodup ∧ (k ∉ l.map (·.1) → (l.map (putAt k v)).map (·.2.2) = l.map (·.2.2)) := by
    intro l
    induction l with
    | nil => exact fun _ _ _ => ⟨List.nodup_nil, fun _ => rfl⟩
    | cons x l ih =>
      intro h1 h2 h3
      have h1 : x.1 ∉ l.map (·.1) ∧ (l.map (·.1)).Nodup := List.nodup_cons.mp h1
      have h2 : x.2.2 ∉ l.map (·.2.2) ∧ (l.map (·.2.2)).Nodup := List.nodup_cons.mp h2
      obtain ⟨i1, i2⟩ := ih h1.2 h2.2 fun y hy => h3 y (.tail _ hy)
      by_cases e : x.1 = k
      · have hkl : k ∉ l.map (·.1) := e ▸ h1.1
        refine ⟨?_, fun h => absurd (e ▸ List.mem_cons_self ..) h⟩
        rw [List.map_cons, List.map_cons, i2 hkl]
        refine List.nodup_cons.mpr ⟨?_, h2.2⟩
        unfold putAt
        rw [if_pos e]
        intro hm
        obtain ⟨y, hy, ey⟩ := List.mem_map.mp hm
        exact h3 y (.tail _ hy) ey
      · have px : putAt k v x = x := by unfold putAt; rw [if_neg e]
        refine ⟨?_, fun h => ?_⟩
        · rw [List.map_cons, List.map_cons, px]
          refine List.nodup_cons.mpr ⟨fun hm => ?_, i1⟩
          obtain ⟨y, hy, ey⟩ := List.mem_map.mp hm
          obtain ⟨z, hz, rfl⟩ := List.mem_map.mp hy
          have ey : (putAt k v z).2.2 = x.2.2 := ey
          unfold putAt at ey
          by_cases ez : z.1 = k
          · rw [if_pos ez] at ey; exact h3 x (.head _) ey.symm
          · rw [if_neg ez] at ey; exact h2.1 (ey ▸ List.mem_map_of_mem hz)
        · have hkl : k ∉ l.map (·.1) := fun m => h (.tail _ m)
          rw [List.map_cons, List.map_cons, px, i2 hkl]; rfl
  cases q : atKey xs k with
  | some p => rw [storedH_old q]; exact (old xs hk n hv).1
  | none =>
    rw [storedH_new q, List.map_append, List.nodup_append]
    refine ⟨n, by simp, fun x hx y hy e => ?_⟩
    obtain ⟨z, hz, rfl⟩ := List.mem_map.mp hx
    have hy : y = v := by simpa using hy
    exact hv z hz (e.trans hy)
theorem tab_set {w : World} {A : Around} {E : Value → Shared → Prop} {s : Shared} {gg hb : Heap} {L dv kt lv : Addr} {m : Str → Option Value} {ys : TX} {nets nets' : List Int → List Int} {key : List Int} {li : Array Value} {n : Nat} {Q : Unit → Shared → Prop} (F : Fr gg L s.heap m) (hu : A.units + 1 < cLine)
    (V : Tab w gg L hb s.heap dv ys nets) (hkt : (TK w).is s.heap key kt) (vlv : NA gg L s.heap lv (PySem.W.listOf li n)) (hli : PyProof.Rows.IntsAre li.toList (nets' key)) (hlb : hb.get? lv = none) (hdv : ∃ o, hb.get? dv = some o) (hnew : ∀ y ∈ ys, y.2.2 ≠ .ref lv) (hag : ∀ k, k ≠ key → nets' k = nets k) (hlen : ys.length ≤ 100)
    (hQ : ∀ h' tk' ys', Kept [dv] s.heap h' → Tab w gg L hb h' dv ys' nets' → ys'.map (·.1) = (if key ∈ ys.map (·.1) then ys.map (·.1) else ys.map (·.1) ++ [key]) → (∀ y ∈ ys', (∃ y0 ∈ ys, y.2.2 = y0.2.2) ∨ y.2.2 = .ref lv) → Fr gg L h' m → Q () { s with heap := h', toks := tk' }) :
    wpAny (model PySem.Challenge.rw_sj0046_01.row.prog w) A (setItem (.ref dv) (.ref kt) (.ref lv)) Q E s := by
  obtain ⟨ov, vV, tV⟩ := V.at_
  refine wpAny_setItem_heap (tupleKind_room_in1 hu) hkt (tV.dictOfH (fun _ _ e => e) vV.1) (fun h' hm hs => ?_) (by rw [sizeLine_eq]; lia)
  have k : Kept [dv] s.heap h' := fun b o e n => (hs.2 b (fun q => n (List.mem_singleton.mpr q))).trans e
  have off : ∀ {b : Addr}, hb.get? b = none → b ≠ dv := fun q e => by obtain ⟨o, eo⟩ := hdv; rw [← e, q] at eo; cases eo
  obtain ⟨od', e', t'⟩ := TabObj.of hm
  have dL : dv ≠ L := vV.2.1
  refine hQ h' _ _ k ⟨⟨od', ⟨e', vV.2⟩, t'⟩, fun y hy => ?_, storedH_nodup tV.nodup V.nd hnew⟩ storedH_keys (fun y hy => ?_) (led_kept k F (fCm ⟨⟨vV.2.2, dL⟩, fNm _⟩))
  · rcases storedH_mem y hy with ⟨x, hx, e1, e2, e3⟩ | ⟨e1, e2⟩
    · obtain ⟨la, lj, n', f1, f2, f3, f4⟩ := V.ls x hx
      exact ⟨la, lj, n', e1.trans f1, f2.but k (nm1 (off f4)), by rw [e2, hag _ e3]; exact f3, f4⟩
    · exact ⟨lv, li, n, e2, vlv.but k (nm1 (off hlb)), by rw [e1]; exact hli, hlb⟩
  · rcases storedH_mem y hy with ⟨x, hx, e1, _, _⟩ | ⟨_, e2⟩
    · exact .inl ⟨x, hx, e1⟩
    · exact .inr e2
theorem fresh5 {g h5 h6 : Heap} {L a : Addr} {rest : List (Addr × Obj)} (K : Kept [L] h5 h6) (H : Hid (Rest g L h6 [] rest)) (hL : a ≠ L) (hg : g.get? a = none) (l : AllLt a rest) : h5.get? a = none := by
  cases q : h5.get? a with
  | none => rfl
  | some o => exact absurd (allLt_mem l _ (H.get.1 a o (K _ _ q (nm1 hL)) hL hg List.not_mem_nil)) (Nat.lt_irrefl _)
theorem keys_len {xs xs' : TX} {key : List Int} (h : xs'.map (·.1) = if key ∈ xs.map (·.1) then xs.map (·.1) else xs.map (·.1) ++ [key]) : xs'.length ≤ xs.length + 1 := by
  have := congrArg List.length h
  rw [List.length_map] at this
  split at this
  · rw [List.length_map] at this; lia
  · rw [List.length_append, List.length_map] at this; simp at this; lia
theorem keys_mem {xs xs' : TX} {key k : List Int} (h : xs'.map (·.1) = if key ∈ xs.map (·.1) then xs.map (·.1) else xs.map (·.1) ++ [key]) : k ∈ xs'.map (·.1) ↔ k ∈ xs.map (·.1) ∨ k = key := by
  rw [h]
  split
  · rename_i hk
    exact ⟨.inl, fun q => q.elim id fun e => e ▸ hk⟩
  · simp
section
variable {w : World} {base gg hb h4 h5 h7 h8 : Heap} {outer : List Env} {L I dv tv cv stl lv : Addr} {a : Adr} {sits : Array Value} {fs : List Addr} {xs xs5 ys ys8 : TX} {nets nets' : List Int → List Int} {names : List Str} {cells : List Cell} {N r bit : Nat} {m5 m7 : Str → Option Value}
theorem ci_grown (C0 : CC w base outer gg L hb I a dv tv cv stl sits fs) (C : CI w gg L hb h4 I a dv tv cv fs xs ys nets names cells N) (Gr : Grown w gg L hb h4 h5 a.D xs xs5 nets' [(r : Int), (bit : Int)]) :
    KF hb (W0 L a dv tv cv) h4 h5 ∧ Tab w gg L hb h5 dv ys nets ∧ Five w gg L h5 a tv cv names cells ∧ (∀ b o, hb.get? b = some o → ∃ o', h5.get? b = some o') := by
  obtain ⟨S, k, s, nt, ex, ow⟩ := Gr.ex
  have off : ∀ {b : Addr}, (∃ o, hb.get? b = some o) → b ≠ a.D → b ∉ S := fun ⟨o, e⟩ n m => (s _ m).elim n fun q => (by rw [e] at q; cases q.1)
  refine ⟨k.kf fun x m => (s x m).elim (fun e => .inl (e ▸ .tail _ (.head _))) fun e => .inr e.1, C.V.but k (off (C0.at (i := 5) rfl) (C0.ne (i := 5) (j := 1) rfl rfl (by decide))) (fun x m y hy e => (s x m).elim (fun q => C.V.off (C0.at (i := 1) rfl) y hy (q ▸ e)) fun q => (by obtain ⟨_, z, hz, ez⟩ := q; exact C.dj z hz y hy (ez.trans e.symm))) nt, C.five.but k ⟨?_, ?_, ?_, ?_, ?_⟩ nt, live_kept C.live k ex⟩
  · exact off (C0.at (i := 2) rfl) (C0.ne (i := 2) (j := 1) rfl rfl (by decide))
  · exact off (C0.at (i := 6) rfl) (C0.ne (i := 6) (j := 1) rfl rfl (by decide))
  · exact off (C0.at (i := 3) rfl) (C0.ne (i := 3) (j := 1) rfl rfl (by decide))
  · exact off (C0.at (i := 4) rfl) (C0.ne (i := 4) (j := 1) rfl rfl (by decide))
  · exact off (C0.at (i := 7) rfl) (C0.ne (i := 7) (j := 1) rfl rfl (by decide))
theorem ci_net (C0 : CC w base outer gg L hb I a dv tv cv stl sits fs) (C : CI w gg L hb h4 I a dv tv cv fs xs ys nets names cells N) (Gr : Grown w gg L hb h4 h5 a.D xs xs5 nets' [(r : Int), (bit : Int)])
    (F5 : Fr gg L h5 m5) (F7 : Fr gg L h7 m7) (k57 : Kept [L] h5 h7) (k8 : Kept [dv] h7 h8) (V8 : Tab w gg L hb h8 dv ys8 nets')
    (ks8 : ys8.map (·.1) = if [(r : Int), (bit : Int)] ∈ ys.map (·.1) then ys.map (·.1) else ys.map (·.1) ++ [[(r : Int), (bit : Int)]]) (vs8 : ∀ y ∈ ys8, (∃ y0 ∈ ys, y.2.2 = y0.2.2) ∨ y.2.2 = .ref lv) (n5 : h5.get? lv = none)
    (hr : r < 5) (hbit : bit < widthAt r) (hag : ∀ k, k ≠ [(r : Int), (bit : Int)] → nets' k = nets k) (hnl : ∀ k, (nets' k).length ≤ N + 1) :
    CI w gg L hb h8 I a dv tv cv fs xs5 ys8 nets' names cells (N + 1) ∧ KF hb (W0 L a dv tv cv) h4 h8 := by
  obtain ⟨kf5, V5, five5, live5⟩ := ci_grown C0 C Gr
  have kf7 : KF hb (W0 L a dv tv cv) h5 h7 := k57.kf (fCm ⟨.inl (.head _), fNm _⟩)
  have kf8 : KF hb (W0 L a dv tv cv) h7 h8 := k8.kf (fCm ⟨.inl (.tail _ (.tail _ (.tail _ (.tail _ (.tail _ (.head _)))))), fNm _⟩)
  have kf := (kf5.trans kf7).trans kf8
  have D7 := Gr.tab.kept F5 k57
  have V7 := V5.kept F5 k57
  have five7 := five5.kept F5 k57
  obtain ⟨ov, vV, tV⟩ := V7.at_
  have ntv : ∀ s ∈ [dv], NonTup h7 s := fCm ⟨.dict vV.1 tV.exact_, fNm _⟩
  have D8 := D7.but k8 (nm1 (C0.ne (i := 1) (j := 5) rfl rfl (by decide))) (fCm ⟨D7.off (C0.at (i := 5) rfl), fNm _⟩) ntv
  have five8 := five7.but k8 ⟨nm1 (C0.ne (i := 2) (j := 5) rfl rfl (by decide)), nm1 (C0.ne (i := 6) (j := 5) rfl rfl (by decide)), nm1 (C0.ne (i := 3) (j := 5) rfl rfl (by decide)), nm1 (C0.ne (i := 4) (j := 5) rfl rfl (by decide)), nm1 (C0.ne (i := 7) (j := 5) rfl rfl (by decide))⟩ ntv
  have live7 := live_kept live5 k57 (fCm ⟨let ⟨o, _, _, e, _⟩ := F7.ns; ⟨o, e⟩, fNm _⟩)
  have live8 := live_kept live7 k8 (fCm ⟨let ⟨_, e, _⟩ := V8.at_; ⟨_, e.1⟩, fNm _⟩)
  refine ⟨⟨fun b o e nf n => kf b o (C.kb b o e nf n) (fun m => n (.tail _ m)) ⟨o, e⟩, live8, D8, V8, fun x hx y hy e => ?_, ?_, fun x hx => ?_, five8, C.ok, ⟨?_, Nat.le_succ_of_le C.sz.2.1, Nat.le_succ_of_le C.sz.2.2.1, hnl⟩, fun k hk => ?_, C.fw, fun b hf o e => let ⟨sl, e'⟩ := C.fu b hf o e; ⟨sl, kf b _ e' (C.fw b hf) ⟨o, e⟩⟩⟩, kf⟩
  · obtain ⟨la, li, n, e1, e2, _⟩ := Gr.tab.ls x hx
    rcases vs8 y hy with ⟨y0, hy0, e0⟩ | e0
    · rcases Gr.vals x hx with ⟨x0, hx0, ex0⟩ | ⟨ln, ex0, nn⟩
      · exact C.dj x0 hx0 y0 hy0 (by rw [← ex0, e, e0])
      · obtain ⟨lb, lj, n', f1, f2, _⟩ := C.V.ls y0 hy0
        have q : Value.ref ln = .ref lb := by rw [← ex0, e, e0, f1]
        injection q with q
        have f2 := f2.1
        rw [← q, nn] at f2; cases f2
    · have q : Value.ref la = .ref lv := by rw [← e1, e, e0]
      injection q with q
      have e2 := e2.1
      rw [q, n5] at e2; cases e2
  · rw [Gr.keys, ks8, C.ks]
  · have : x.1 ∈ xs5.map (·.1) := List.mem_map_of_mem hx
    rcases (keys_mem Gr.keys).mp this with q | q
    · obtain ⟨z, hz, ez⟩ := List.mem_map.mp q
      rw [← ez]; exact C.kn z hz
    · exact ⟨r, bit, q, hr, hbit⟩
  · exact Nat.le_trans (keys_len Gr.keys) (Nat.succ_le_succ C.sz.1)
  · have hk' : ¬ (k ∈ xs.map (·.1) ∨ k = [(r : Int), (bit : Int)]) := fun q => hk ((keys_mem Gr.keys).mpr q)
    rw [hag k fun q => hk' (.inr q)]
    exact C.ab k fun q => hk' (.inl q)
end
theorem hb_none {hb h : Heap} {b : Addr} (live : ∀ b o, hb.get? b = some o → ∃ o', h.get? b = some o') (n : h.get? b = none) : hb.get? b = none := by
  cases q : hb.get? b with
  | none => rfl
  | some o => obtain ⟨o', e⟩ := live _ _ q; rw [n] at e; cases e
theorem Tab.offn {w : World} {g : Heap} {L : Addr} {hb h : Heap} {A s : Addr} {xs : TX} {nets : List Int → List Int} (T : Tab w g L hb h A xs nets) (n : h.get? s = none) : ∀ x ∈ xs, x.2.2 ≠ .ref s := fun x hx q => by
  obtain ⟨la, li, k, e1, e2, _⟩ := T.ls x hx
  rw [e1] at q
  injection q with q
  have e2 := e2.1
  rw [q, n] at e2; cases e2
noncomputable def Ups (h h' : Heap) : Prop := ∀ b o, h.get? b = some o → ∃ sl, h'.get? b = some { o with slots := sl }
theorem TupAt.ups {h h' : Heap} {a : Addr} {its : Array Value} (x : TupAt h a its) (u : Ups h h') : TupAt h' a its := by
  obtain ⟨o, n, e, c, d⟩ := x
  obtain ⟨sl, e'⟩ := u _ _ e
  exact ⟨_, n, e', c, d⟩
theorem tab_ups {w : World} {h h' : Heap} {od : Obj} {xs : TX} (T : TabObj w h od xs) (u : Ups h h') : TabObj w h' od xs :=
  ⟨T.exact_, T.data, fun x hx => by
    obtain ⟨o, its, n, e, c, d, r⟩ := T.keys x hx
    obtain ⟨sl, e'⟩ := u _ _ e
    exact ⟨_, its, n, e', c, d, r⟩, T.nodup⟩
theorem CellAt.ups {h h' : Heap} {v : Value} {c : Cell} (x : CellAt h v c) (u : Ups h h') : CellAt h' v c := by
  obtain ⟨a, pa, ma, pits, t1, t2, e, x1, x2, x3, x4⟩ := x
  refine ⟨a, pa, ma, pits, t1, t2, e, x1.ups u, x2.ups u, x3, ?_⟩
  cases hc : c.inv with
  | some y => rw [hc] at x4; obtain ⟨a, b, d, x4⟩ := x4; exact ⟨a, b, d, x4.ups u⟩
  | none => rw [hc] at x4; obtain ⟨a, b, x4⟩ := x4; exact ⟨a, b, x4.ups u⟩
theorem CellsAt.ups {h h' : Heap} (u : Ups h h') : ∀ {vs : List Value} {cs : List Cell}, CellsAt h vs cs → CellsAt h' vs cs
  | _, _, .nil => .nil
  | _, _, .cons x r => .cons (x.ups u) (r.ups u)
section
variable {w : World} {A : Around} {base gg hb h4 h5 : Heap} {outer : List Env} {mean : ExcName → Option Value} {mg mb : Str → Option Value} {L I dv tv cv stl : Addr} {a : Adr} {sits : Array Value} {xs ys : TX} {nets : List Int → List Int} {names : List Str} {cells : List Cell} {N : Nat} {m : Str → Option Value}
theorem ground_turn (XB : (Mine.hd.heap_39 w.params).In base) (TB : Top Mine.hd.view_39 (looseW Mine.hd.view_39 [Str.ofString "GateloomError"]) mean mg mb base) (Gd : Ground w A base outer mean mg mb gg) (F : Fr gg L h4 m)
    (k1 : ∀ b o, h4.get? b = some o → b ∉ (caseEnv L :: outer).filterMap (·.frame) → h5.get? b = some o) (k2 : ∀ b o, h4.get? b = some o → b ∈ (caseEnv L :: outer).filterMap (·.frame) → ∃ sl, h5.get? b = some { o with slots := sl })
    (C0 : CC w base outer gg L hb I a dv tv cv stl sits (outer.filterMap (·.frame))) (C : CI w gg L hb h4 I a dv tv cv (outer.filterMap (·.frame)) xs ys nets names cells N) :
    ∃ gg', Ground w A base outer mean mg mb gg' ∧ (∀ b, gg.get? b = none → gg'.get? b = none) ∧ Fr gg' L h5 m ∧ CC w base outer gg' L hb I a dv tv cv stl sits (outer.filterMap (·.frame)) ∧ CI w gg' L hb h5 I a dv tv cv (outer.filterMap (·.frame)) xs ys nets names cells N ∧ (∀ b o, NA gg L h4 b o → NA gg' L h5 b o) ∧ KF hb (outer.filterMap (·.frame) ++ W0 L a dv tv cv) h4 h5 ∧ Ups h4 h5 := by
  have u : Ups h4 h5 := fun b o e => by
    by_cases q : b ∈ (caseEnv L :: outer).filterMap (·.frame)
    · exact k2 b o e q
    · exact ⟨o.slots, k1 b o e q⟩
  obtain ⟨gg', T', F', K'⟩ := kts_ground (B := hideAll h4 ((caseEnv L :: outer).filterMap (·.frame))) Gd.B F (fun b o e n => hideAll_get _ e n) (fun b o e => k1 b o (of_hideAll _ e) (mem_hide e)) fun b o e _ => u b o e
  have noF : ∀ b, gg.get? b = none → b ≠ L → b ∉ (caseEnv L :: outer).filterMap (·.frame) := fun b hg hL hm => by
    obtain ⟨env, hen, hfe⟩ := List.mem_filterMap.mp hm
    rcases List.mem_cons.mp hen with rfl | hen
    · exact hL (Option.some.inj hfe).symm
    · obtain ⟨L₁, o₁, hf₁, ho₁⟩ := funFrames_in Gd.B.frames env hen
      rw [hf₁] at hfe
      cases hfe
      rw [hg] at ho₁; cases ho₁
  have na : ∀ b o, NA gg L h4 b o → NA gg' L h5 b o := fun b o x => ⟨k1 b o x.1 (noF b x.2.2 x.2.1), x.2.1, T'.none_ b x.2.2⟩
  have tab : ∀ {A' : Addr} {zs : TX}, Tab w gg L hb h4 A' zs nets → Tab w gg' L hb h5 A' zs nets := fun t => ⟨let ⟨od, e, x⟩ := t.at_; ⟨od, na _ _ e, tab_ups x u⟩, fun x hx => let ⟨la, li, n, e1, e2, e3⟩ := t.ls x hx; ⟨la, li, n, e1, na _ _ e2, e3⟩, t.nd⟩
  refine ⟨gg', ⟨K', XB.keeps K'.stays, TB.keeps K'.stays⟩, T'.none_, F', ⟨C0.gear, fun h hk => ?_, fun x hx => ⟨(C0.own x hx).1, T'.none_ _ (C0.own x hx).2⟩, C0.nd, C0.ex, C0.lo, C0.nI, C0.hwr, C0.hwd, T'.none_ _ C0.nL⟩, ⟨fun b o e nf n => k1 b o (C.kb b o e nf n) fun hm => ?_, fun b o e => ?_, tab C.D, tab C.V, C.dj, C.ks, C.kn, ⟨?_, ?_, ?_, ?_, ?_⟩, C.ok, C.sz, C.ab, C.fw, fun b hf o e => let ⟨sl, e'⟩ := C.fu b hf o e; let ⟨sl2, e2⟩ := u _ _ e'; ⟨sl2, e2⟩⟩, na, fun b o e n q => k1 b o e fun hm => ?_, u⟩
  · obtain ⟨n, x, r⟩ := C0.starts h hk
    exact ⟨n, ⟨x.1, x.2.1, T'.none_ _ x.2.2⟩, r⟩
  · obtain ⟨env, hen, hfe⟩ := List.mem_filterMap.mp hm
    rcases List.mem_cons.mp hen with rfl | hen
    · have : b = L := (Option.some.inj hfe).symm
      exact n (this ▸ .tail _ (.head _))
    · exact nf (List.mem_filterMap.mpr ⟨env, hen, hfe⟩)
  · obtain ⟨o', e'⟩ := C.live b o e
    obtain ⟨sl, e2⟩ := u _ _ e'
    exact ⟨_, e2⟩
  · obtain ⟨om, kvs, e, r⟩ := C.five.M; exact ⟨om, kvs, na _ _ e, r⟩
  · obtain ⟨its, n, e, r⟩ := C.five.T; exact ⟨its, n, na _ _ e, r⟩
  · obtain ⟨tc, e⟩ := C.five.nd; exact ⟨tc, na _ _ e⟩
  · obtain ⟨cs, n, e, r⟩ := C.five.nc; exact ⟨cs, n, na _ _ e, r.ups u⟩
  · obtain ⟨cs, n, e, r⟩ := C.five.cv; exact ⟨cs, n, na _ _ e, r.ups u⟩
  · obtain ⟨env, hen, hfe⟩ := List.mem_filterMap.mp hm
    rcases List.mem_cons.mp hen with rfl | hen
    · have : b = L := (Option.some.inj hfe).symm
      exact n (List.mem_append_right _ (this ▸ .head _))
    · exact n (List.mem_append_left _ (List.mem_filterMap.mpr ⟨env, hen, hfe⟩))
end
theorem CI.succ {w : World} {gg : Heap} {L : Addr} {hb h : Heap} {I : Addr} {a : Adr} {dv tv cv : Addr} {fs : List Addr} {xs ys : TX} {nets : List Int → List Int} {names : List Str} {cells : List Cell} {N : Nat} (C : CI w gg L hb h I a dv tv cv fs xs ys nets names cells N) : CI w gg L hb h I a dv tv cv fs xs ys nets names cells (N + 1) :=
  ⟨C.kb, C.live, C.D, C.V, C.dj, C.ks, C.kn, C.five, C.ok, ⟨Nat.le_succ_of_le C.sz.1, Nat.le_succ_of_le C.sz.2.1, Nat.le_succ_of_le C.sz.2.2.1, fun k => Nat.le_succ_of_le (C.sz.2.2.2 k)⟩, C.ab, C.fw, C.fu⟩
theorem KF.mono {hb : Heap} {W W' : List Addr} {h h' : Heap} (x : KF hb W h h') (m : ∀ a ∈ W, a ∈ W') : KF hb W' h h' := fun b o e n q => x b o e (fun z => n (m b z)) q
theorem keptL_kf {hb h h' : Heap} {L : Addr} {a : Adr} {dv tv cv : Addr} {fs : List Addr} (k : Kept [L] h h') : KF hb (fs ++ W0 L a dv tv cv) h h' := k.kf (fCm ⟨.inl (List.mem_append_right _ (.head _)), fNm _⟩)
theorem same_key {xs ys : TX} {k : List Int} (h : xs.map (·.1) = ys.map (·.1)) : (∃ p, atKey ys k = some p) → ∃ p, atKey xs k = some p := fun e => atKey_isSome.mpr (h ▸ atKey_isSome.mp e)
theorem same_key_none {xs ys : TX} {k : List Int} (h : xs.map (·.1) = ys.map (·.1)) (e : atKey ys k = none) : atKey xs k = none := by
  cases q : atKey xs k with
  | none => rfl
  | some p => obtain ⟨p', e'⟩ := same_key (xs := ys) (ys := xs) h.symm ⟨p, q⟩; rw [e] at e'; cases e'
noncomputable def strHit (x : Str) : Value → Bool
  | .str y _ => y == x
  | _ => false
theorem any_hit (x : Str) : ∀ {vs : List Value} {ss : List Str}, StrsAre vs ss → vs.any (strHit x) = decide (x ∈ ss)
  | _, _, .nil => by simp
  | _, _, .cons y t r => by
    rw [List.any_cons, any_hit x r]
    by_cases e : y = x
    · subst e; simp [strHit]
    · have : ¬ x = y := fun q => e q.symm
      simp [strHit, e, this]
theorem in_names {prog : Program} {w : World} {A : Around} {E : Value → Shared → Prop} {s : Shared} {Q : Value → Shared → Prop} {tv : Addr} {its : Array Value} {n : Nat} {names : List Str} {x : Str} {t : Tok} (e : s.heap.get? tv = some (PySem.W.listOf its n)) (hS : StrsAre its.toList names) (h : Q (.bool (decide (x ∈ names))) s) :
    wpAny (model prog w) A (compareOp .In (.str x t) (.ref tv)) Q E s := by
  refine SeqAt.in_listAt (strHit x) (listAt e) (fun y hy => ?_) ?_
  · have hm : y ∈ its.toList := Array.mem_toList_iff.mpr hy
    obtain ⟨z, u, rfl⟩ := hS.all y hm
    exact SeqAt.EqAt.str_str z u x t
  · rw [← Array.any_toList, any_hit x hS]
    exact h
theorem valueAt_some {kvs : List (Str × Value)} {x : Str} : (valueAt kvs x).isSome = decide (x ∈ kvs.map (·.1)) := by
  unfold valueAt
  induction kvs with
  | nil => rfl
  | cons p r ih =>
    rw [List.find?_cons]
    by_cases e : p.1 = x
    · rw [decide_eq_true e]; simp [e]
    · have e' : ¬ x = p.1 := fun q => e q.symm
      rw [decide_eq_false e]
      simp only [ih, List.map_cons, List.mem_cons, e', false_or]
theorem stored_new {kvs : List (Str × Value)} {x : Str} {v : Value} (h : x ∉ kvs.map (·.1)) : (stored kvs x v).map (·.1) = kvs.map (·.1) ++ [x] := by
  unfold stored
  rw [if_neg, List.map_append]; rfl
  intro hc
  obtain ⟨p, hp, e⟩ := List.any_eq_true.mp hc
  exact h (by rw [← of_decide_eq_true e]; exact List.mem_map_of_mem hp)
theorem item_tupA {prog : Program} {w : World} {A : Around} {E : Value → Shared → Prop} {s : Shared} {value slice : PySem.Expr} {t : Addr} {l : Array Value} {k : Int} {u : Tok} {x : Value} {Q : Value → Shared → Prop} (ht : IsTup s.heap t l) (h0 : 0 ≤ k) (h1 : k < 100) (hx : l[k.toNat]? = some x) (h : Q x s)
    (hs : subscripted slice false (.ref t) (.int k u) = operate [.ref t, .int k u] (getItem (.ref t) (.int k u)) := by with_unfolding_all rfl) : wpAny (model prog w) A (subscriptTail value slice (.ref t) (.int k u)) Q E s := by
  have hn : k.toNat < l.size := by
    rcases Nat.lt_or_ge k.toNat l.size with q | q
    · exact q
    · rw [Array.getElem?_eq_none q] at hx; cases hx
  refine item_tupleT (l := l.toList) (j := k.toNat) ht (by lia) (by lia) ?_ (by rw [Array.getElem?_toList]; exact hx) h hs
  rw [Array.length_toList]
  exact seqIndex_of h0 (by lia)
local macro_rules | `(tactic| walk_at "sT") => `(tactic| (k_here; (with_reducible show wpAny _ _ (subscriptTail _ _ (Value.ref _) (Value.int _ _)) _ _ _); k_dflt (refine' item_tupA ?t ?a ?b ?d ?_; (case t => exact News.isTup (by k_asm) (by k_mem)); (case a | b => decide); (case d => with_reducible assumption); k_whole)))
section
local macro_rules | `(tactic| walk_at "subscriptTail") => `(tactic| walk_at "sT")
set_option maxHeartbeats 4000000 in
theorem emit_sev_any {w : World} {A : Around} {s : Shared} {base : Heap} {outer : List Env} {mean : ExcName → Option Value} {mg mb : Str → Option Value} {R : Result → Shared → Prop}
    {a : Adr} {row : Addr} {rn : Nat} {r bit : Nat} {kd : Str} {rits : Array Value} {tr0 tr1 tr2 : Tok} {od : Obj} {xs : TX} {p : Addr × Value}
    (B : Below A base outer s.heap) (XB : (Mine.hd.heap_39 w.params).In base) (TB : Top Mine.hd.view_39 (looseW Mine.hd.view_39 [Str.ofString "GateloomError"]) mean mg mb base) (hroom : A.depth < 650) (hun : A.units < 800) (hh : A.handled = none)
    (G : Gear w base outer s.heap a) (hrow : s.heap.get? row = some { cls := .type "tuple", data := .seq rits rn }) (hkd : (kd == Str.ofString "net") = false) (hi0 : rits[(0 : Int).toNat]? = some (.str kd tr0)) (hi1 : rits[(1 : Int).toNat]? = some (.int r tr1)) (hi2 : rits[(2 : Int).toNat]? = some (.int bit tr2)) (orow : Own base outer row)
    (hD : s.heap.get? a.D = some od) (hT : TabObj w s.heap od xs) (hr : r < 4) (hno : atKey xs [(r : Int), (bit : Int)] = some p)
    (hR : ∀ h' tk' e dx es, EsOf w.params (Str.ofString "several_drivers") (Str.ofString (pathAt r)) (20 + r) es → Thrown s.heap h' outer e dx 52 es 3 → R (.error (.ref e)) { s with heap := h', toks := tk' }) :
    codeAny (model PySem.Challenge.rw_sj0046_01.row.prog w) A (.call (.ref 110) ⟨[.ref a.wr, .ref a.nl, .ref a.ds, .ref row], []⟩) R s := by
  refine hold fun gP kont => ?_
  obtain ⟨h, g, d, tt, os⟩ := s
  obtain ⟨wr, wd, D, I, M, nl, nd, nc, ds, dd, sl, tw, tn, td, vw, vn, vd, its, sn, st⟩ := a
  obtain ⟨gwr, gwd, gnl, gds, gdd, gsl, gsig, gini, owr, owd, onl, ods, odd, oD, oM, ond, onc, n_wr_wd, n_wr_nl, n_wr_D, n_wr_M, n_wr_nd, n_wr_nc, n_wd_nl, n_wd_D, n_wd_M, n_wd_nd, n_wd_nc, n_nl_D, n_nl_M, n_nl_nd, n_nl_nc, n_D_M, n_D_nd, n_D_nc, n_M_nd, n_M_nc, n_nd_nc, n_I_M, n_dd_D, n_dd_M, n_dd_nd, ⟨sD, sM, sI⟩⟩ := G
  try dsimp only at *
  have X₁ : (Mine.hd.heap_39 w.params).In h := XB.keeps B.stays
  have hu1 : ∀ env, (A.deeper env).units + 1 < cLine := hu_of hun (Nat.le_of_ble_eq_true rfl)
  obtain ⟨sg, sd, ts, us, hsx, hsg, hsd0, osg, osd⟩ := gsig r (Nat.lt_succ_of_lt hr)
  obtain ⟨kd1, wi1, sg1, ms1, ls1, fi1, la1, hsde⟩ := sdAt_is r (Nat.lt_succ_of_lt hr) w.params ts us
  refine kont ?_
  clear kont gP
  have hsd : h.get? sd = some (sdOf w.params ts us r (pathAt r) kd1 wi1 sg1 ms1 ls1 fi1 la1 (20 + r)) := hsd0.trans (congrArg some hsde)
  have hq1 : ∀ q ∈ [((row, { cls := .type "tuple", data := .seq rits rn }) : Addr × Obj), ((D, od) : Addr × Obj), ((wr, instObj 85 wd) : Addr × Obj), ((wd, wdOf w.params tw vw D I M) : Addr × Obj), ((ds, instObj 239 dd) : Addr × Obj), ((dd, ddOf w.params td vd sl) : Addr × Obj)], h.get? q.1 = some q.2 := fCm ⟨hrow, fCm ⟨hD, fCm ⟨gwr, fCm ⟨gwd, fCm ⟨gds, fCm ⟨gdd, fNm _⟩⟩⟩⟩⟩⟩
  refine' enter (binds := [(Str.ofString "wires", .ref wr), (Str.ofString "netlist", .ref nl), (Str.ofString "design", .ref ds), (Str.ofString "row", .ref row)]) [(row, { cls := .type "tuple", data := .seq rits rn }), (D, od), (wr, instObj 85 wd), (wd, wdOf w.params tw vw D I M), (ds, instObj 239 dd), (dd, ddOf w.params td vd sl)] B XB TB ?q1 ?q2 ?q3 ?k6 ?k7 ?k8 ?k9 ?kB ?_ ?c2 ?c3 ?c4 ?c5
  case k8 => exact Nat.lt_of_lt_of_le hroom (by decide)
  tb_start
  case q1 => exact hq1
  case q2 => exact fCm ⟨orow.1, fCm ⟨oD.1, fCm ⟨owr.1, fCm ⟨owd.1, fCm ⟨ods.1, fCm ⟨odd.1, fNm _⟩⟩⟩⟩⟩⟩
  case q3 => exact fun env hm => fCm ⟨orow.2 env hm, fCm ⟨oD.2 env hm, fCm ⟨owr.2 env hm, fCm ⟨owd.2 env hm, fCm ⟨ods.2 env hm, fCm ⟨odd.2 env hm, fNm _⟩⟩⟩⟩⟩⟩
  intro gg L h₁ hg1 hg2 hL F N B' X' T'
  try dsimp only
  k_steps
  try dsimp only
  rename Fr _ _ _ _ => F1
  rename News _ _ _ _ => N1
  have kk1 := kept_all hg1 F1.keep N1 hq1 fun q hq => .tail _ hq
  have hl1 := listAt (kk1.get gsl)
  walk_at "q0"
  refine' sub_any ?ht slot_list_getitem.lookup (wpAny_getItem_list ?hl (Int.natCast_nonneg _) (by first | exact i63 (by with_reducible assumption) (Nat.le_of_ble_eq_true rfl) | exact i63 (Nat.lt_of_lt_of_le (by with_reducible assumption) (widthAt_le _)) (Nat.le_of_ble_eq_true rfl) | lia) (idx_nat hsx) ?_) (by with_unfolding_all rfl)
  case ht => exact hl1.typeIs
  case hl => exact hl1
  try dsimp only
  k_steps
  try dsimp only
  rename Fr _ _ _ _ => F2
  rename News _ _ _ _ => N2
  have kk2 := kept_all hg1 F2.keep N2 hq1 fun q hq => .tail _ (.tail _ hq)
  have hk2 := key_is (w := w) (N2 _ (.head _)).1
  have hd2 := (hT.kept kk2).dictOfH (fun _ _ e => e) (kk2.get hD)
  walk_at "q0"
  refine' wpAny_in_heap (tupleKind_room_in1 (hu1 _)) hk2 sD hd2 ?_
  rw [hno, show (some p).isSome = true from rfl]
  try dsimp only
  k_steps
  refine hold fun gP kont => ?_
  obtain ⟨cnm, cq, cN, cbs, cbm, chdct, csn, csub, cab, ccol, cdd, c0, c1, c2, c3, c5, cnew, hC, hbase, hbT⟩ := kts_cls X' (show ktsIn (Mine.hd.heap_39 w.params) 52 "BaseException" = true by kts_isx)
  refine kont ?_
  clear kont gP
  refine' x_Raise (C := 52) (nm := cnm) (q := cq) (N := cN) (bs := cbs) (bm := cbm) (hdct := chdct) (sn := csn) (sub := csub) (ab := cab) (col := ccol) (dd := cdd) (k0 := c0) (k1 := c1) (k2 := c2) (k3 := c3) (k5 := c5) (newId := cnew) hbT hh ?_
  k_steps
  walk_at "q0"
  refine' wpAny_call (several_spec (B'.push F2) XB TB ?z1 (kk2.get hsg) ?z3 ⟨osg.1, osd.1⟩ ?z2 ?_)
  case z1 => exact roomD hroom (by decide)
  case z3 => exact kk2.get hsd
  case z2 => exact fun env he => ⟨(osg.frame (by rw [hL]; exact Nat.ne_of_lt (Heap.lt_size hsg))).2 env he, (osd.frame (by rw [hL]; exact Nat.ne_of_lt (Heap.lt_size hsd))).2 env he⟩
  intro h5 tk5 e dx es Md
  obtain ⟨tp, hob⟩ := Md.obj
  refine ⟨e, some dx, _, _, rfl, Md.keep.get (F2.keep _ _ hC), hob, rfl, ?_⟩
  refine' x_thrown (G := h) (kk2.trans Md.keep) (F2.kept fun b o q => Md.keep.get q) B' hg2 hob rfl Md.dict Md.ne (fr_ne F2 Md.newD) ?y1 (kk2.none_ Md.newE) (kk2.none_ Md.newD) ?_
  case y1 => exact Heap.get?_none_of_le (Nat.le_of_eq hL.symm)
  exact fun h6 T => hR h6 _ e dx es Md.es_ T
theorem emit_sev_flop {w : World} {A : Around} {s : Shared} {base : Heap} {outer : List Env} {mean : ExcName → Option Value} {mg mb : Str → Option Value} {R : Result → Shared → Prop}
    {a : Adr} {row pins : Addr} {rn : Nat} {r bit : Nat} {inv : Int} {tr0 tr1 tr2 tr3 : Tok} {od : Obj} {xs : TX} {p : Addr × Value}
    (B : Below A base outer s.heap) (XB : (Mine.hd.heap_39 w.params).In base) (TB : Top Mine.hd.view_39 (looseW Mine.hd.view_39 [Str.ofString "GateloomError"]) mean mg mb base) (hroom : A.depth < 650) (hun : A.units < 800) (hh : A.handled = none)
    (G : Gear w base outer s.heap a) (hrow : s.heap.get? row = some { cls := .type "tuple", data := .seq #[.str (Str.ofString "flop") tr0, .int r tr1, .int bit tr2, .ref pins, .int inv tr3] rn }) (orow : Own base outer row)
    (hD : s.heap.get? a.D = some od) (hT : TabObj w s.heap od xs) (hr : r < 4) (hno : atKey xs [(r : Int), (bit : Int)] = some p)
    (hR : ∀ h' tk' e dx es, EsOf w.params (Str.ofString "several_drivers") (Str.ofString (pathAt r)) (20 + r) es → Thrown s.heap h' outer e dx 52 es 3 → R (.error (.ref e)) { s with heap := h', toks := tk' }) :
    codeAny (model PySem.Challenge.rw_sj0046_01.row.prog w) A (.call (.ref 110) ⟨[.ref a.wr, .ref a.nl, .ref a.ds, .ref row], []⟩) R s := emit_sev_any B XB TB hroom hun hh G hrow rfl rfl rfl rfl orow hD hT hr hno hR
theorem emit_sev_latch {w : World} {A : Around} {s : Shared} {base : Heap} {outer : List Env} {mean : ExcName → Option Value} {mg mb : Str → Option Value} {R : Result → Shared → Prop}
    {a : Adr} {row pins : Addr} {rn : Nat} {r bit : Nat} {tr0 tr1 tr2 : Tok} {od : Obj} {xs : TX} {p : Addr × Value}
    (B : Below A base outer s.heap) (XB : (Mine.hd.heap_39 w.params).In base) (TB : Top Mine.hd.view_39 (looseW Mine.hd.view_39 [Str.ofString "GateloomError"]) mean mg mb base) (hroom : A.depth < 650) (hun : A.units < 800) (hh : A.handled = none)
    (G : Gear w base outer s.heap a) (hrow : s.heap.get? row = some { cls := .type "tuple", data := .seq #[.str (Str.ofString "latch") tr0, .int r tr1, .int bit tr2, .ref pins] rn }) (orow : Own base outer row)
    (hD : s.heap.get? a.D = some od) (hT : TabObj w s.heap od xs) (hr : r < 4) (hno : atKey xs [(r : Int), (bit : Int)] = some p)
    (hR : ∀ h' tk' e dx es, EsOf w.params (Str.ofString "several_drivers") (Str.ofString (pathAt r)) (20 + r) es → Thrown s.heap h' outer e dx 52 es 3 → R (.error (.ref e)) { s with heap := h', toks := tk' }) :
    codeAny (model PySem.Challenge.rw_sj0046_01.row.prog w) A (.call (.ref 110) ⟨[.ref a.wr, .ref a.nl, .ref a.ds, .ref row], []⟩) R s := emit_sev_any B XB TB hroom hun hh G hrow rfl rfl rfl rfl orow hD hT hr hno hR
end
section
noncomputable def prIts (iv : Option Int) (tr3 : Tok) (nm : String) (ini : Int) (t3 t4 : Tok) : Array Value := match iv with
  | some i => #[.int i tr3, .str (Str.ofString nm) t3, .int ini t4]
  | none => #[.str (Str.ofString nm) t3, .int ini t4]
local macro_rules | `(tactic| walk_at "subscriptTail") => `(tactic| walk_at "sT")
set_option maxHeartbeats 8000000 in
theorem emit_ok_kind {w : World} {A : Around} {s : Shared} {base : Heap} {outer : List Env} {mean : ExcName → Option Value} {mg mb : Str → Option Value} {R : Result → Shared → Prop}
    {a : Adr} {row pins : Addr} {rn : Nat} {r bit : Nat} {kd : String} {iv : Option Int} {rits : Array Value} {inv : Int} {tr0 tr1 tr2 tr3 : Tok} {od : Obj} {xs : TX} {om : Obj} {kvs : List (Str × Value)} {c : Int} {tc : Tok} {cs pis : Array Value} {cn pn : Nat}
    (B : Below A base outer s.heap) (XB : (Mine.hd.heap_39 w.params).In base) (TB : Top Mine.hd.view_39 (looseW Mine.hd.view_39 [Str.ofString "GateloomError"]) mean mg mb base) (hroom : A.depth < 650) (hun : A.units < 800) (hh : A.handled = none)
    (hk : (iv = some inv ∧ kd = "flop" ∧ rits = #[.str (Str.ofString "flop") tr0, .int r tr1, .int bit tr2, .ref pins, .int inv tr3]) ∨ (iv = none ∧ kd = "latch" ∧ rits = #[.str (Str.ofString "latch") tr0, .int r tr1, .int bit tr2, .ref pins]))
    (G : Gear w base outer s.heap a) (hrow : s.heap.get? row = some { cls := .type "tuple", data := .seq rits rn }) (orow : Own base outer row)
    (hD : s.heap.get? a.D = some od) (hT : TabObj w s.heap od xs) (hr : r < 4) (hbit : bit < widthAt r) (hno : atKey xs [(r : Int), (bit : Int)] = none)
    (hM : s.heap.get? a.M = some om) (hN : DObj (SK w) om kvs) (hin : (valueAt kvs (Str.ofString (nameAt r bit))).isSome = false)
    (hnd : s.heap.get? a.nd = some (ndOf w.params a.tn a.vn c tc a.nc)) (hnc : s.heap.get? a.nc = some (PySem.W.listOf cs cn)) (hpi : s.heap.get? pins = some { cls := .type "tuple", data := .seq pis pn }) (opi : Own base outer pins)
    (hxl : xs.length ≤ sizeLine) (hkl : kvs.length ≤ sizeLine) (hcl : cs.size ≤ sizeLine)
    (hR : ∀ h' tk' pl ln ct pr om' od' tc' t1 t2 t3 t4 t5, Kept [a.M, a.nd, a.nc, a.D] s.heap h' → s.heap.get? pl = none → s.heap.get? ln = none → s.heap.get? ct = none → s.heap.get? pr = none →
      h'.get? a.M = some om' → DObj (SK w) om' (stored kvs (Str.ofString (nameAt r bit)) (.bool true)) → h'.get? a.nd = some (ndOf w.params a.tn a.vn (c + 1) tc' a.nc) → h'.get? a.nc = some (PySem.W.listOf (cs.push (.ref ct)) (cn + 1)) →
      h'.get? ct = some { cls := .type "tuple", data := .seq #[.str (Str.ofString kd) t1, .int c t2, .ref pins, .ref pr] } → h'.get? pr = some { cls := .type "tuple", data := .seq (prIts iv tr3 (nameAt r bit) ((a.st r).getD bit 0) t3 t4) } →
      h'.get? a.D = some od' → TabObj w h' od' (xs ++ [([(r : Int), (bit : Int)], pl, .ref ln)]) → h'.get? ln = some (PySem.W.listOf #[.int c t5] 1) → R (.ok (.ret .none)) { s with heap := h', toks := tk' }) :
    codeAny (model PySem.Challenge.rw_sj0046_01.row.prog w) A (.call (.ref 110) ⟨[.ref a.wr, .ref a.nl, .ref a.ds, .ref row], []⟩) R s := by
  have hi0 : rits[(0 : Int).toNat]? = some (.str (Str.ofString kd) tr0) := by rcases hk with ⟨_, rfl, rfl⟩ | ⟨_, rfl, rfl⟩ <;> rfl
  have hi1 : rits[(1 : Int).toNat]? = some (.int r tr1) := by rcases hk with ⟨_, _, rfl⟩ | ⟨_, _, rfl⟩ <;> rfl
  have hi2 : rits[(2 : Int).toNat]? = some (.int bit tr2) := by rcases hk with ⟨_, _, rfl⟩ | ⟨_, _, rfl⟩ <;> rfl
  have hkn : (Str.ofString kd == Str.ofString "net") = false := by rcases hk with ⟨_, rfl, _⟩ | ⟨_, rfl, _⟩ <;> decide
  refine hold fun gP kont => ?_
  obtain ⟨h, g, d, tt, os⟩ := s
  obtain ⟨wr, wd, D, I, M, nl, nd, nc, ds, dd, sl, tw, tn, td, vw, vn, vd, its, sn, st⟩ := a
  obtain ⟨gwr, gwd, gnl, gds, gdd, gsl, gsig, gini, owr, owd, onl, ods, odd, oD, oM, ond, onc, n_wr_wd, n_wr_nl, n_wr_D, n_wr_M, n_wr_nd, n_wr_nc, n_wd_nl, n_wd_D, n_wd_M, n_wd_nd, n_wd_nc, n_nl_D, n_nl_M, n_nl_nd, n_nl_nc, n_D_M, n_D_nd, n_D_nc, n_M_nd, n_M_nc, n_nd_nc, n_I_M, n_dd_D, n_dd_M, n_dd_nd, ⟨sD, sM, sI⟩⟩ := G
  try dsimp only at *
  have X₁ : (Mine.hd.heap_39 w.params).In h := XB.keeps B.stays
  have hu1 : ∀ env, (A.deeper env).units + 1 < cLine := hu_of hun (Nat.le_of_ble_eq_true rfl)
  obtain ⟨sg, sd, ts, us, hsx, hsg, hsd0, osg, osd⟩ := gsig r (Nat.lt_succ_of_lt hr)
  obtain ⟨kd1, wi1, sg1, ms1, ls1, fi1, la1, hsde⟩ := sdAt_is r (Nat.lt_succ_of_lt hr) w.params ts us
  refine kont ?_
  clear kont gP
  have hsd : h.get? sd = some (sdOf w.params ts us r (pathAt r) kd1 wi1 sg1 ms1 ls1 fi1 la1 (20 + r)) := hsd0.trans (congrArg some hsde)
  have hq1 : ∀ q ∈ [((row, { cls := .type "tuple", data := .seq rits rn }) : Addr × Obj), ((M, om) : Addr × Obj), ((D, od) : Addr × Obj), ((nd, ndOf w.params tn vn c tc nc) : Addr × Obj), ((nc, PySem.W.listOf cs cn) : Addr × Obj), ((nl, instObj 316 nd) : Addr × Obj), ((wr, instObj 85 wd) : Addr × Obj), ((wd, wdOf w.params tw vw D I M) : Addr × Obj), ((ds, instObj 239 dd) : Addr × Obj), ((dd, ddOf w.params td vd sl) : Addr × Obj)], h.get? q.1 = some q.2 := fCm ⟨hrow, fCm ⟨hM, fCm ⟨hD, fCm ⟨hnd, fCm ⟨hnc, fCm ⟨gnl, fCm ⟨gwr, fCm ⟨gwd, fCm ⟨gds, fCm ⟨gdd, fNm _⟩⟩⟩⟩⟩⟩⟩⟩⟩⟩
  refine' enter (binds := [(Str.ofString "wires", .ref wr), (Str.ofString "netlist", .ref nl), (Str.ofString "design", .ref ds), (Str.ofString "row", .ref row)]) [(row, { cls := .type "tuple", data := .seq rits rn }), (M, om), (D, od), (nd, ndOf w.params tn vn c tc nc), (nc, PySem.W.listOf cs cn), (nl, instObj 316 nd), (wr, instObj 85 wd), (wd, wdOf w.params tw vw D I M), (ds, instObj 239 dd), (dd, ddOf w.params td vd sl)] B XB TB ?q1 ?q2 ?q3 ?k6 ?k7 ?k8 ?k9 ?kB ?_ ?c2 ?c3 ?c4 ?c5
  case k8 => exact Nat.lt_of_lt_of_le hroom (by decide)
  tb_start
  case q1 => exact hq1
  case q2 => exact fCm ⟨orow.1, fCm ⟨oM.1, fCm ⟨oD.1, fCm ⟨ond.1, fCm ⟨onc.1, fCm ⟨onl.1, fCm ⟨owr.1, fCm ⟨owd.1, fCm ⟨ods.1, fCm ⟨odd.1, fNm _⟩⟩⟩⟩⟩⟩⟩⟩⟩⟩
  case q3 => exact fun env hm => fCm ⟨orow.2 env hm, fCm ⟨oM.2 env hm, fCm ⟨oD.2 env hm, fCm ⟨ond.2 env hm, fCm ⟨onc.2 env hm, fCm ⟨onl.2 env hm, fCm ⟨owr.2 env hm, fCm ⟨owd.2 env hm, fCm ⟨ods.2 env hm, fCm ⟨odd.2 env hm, fNm _⟩⟩⟩⟩⟩⟩⟩⟩⟩⟩
  intro gg L h₁ hg1 hg2 hL F N B' X' T'
  refine hold fun gP kont => ?_
  obtain ⟨oi, ivs, hI, hIo, hini⟩ := gini
  obtain ⟨il, ins, inn, hiv, hil, hii, hilen⟩ := hini r (Nat.lt_succ_of_lt hr)
  obtain ⟨ti, hib⟩ := ints_at hii (show bit < (st r).length by rw [hilen]; exact hbit)
  refine kont ?_
  clear kont gP
  have rM : row ≠ M := ne_tup hrow hM rfl (fun e => by obtain ⟨_, _, q, _⟩ := hN; exact no_tup_dict (q.1.symm.trans e))
  have rD : row ≠ D := ne_tup hrow hD rfl (fun e => no_tup_dict (hT.exact_.1.symm.trans e))
  have rnd : row ≠ nd := ne_tup hrow hnd rfl no_tup_dict
  have rnc : row ≠ nc := ne_tup hrow hnc rfl no_tup_list
  have pM : pins ≠ M := ne_tup hpi hM rfl (fun e => by obtain ⟨_, _, q, _⟩ := hN; exact no_tup_dict (q.1.symm.trans e))
  have pnd : pins ≠ nd := ne_tup hpi hnd rfl no_tup_dict
  have pnc : pins ≠ nc := ne_tup hpi hnc rfl no_tup_list
  have pnl : pins ≠ nl := ne_tup hpi gnl rfl no_tup_ref
  have dsM : ds ≠ M := ne_cls gds hM (fun e => by obtain ⟨_, _, q, _⟩ := hN; exact no_ref_dict (e.trans q.1))
  have dsnd : ds ≠ nd := ne_cls gds hnd no_ref_dict
  have dsnc : ds ≠ nc := ne_cls gds hnc no_ref_list
  have ddnc : dd ≠ nc := ne_cls gdd hnc no_dict_list
  have dsD : ds ≠ D := ne_cls gds hD (fun e => no_ref_dict (e.trans hT.exact_.1))
  have iM : il ≠ M := ne_list hil hM rfl (fun e => by obtain ⟨_, _, q, _⟩ := hN; exact no_list_dict (q.1.symm.trans e))
  try dsimp only
  k_steps
  try dsimp only
  rename Fr _ _ _ _ => F1
  rename News _ _ _ _ => N1
  have kk1 := kept_all hg1 F1.keep N1 hq1 fun q hq => .tail _ hq
  have hl1 := listAt (kk1.get gsl)
  walk_at "q0"
  refine' sub_any ?ht slot_list_getitem.lookup (wpAny_getItem_list ?hl (Int.natCast_nonneg _) (by first | exact i63 (by with_reducible assumption) (Nat.le_of_ble_eq_true rfl) | exact i63 (Nat.lt_of_lt_of_le (by with_reducible assumption) (widthAt_le _)) (Nat.le_of_ble_eq_true rfl) | lia) (idx_nat hsx) ?_) (by with_unfolding_all rfl)
  case ht => exact hl1.typeIs
  case hl => exact hl1
  try dsimp only
  k_steps
  try dsimp only
  rename Fr _ _ _ _ => F2
  rename News _ _ _ _ => N2
  have kk2 := kept_all hg1 F2.keep N2 hq1 fun q hq => .tail _ (.tail _ hq)
  have hk2 := key_is (w := w) (N2 _ (.head _)).1
  have hd2 := (hT.kept kk2).dictOfH (fun _ _ e => e) (kk2.get hD)
  walk_at "q0"
  refine' wpAny_in_heap (tupleKind_room_in1 (hu1 _)) hk2 sD hd2 ?_
  rw [hno, show (none : Option (Addr × Value)).isSome = false from rfl]
  try dsimp only
  k_steps
  walk_at "q0"
  refine' wpAny_call (sname_spec (B'.push F2) XB TB ?z1 hr (kk2.get hsg) ?z3 ?z4 ?z5 hbit ?_)
  case z1 => exact roomD hroom (by decide)
  case z3 => exact kk2.get hsd0
  case z4 => exact osg.frame (by rw [hL]; exact Nat.ne_of_lt (Heap.lt_size hsg))
  case z5 => exact osd.frame (by rw [hL]; exact Nat.ne_of_lt (Heap.lt_size hsd))
  intro h3 tk3 tr3' kk3
  have F3 := F2.kept fun b o q => kk3.get q
  have N3 := led_grow N2 fun b o q => kk3.get q
  have kk3' := kk2.trans kk3
  clear F2 N2
  try dsimp only
  k_steps
  try dsimp only
  rename Fr _ _ _ _ => F4
  rename News _ _ _ _ => N4
  have kk4 := kept_all hg1 F4.keep N4 hq1 fun q hq => .tail _ (.tail _ hq)
  walk_at "q0"
  refine' wpAny_in_of (knd := SK w) (k := Str.ofString (nameAt r bit)) ?i1 sM (hN.at (kk4.get hM)).mapOf ?_
  case i1 => exact strKind_is _ _ _ _
  rw [hin]
  try dsimp only
  k_steps
  try dsimp only
  rename Fr _ _ _ _ => F5
  rename News _ _ _ _ => N5
  have kk5 := kept_all hg1 F5.keep N5 hq1 fun q hq => .tail _ (.tail _ hq)
  walk_at "q0"
  refine' wpAny_setItem_pairs (knd := SK w) (k := Str.ofString (nameAt r bit)) ?i1 (hN.at (kk5.get hM)) ?_ hkl
  case i1 => exact strKind_is _ _ _ _
  intro h6 hm6 hs6
  refine hold fun gP kont => ?_
  obtain ⟨om6, hM6, hN6⟩ := DObj.of hm6
  obtain ⟨F6, N6⟩ := led_set F5 N5 (.tail (by k_ne) (.tail (by k_ne) (.tail rM (.head (fCm ⟨n_D_M, fCm ⟨n_M_nd.symm, fCm ⟨n_M_nc.symm, fCm ⟨n_nl_M, fCm ⟨n_wr_M, fCm ⟨n_wd_M, fCm ⟨dsM, fCm ⟨n_dd_M, fNm _⟩⟩⟩⟩⟩⟩⟩⟩))))) hs6 hM6
  refine kont ?_
  clear kont gP
  have kk6 := kept_but (S := [M]) hg1 F6.keep N6 hq1 (fCm ⟨.inr (.tail _ (.tail _ (.head _))), fCm ⟨.inl (.head _), fCm ⟨.inr (.tail _ (.tail _ (.tail _ (.tail _ (.head _))))), fCm ⟨.inr (.tail _ (.tail _ (.tail _ (.tail _ (.tail _ (.head _)))))), fCm ⟨.inr (.tail _ (.tail _ (.tail _ (.tail _ (.tail _ (.tail _ (.head _))))))), fCm ⟨.inr (.tail _ (.tail _ (.tail _ (.tail _ (.tail _ (.tail _ (.tail _ (.head _)))))))), fCm ⟨.inr (.tail _ (.tail _ (.tail _ (.tail _ (.tail _ (.tail _ (.tail _ (.tail _ (.head _))))))))), fCm ⟨.inr (.tail _ (.tail _ (.tail _ (.tail _ (.tail _ (.tail _ (.tail _ (.tail _ (.tail _ (.head _)))))))))), fCm ⟨.inr (.tail _ (.tail _ (.tail _ (.tail _ (.tail _ (.tail _ (.tail _ (.tail _ (.tail _ (.tail _ (.head _))))))))))), fCm ⟨.inr (.tail _ (.tail _ (.tail _ (.tail _ (.tail _ (.tail _ (.tail _ (.tail _ (.tail _ (.tail _ (.tail _ (.head _)))))))))))), fNm _⟩⟩⟩⟩⟩⟩⟩⟩⟩⟩)
  clear F5 N5
  try dsimp only
  k_steps
  try dsimp only
  have hIm := (hIo.at (kk6 _ _ hI (fun q => n_I_M (List.mem_singleton.mp q)))).mapOf
  walk_at "q0"
  refine' sub_any ?ht slot_dict_getitem.lookup (wpAny_getItem_of (knd := IK w) (intKind_is _ _ _ _) ?hm hiv ?_) (by with_unfolding_all rfl)
  case ht => exact hIm.typeIs
  case hm => exact hIm
  try dsimp only
  k_steps
  try dsimp only
  have hl6 := listAt (kk6 _ _ hil (fun q => iM (List.mem_singleton.mp q)))
  walk_at "q0"
  refine' sub_any ?ht slot_list_getitem.lookup (wpAny_getItem_list ?hl (Int.natCast_nonneg _) ?hb6 (idx_nat (by rw [← Array.getElem?_toList]; exact hib)) ?_) (by with_unfolding_all rfl)
  case ht => exact hl6.typeIs
  case hl => exact hl6
  case hb6 => (have hw := widthAt_le r; lia)
  rcases hk with ⟨hiv, hkd, hri⟩ | ⟨hiv, hkd, hri⟩
  · subst hiv hkd hri
    try dsimp only
    k_steps
    try dsimp only
    rename Fr _ _ _ _ => F8
    rename News _ _ _ _ => N8
    rename _ < _ ∧ _ < _ ∧ _ < _ ∧ _ < _ ∧ _ < _ ∧ _ < _ ∧ _ < _ ∧ _ < _ ∧ _ < _ ∧ _ < _ ∧ _ < _ ∧ _ < _ => l8
    rename _ < _ ∧ _ < _ ∧ _ < _ ∧ _ < _ ∧ _ < _ ∧ _ < _ ∧ _ < _ ∧ _ < _ ∧ _ < _ ∧ _ < _ ∧ _ < _ => l7
    rename _ < _ ∧ _ < _ ∧ _ < _ ∧ _ < _ ∧ _ < _ ∧ _ < _ ∧ _ < _ ∧ _ < _ ∧ _ < _ ∧ _ < _ => l6
    have kk8 := kept_but (S := [M]) hg1 F8.keep N8 hq1 (fCm ⟨.inr (.tail _ (.tail _ (.tail _ (.head _)))), fCm ⟨.inl (.head _), fCm ⟨.inr (.tail _ (.tail _ (.tail _ (.tail _ (.tail _ (.head _)))))), fCm ⟨.inr (.tail _ (.tail _ (.tail _ (.tail _ (.tail _ (.tail _ (.head _))))))), fCm ⟨.inr (.tail _ (.tail _ (.tail _ (.tail _ (.tail _ (.tail _ (.tail _ (.head _)))))))), fCm ⟨.inr (.tail _ (.tail _ (.tail _ (.tail _ (.tail _ (.tail _ (.tail _ (.tail _ (.head _))))))))), fCm ⟨.inr (.tail _ (.tail _ (.tail _ (.tail _ (.tail _ (.tail _ (.tail _ (.tail _ (.tail _ (.head _)))))))))), fCm ⟨.inr (.tail _ (.tail _ (.tail _ (.tail _ (.tail _ (.tail _ (.tail _ (.tail _ (.tail _ (.tail _ (.head _))))))))))), fCm ⟨.inr (.tail _ (.tail _ (.tail _ (.tail _ (.tail _ (.tail _ (.tail _ (.tail _ (.tail _ (.tail _ (.tail _ (.head _)))))))))))), fCm ⟨.inr (.tail _ (.tail _ (.tail _ (.tail _ (.tail _ (.tail _ (.tail _ (.tail _ (.tail _ (.tail _ (.tail _ (.tail _ (.head _))))))))))))), fNm _⟩⟩⟩⟩⟩⟩⟩⟩⟩⟩)
    have fne : ∀ {x : Addr} {o : Obj}, h.get? x = some o → x ≠ L := fun e => by rw [hL]; exact Nat.ne_of_lt (Heap.lt_size e)
    walk_at "q0"
    refine' wpAny_call (addcell_spec (B'.push F8) XB TB ?z1 (N8 _ (.tail _ (.tail _ (.tail _ (.tail _ (.tail _ (.tail _ (.tail _ (.tail _ (.head _)))))))))).1 (N8 _ (.tail _ (.tail _ (.tail _ (.tail _ (.tail _ (.tail _ (.head _)))))))).1 (N8 _ (.tail _ (.tail _ (.tail _ (.tail _ (.tail _ (.tail _ (.tail _ (.head _))))))))).1 (kk8 _ _ hpi (nm1 pM)) ⟨onl.1, ond.1, onc.1, opi.1⟩ ?z2 ⟨n_nl_nd, n_nl_nc, n_nd_nc, pnl, pnd, pnc⟩ hcl ?_)
    case z1 => exact roomD hroom (by decide)
    case z2 => exact fun env he => ⟨(onl.frame (fne gnl)).2 env he, (ond.frame (fne hnd)).2 env he, (onc.frame (fne hnc)).2 env he, (opi.frame (fne hpi)).2 env he⟩
    intro h9 tk9 ct tc9 t1 t2 t3 hk9 hct9 hnd9 hnc9 hctt
    have F9 := led_kept hk9 F8 (fCm ⟨⟨(N8 _ (.tail _ (.tail _ (.tail _ (.tail _ (.tail _ (.tail _ (.head _)))))))).2.2, (N8 _ (.tail _ (.tail _ (.tail _ (.tail _ (.tail _ (.tail _ (.head _)))))))).2.1⟩, fCm ⟨⟨(N8 _ (.tail _ (.tail _ (.tail _ (.tail _ (.tail _ (.tail _ (.tail _ (.head _))))))))).2.2, (N8 _ (.tail _ (.tail _ (.tail _ (.tail _ (.tail _ (.tail _ (.tail _ (.head _))))))))).2.1⟩, fNm _⟩⟩)
    have N9 := led_add (news := _ :: _ :: _ :: _ :: _ :: _ :: (_, _) :: (_, _) :: _ :: _ :: _ :: _ :: _ :: []) F8 (fCm ⟨nk hk9 (N8 _ (.head _)) (nm2 (ne_tup (N8 _ (.head _)).1 (N8 _ (.tail _ (.tail _ (.tail _ (.tail _ (.tail _ (.tail _ (.head _)))))))).1 rfl no_tup_dict) (ne_tup (N8 _ (.head _)).1 (N8 _ (.tail _ (.tail _ (.tail _ (.tail _ (.tail _ (.tail _ (.tail _ (.head _))))))))).1 rfl no_tup_list)), fCm ⟨nk hk9 (N8 _ (.tail _ (.head _))) (nm2 (ne_tup (N8 _ (.tail _ (.head _))).1 (N8 _ (.tail _ (.tail _ (.tail _ (.tail _ (.tail _ (.tail _ (.head _)))))))).1 rfl no_tup_dict) (ne_tup (N8 _ (.tail _ (.head _))).1 (N8 _ (.tail _ (.tail _ (.tail _ (.tail _ (.tail _ (.tail _ (.tail _ (.head _))))))))).1 rfl no_tup_list)), fCm ⟨nk hk9 (N8 _ (.tail _ (.tail _ (.head _)))) (nm2 (ne_tup (N8 _ (.tail _ (.tail _ (.head _)))).1 (N8 _ (.tail _ (.tail _ (.tail _ (.tail _ (.tail _ (.tail _ (.head _)))))))).1 rfl no_tup_dict) (ne_tup (N8 _ (.tail _ (.tail _ (.head _)))).1 (N8 _ (.tail _ (.tail _ (.tail _ (.tail _ (.tail _ (.tail _ (.tail _ (.head _))))))))).1 rfl no_tup_list)), fCm ⟨nk hk9 (N8 _ (.tail _ (.tail _ (.tail _ (.head _))))) (nm2 rnd rnc), fCm ⟨nk hk9 (N8 _ (.tail _ (.tail _ (.tail _ (.tail _ (.head _)))))) (nm2 n_M_nd n_M_nc), fCm ⟨nk hk9 (N8 _ (.tail _ (.tail _ (.tail _ (.tail _ (.tail _ (.head _))))))) (nm2 n_D_nd n_D_nc), fCm ⟨⟨hnd9, (N8 _ (.tail _ (.tail _ (.tail _ (.tail _ (.tail _ (.tail _ (.head _)))))))).2⟩, fCm ⟨⟨hnc9, (N8 _ (.tail _ (.tail _ (.tail _ (.tail _ (.tail _ (.tail _ (.tail _ (.head _))))))))).2⟩, fCm ⟨nk hk9 (N8 _ (.tail _ (.tail _ (.tail _ (.tail _ (.tail _ (.tail _ (.tail _ (.tail _ (.head _)))))))))) (nm2 n_nl_nd n_nl_nc), fCm ⟨nk hk9 (N8 _ (.tail _ (.tail _ (.tail _ (.tail _ (.tail _ (.tail _ (.tail _ (.tail _ (.tail _ (.head _))))))))))) (nm2 n_wr_nd n_wr_nc), fCm ⟨nk hk9 (N8 _ (.tail _ (.tail _ (.tail _ (.tail _ (.tail _ (.tail _ (.tail _ (.tail _ (.tail _ (.tail _ (.head _)))))))))))) (nm2 n_wd_nd n_wd_nc), fCm ⟨nk hk9 (N8 _ (.tail _ (.tail _ (.tail _ (.tail _ (.tail _ (.tail _ (.tail _ (.tail _ (.tail _ (.tail _ (.tail _ (.head _))))))))))))) (nm2 dsnd dsnc), fCm ⟨nk hk9 (N8 _ (.tail _ (.tail _ (.tail _ (.tail _ (.tail _ (.tail _ (.tail _ (.tail _ (.tail _ (.tail _ (.tail _ (.tail _ (.head _)))))))))))))) (nm2 n_dd_nd ddnc), fNm _⟩⟩⟩⟩⟩⟩⟩⟩⟩⟩⟩⟩⟩) hct9 hctt
    have hct8 := none_back kk8 (fCm ⟨⟨_, (N8 _ (.tail _ (.tail _ (.tail _ (.tail _ (.head _)))))).1⟩, fNm _⟩) hct9
    have ctD : ct ≠ D := ne_none hct9 (N8 _ (.tail _ (.tail _ (.tail _ (.tail _ (.tail _ (.head _))))))).1
    have hpr8 := fresh_end hg1 (N8 _ (.head _)).2.2 (fCm ⟨Nat.ne_of_lt l8.2.2.1, fCm ⟨Nat.ne_of_lt l8.2.2.2.1, fCm ⟨Nat.ne_of_lt l8.2.2.2.2.1, fCm ⟨Nat.ne_of_lt l8.2.2.2.2.2.1, fCm ⟨Nat.ne_of_lt l8.2.2.2.2.2.2.1, fCm ⟨Nat.ne_of_lt l8.2.2.2.2.2.2.2.1, fCm ⟨Nat.ne_of_lt l8.2.2.2.2.2.2.2.2.1, fCm ⟨Nat.ne_of_lt l8.2.2.2.2.2.2.2.2.2.1, fCm ⟨Nat.ne_of_lt l8.2.2.2.2.2.2.2.2.2.2.1, fCm ⟨Nat.ne_of_lt l8.2.2.2.2.2.2.2.2.2.2.2, fNm _⟩⟩⟩⟩⟩⟩⟩⟩⟩⟩)
    try dsimp only
    clear N8 F8
    k_steps
    try dsimp only
    rename Fr _ _ _ _ => F10
    rename News _ _ _ _ => N10
    have kk10 := kept_but (S := [M, nd, nc]) hg1 F10.keep N10 hq1 (fCm ⟨.inr (.tail _ (.tail _ (.tail _ (.tail _ (.head _))))), fCm ⟨.inl (by simp), fCm ⟨.inr (.tail _ (.tail _ (.tail _ (.tail _ (.tail _ (.tail _ (.head _))))))), fCm ⟨.inl (by simp), fCm ⟨.inl (by simp), fCm ⟨.inr (.tail _ (.tail _ (.tail _ (.tail _ (.tail _ (.tail _ (.tail _ (.tail _ (.tail _ (.head _)))))))))), fCm ⟨.inr (.tail _ (.tail _ (.tail _ (.tail _ (.tail _ (.tail _ (.tail _ (.tail _ (.tail _ (.tail _ (.head _))))))))))), fCm ⟨.inr (.tail _ (.tail _ (.tail _ (.tail _ (.tail _ (.tail _ (.tail _ (.tail _ (.tail _ (.tail _ (.tail _ (.head _)))))))))))), fCm ⟨.inr (.tail _ (.tail _ (.tail _ (.tail _ (.tail _ (.tail _ (.tail _ (.tail _ (.tail _ (.tail _ (.tail _ (.tail _ (.head _))))))))))))), fCm ⟨.inr (.tail _ (.tail _ (.tail _ (.tail _ (.tail _ (.tail _ (.tail _ (.tail _ (.tail _ (.tail _ (.tail _ (.tail _ (.tail _ (.head _)))))))))))))), fNm _⟩⟩⟩⟩⟩⟩⟩⟩⟩⟩)
    walk_at "q0"
    refine' wpAny_call (drive_new (B'.push F10) XB TB ?z1 ?z2 (N10 _ (.tail _ (.tail _ (.tail _ (.tail _ (.tail _ (.tail _ (.tail _ (.tail _ (.tail _ (.tail _ (.head _)))))))))))).1 (N10 _ (.tail _ (.tail _ (.tail _ (.tail _ (.tail _ (.tail _ (.tail _ (.tail _ (.tail _ (.tail _ (.tail _ (.head _))))))))))))).1 (N10 _ (.tail _ (.tail _ (.tail _ (.tail _ (.tail _ (.tail _ (.head _)))))))).1 (hT.kept' kk10 ?hS) ⟨owr.1, owd.1, oD.1⟩ ?z4 sD hxl hno ⟨n_wr_D, n_wd_D⟩ ?_)
    case z1 => exact roomD hroom (by decide)
    case z2 => exact roomU hun (by decide)
    case hS => exact fCm ⟨⟨_, hM, fun e => (by obtain ⟨_, _, q, _⟩ := hN; exact no_tup_dict (q.1.symm.trans e))⟩, fCm ⟨⟨_, hnd, no_tup_dict⟩, fCm ⟨⟨_, hnc, no_tup_list⟩, fNm _⟩⟩⟩
    case z4 => exact fun env he => ⟨(owr.frame (fne gwr)).2 env he, (owd.frame (fne gwd)).2 env he, (oD.frame (fne hD)).2 env he⟩
    intro h11 tk11 pl ln od11 hk11 hp11 hl11 hD11 hT11 hln11
    have F11 := led_kept hk11 F10 (fCm ⟨⟨(N10 _ (.tail _ (.tail _ (.tail _ (.tail _ (.tail _ (.tail _ (.head _)))))))).2.2, (N10 _ (.tail _ (.tail _ (.tail _ (.tail _ (.tail _ (.tail _ (.head _)))))))).2.1⟩, fNm _⟩)
    have hS10 : ∀ a ∈ [M, nd, nc], ∃ o, Heap.get? _ a = some o := fCm ⟨⟨_, (N10 _ (.tail _ (.tail _ (.tail _ (.tail _ (.tail _ (.head _))))))).1⟩, fCm ⟨⟨_, (N10 _ (.tail _ (.tail _ (.tail _ (.tail _ (.tail _ (.tail _ (.tail _ (.head _))))))))).1⟩, fCm ⟨⟨_, (N10 _ (.tail _ (.tail _ (.tail _ (.tail _ (.tail _ (.tail _ (.tail _ (.tail _ (.head _)))))))))).1⟩, fNm _⟩⟩⟩
    have hpl := none_back kk10 hS10 hp11
    have hln := none_back kk10 hS10 hl11
    have e1 := hk11 _ _ (N10 _ (.tail _ (.tail _ (.tail _ (.tail _ (.tail _ (.head _))))))).1 (nm1 n_D_M.symm)
    have e2 := hk11 _ _ (N10 _ (.tail _ (.tail _ (.tail _ (.tail _ (.tail _ (.tail _ (.tail _ (.head _))))))))).1 (nm1 n_D_nd.symm)
    have e3 := hk11 _ _ (N10 _ (.tail _ (.tail _ (.tail _ (.tail _ (.tail _ (.tail _ (.tail _ (.tail _ (.head _)))))))))).1 (nm1 n_D_nc.symm)
    have e4 := hk11 _ _ (N10 _ (.head _)).1 (nm1 ctD)
    have e5 := hk11 _ _ (N10 _ (.tail _ (.head _))).1 (nm1 (ne_none hpr8 hD))
    have kk11 : Kept [M, nd, nc, D] h h11 := fun b o q n => hk11 b o (kk10 b o q fun m => n (by simp only [List.mem_cons, List.not_mem_nil, or_false] at m ⊢; rcases m with m | m | m <;> simp [m])) fun m => n (by rw [List.mem_singleton.mp m]; simp)
    clear N10 F10
    try dsimp only
    k_steps
    exact hR h11 _ pl ln ct _ om6 od11 _ _ _ _ _ _ kk11 hpl hln hct8 hpr8 e1 hN6 e2 e3 e4 e5 hD11 hT11 hln11
  · subst hiv hkd hri
    try dsimp only
    k_steps
    try dsimp only
    rename Fr _ _ _ _ => F8
    rename News _ _ _ _ => N8
    rename _ < _ ∧ _ < _ ∧ _ < _ ∧ _ < _ ∧ _ < _ ∧ _ < _ ∧ _ < _ ∧ _ < _ ∧ _ < _ ∧ _ < _ ∧ _ < _ ∧ _ < _ => l8
    rename _ < _ ∧ _ < _ ∧ _ < _ ∧ _ < _ ∧ _ < _ ∧ _ < _ ∧ _ < _ ∧ _ < _ ∧ _ < _ ∧ _ < _ ∧ _ < _ => l7
    rename _ < _ ∧ _ < _ ∧ _ < _ ∧ _ < _ ∧ _ < _ ∧ _ < _ ∧ _ < _ ∧ _ < _ ∧ _ < _ ∧ _ < _ => l6
    have kk8 := kept_but (S := [M]) hg1 F8.keep N8 hq1 (fCm ⟨.inr (.tail _ (.tail _ (.tail _ (.head _)))), fCm ⟨.inl (.head _), fCm ⟨.inr (.tail _ (.tail _ (.tail _ (.tail _ (.tail _ (.head _)))))), fCm ⟨.inr (.tail _ (.tail _ (.tail _ (.tail _ (.tail _ (.tail _ (.head _))))))), fCm ⟨.inr (.tail _ (.tail _ (.tail _ (.tail _ (.tail _ (.tail _ (.tail _ (.head _)))))))), fCm ⟨.inr (.tail _ (.tail _ (.tail _ (.tail _ (.tail _ (.tail _ (.tail _ (.tail _ (.head _))))))))), fCm ⟨.inr (.tail _ (.tail _ (.tail _ (.tail _ (.tail _ (.tail _ (.tail _ (.tail _ (.tail _ (.head _)))))))))), fCm ⟨.inr (.tail _ (.tail _ (.tail _ (.tail _ (.tail _ (.tail _ (.tail _ (.tail _ (.tail _ (.tail _ (.head _))))))))))), fCm ⟨.inr (.tail _ (.tail _ (.tail _ (.tail _ (.tail _ (.tail _ (.tail _ (.tail _ (.tail _ (.tail _ (.tail _ (.head _)))))))))))), fCm ⟨.inr (.tail _ (.tail _ (.tail _ (.tail _ (.tail _ (.tail _ (.tail _ (.tail _ (.tail _ (.tail _ (.tail _ (.tail _ (.head _))))))))))))), fNm _⟩⟩⟩⟩⟩⟩⟩⟩⟩⟩)
    have fne : ∀ {x : Addr} {o : Obj}, h.get? x = some o → x ≠ L := fun e => by rw [hL]; exact Nat.ne_of_lt (Heap.lt_size e)
    walk_at "q0"
    refine' wpAny_call (addcell_spec (B'.push F8) XB TB ?z1 (N8 _ (.tail _ (.tail _ (.tail _ (.tail _ (.tail _ (.tail _ (.tail _ (.tail _ (.head _)))))))))).1 (N8 _ (.tail _ (.tail _ (.tail _ (.tail _ (.tail _ (.tail _ (.head _)))))))).1 (N8 _ (.tail _ (.tail _ (.tail _ (.tail _ (.tail _ (.tail _ (.tail _ (.head _))))))))).1 (kk8 _ _ hpi (nm1 pM)) ⟨onl.1, ond.1, onc.1, opi.1⟩ ?z2 ⟨n_nl_nd, n_nl_nc, n_nd_nc, pnl, pnd, pnc⟩ hcl ?_)
    case z1 => exact roomD hroom (by decide)
    case z2 => exact fun env he => ⟨(onl.frame (fne gnl)).2 env he, (ond.frame (fne hnd)).2 env he, (onc.frame (fne hnc)).2 env he, (opi.frame (fne hpi)).2 env he⟩
    intro h9 tk9 ct tc9 t1 t2 t3 hk9 hct9 hnd9 hnc9 hctt
    have F9 := led_kept hk9 F8 (fCm ⟨⟨(N8 _ (.tail _ (.tail _ (.tail _ (.tail _ (.tail _ (.tail _ (.head _)))))))).2.2, (N8 _ (.tail _ (.tail _ (.tail _ (.tail _ (.tail _ (.tail _ (.head _)))))))).2.1⟩, fCm ⟨⟨(N8 _ (.tail _ (.tail _ (.tail _ (.tail _ (.tail _ (.tail _ (.tail _ (.head _))))))))).2.2, (N8 _ (.tail _ (.tail _ (.tail _ (.tail _ (.tail _ (.tail _ (.tail _ (.head _))))))))).2.1⟩, fNm _⟩⟩)
    have N9 := led_add (news := _ :: _ :: _ :: _ :: _ :: _ :: (_, _) :: (_, _) :: _ :: _ :: _ :: _ :: _ :: []) F8 (fCm ⟨nk hk9 (N8 _ (.head _)) (nm2 (ne_tup (N8 _ (.head _)).1 (N8 _ (.tail _ (.tail _ (.tail _ (.tail _ (.tail _ (.tail _ (.head _)))))))).1 rfl no_tup_dict) (ne_tup (N8 _ (.head _)).1 (N8 _ (.tail _ (.tail _ (.tail _ (.tail _ (.tail _ (.tail _ (.tail _ (.head _))))))))).1 rfl no_tup_list)), fCm ⟨nk hk9 (N8 _ (.tail _ (.head _))) (nm2 (ne_tup (N8 _ (.tail _ (.head _))).1 (N8 _ (.tail _ (.tail _ (.tail _ (.tail _ (.tail _ (.tail _ (.head _)))))))).1 rfl no_tup_dict) (ne_tup (N8 _ (.tail _ (.head _))).1 (N8 _ (.tail _ (.tail _ (.tail _ (.tail _ (.tail _ (.tail _ (.tail _ (.head _))))))))).1 rfl no_tup_list)), fCm ⟨nk hk9 (N8 _ (.tail _ (.tail _ (.head _)))) (nm2 (ne_tup (N8 _ (.tail _ (.tail _ (.head _)))).1 (N8 _ (.tail _ (.tail _ (.tail _ (.tail _ (.tail _ (.tail _ (.head _)))))))).1 rfl no_tup_dict) (ne_tup (N8 _ (.tail _ (.tail _ (.head _)))).1 (N8 _ (.tail _ (.tail _ (.tail _ (.tail _ (.tail _ (.tail _ (.tail _ (.head _))))))))).1 rfl no_tup_list)), fCm ⟨nk hk9 (N8 _ (.tail _ (.tail _ (.tail _ (.head _))))) (nm2 rnd rnc), fCm ⟨nk hk9 (N8 _ (.tail _ (.tail _ (.tail _ (.tail _ (.head _)))))) (nm2 n_M_nd n_M_nc), fCm ⟨nk hk9 (N8 _ (.tail _ (.tail _ (.tail _ (.tail _ (.tail _ (.head _))))))) (nm2 n_D_nd n_D_nc), fCm ⟨⟨hnd9, (N8 _ (.tail _ (.tail _ (.tail _ (.tail _ (.tail _ (.tail _ (.head _)))))))).2⟩, fCm ⟨⟨hnc9, (N8 _ (.tail _ (.tail _ (.tail _ (.tail _ (.tail _ (.tail _ (.tail _ (.head _))))))))).2⟩, fCm ⟨nk hk9 (N8 _ (.tail _ (.tail _ (.tail _ (.tail _ (.tail _ (.tail _ (.tail _ (.tail _ (.head _)))))))))) (nm2 n_nl_nd n_nl_nc), fCm ⟨nk hk9 (N8 _ (.tail _ (.tail _ (.tail _ (.tail _ (.tail _ (.tail _ (.tail _ (.tail _ (.tail _ (.head _))))))))))) (nm2 n_wr_nd n_wr_nc), fCm ⟨nk hk9 (N8 _ (.tail _ (.tail _ (.tail _ (.tail _ (.tail _ (.tail _ (.tail _ (.tail _ (.tail _ (.tail _ (.head _)))))))))))) (nm2 n_wd_nd n_wd_nc), fCm ⟨nk hk9 (N8 _ (.tail _ (.tail _ (.tail _ (.tail _ (.tail _ (.tail _ (.tail _ (.tail _ (.tail _ (.tail _ (.tail _ (.head _))))))))))))) (nm2 dsnd dsnc), fCm ⟨nk hk9 (N8 _ (.tail _ (.tail _ (.tail _ (.tail _ (.tail _ (.tail _ (.tail _ (.tail _ (.tail _ (.tail _ (.tail _ (.tail _ (.head _)))))))))))))) (nm2 n_dd_nd ddnc), fNm _⟩⟩⟩⟩⟩⟩⟩⟩⟩⟩⟩⟩⟩) hct9 hctt
    have hct8 := none_back kk8 (fCm ⟨⟨_, (N8 _ (.tail _ (.tail _ (.tail _ (.tail _ (.head _)))))).1⟩, fNm _⟩) hct9
    have ctD : ct ≠ D := ne_none hct9 (N8 _ (.tail _ (.tail _ (.tail _ (.tail _ (.tail _ (.head _))))))).1
    have hpr8 := fresh_end hg1 (N8 _ (.head _)).2.2 (fCm ⟨Nat.ne_of_lt l8.2.2.1, fCm ⟨Nat.ne_of_lt l8.2.2.2.1, fCm ⟨Nat.ne_of_lt l8.2.2.2.2.1, fCm ⟨Nat.ne_of_lt l8.2.2.2.2.2.1, fCm ⟨Nat.ne_of_lt l8.2.2.2.2.2.2.1, fCm ⟨Nat.ne_of_lt l8.2.2.2.2.2.2.2.1, fCm ⟨Nat.ne_of_lt l8.2.2.2.2.2.2.2.2.1, fCm ⟨Nat.ne_of_lt l8.2.2.2.2.2.2.2.2.2.1, fCm ⟨Nat.ne_of_lt l8.2.2.2.2.2.2.2.2.2.2.1, fCm ⟨Nat.ne_of_lt l8.2.2.2.2.2.2.2.2.2.2.2, fNm _⟩⟩⟩⟩⟩⟩⟩⟩⟩⟩)
    try dsimp only
    clear N8 F8
    k_steps
    try dsimp only
    rename Fr _ _ _ _ => F10
    rename News _ _ _ _ => N10
    have kk10 := kept_but (S := [M, nd, nc]) hg1 F10.keep N10 hq1 (fCm ⟨.inr (.tail _ (.tail _ (.tail _ (.tail _ (.head _))))), fCm ⟨.inl (by simp), fCm ⟨.inr (.tail _ (.tail _ (.tail _ (.tail _ (.tail _ (.tail _ (.head _))))))), fCm ⟨.inl (by simp), fCm ⟨.inl (by simp), fCm ⟨.inr (.tail _ (.tail _ (.tail _ (.tail _ (.tail _ (.tail _ (.tail _ (.tail _ (.tail _ (.head _)))))))))), fCm ⟨.inr (.tail _ (.tail _ (.tail _ (.tail _ (.tail _ (.tail _ (.tail _ (.tail _ (.tail _ (.tail _ (.head _))))))))))), fCm ⟨.inr (.tail _ (.tail _ (.tail _ (.tail _ (.tail _ (.tail _ (.tail _ (.tail _ (.tail _ (.tail _ (.tail _ (.head _)))))))))))), fCm ⟨.inr (.tail _ (.tail _ (.tail _ (.tail _ (.tail _ (.tail _ (.tail _ (.tail _ (.tail _ (.tail _ (.tail _ (.tail _ (.head _))))))))))))), fCm ⟨.inr (.tail _ (.tail _ (.tail _ (.tail _ (.tail _ (.tail _ (.tail _ (.tail _ (.tail _ (.tail _ (.tail _ (.tail _ (.tail _ (.head _)))))))))))))), fNm _⟩⟩⟩⟩⟩⟩⟩⟩⟩⟩)
    walk_at "q0"
    refine' wpAny_call (drive_new (B'.push F10) XB TB ?z1 ?z2 (N10 _ (.tail _ (.tail _ (.tail _ (.tail _ (.tail _ (.tail _ (.tail _ (.tail _ (.tail _ (.tail _ (.head _)))))))))))).1 (N10 _ (.tail _ (.tail _ (.tail _ (.tail _ (.tail _ (.tail _ (.tail _ (.tail _ (.tail _ (.tail _ (.tail _ (.head _))))))))))))).1 (N10 _ (.tail _ (.tail _ (.tail _ (.tail _ (.tail _ (.tail _ (.head _)))))))).1 (hT.kept' kk10 ?hS) ⟨owr.1, owd.1, oD.1⟩ ?z4 sD hxl hno ⟨n_wr_D, n_wd_D⟩ ?_)
    case z1 => exact roomD hroom (by decide)
    case z2 => exact roomU hun (by decide)
    case hS => exact fCm ⟨⟨_, hM, fun e => (by obtain ⟨_, _, q, _⟩ := hN; exact no_tup_dict (q.1.symm.trans e))⟩, fCm ⟨⟨_, hnd, no_tup_dict⟩, fCm ⟨⟨_, hnc, no_tup_list⟩, fNm _⟩⟩⟩
    case z4 => exact fun env he => ⟨(owr.frame (fne gwr)).2 env he, (owd.frame (fne gwd)).2 env he, (oD.frame (fne hD)).2 env he⟩
    intro h11 tk11 pl ln od11 hk11 hp11 hl11 hD11 hT11 hln11
    have F11 := led_kept hk11 F10 (fCm ⟨⟨(N10 _ (.tail _ (.tail _ (.tail _ (.tail _ (.tail _ (.tail _ (.head _)))))))).2.2, (N10 _ (.tail _ (.tail _ (.tail _ (.tail _ (.tail _ (.tail _ (.head _)))))))).2.1⟩, fNm _⟩)
    have hS10 : ∀ a ∈ [M, nd, nc], ∃ o, Heap.get? _ a = some o := fCm ⟨⟨_, (N10 _ (.tail _ (.tail _ (.tail _ (.tail _ (.tail _ (.head _))))))).1⟩, fCm ⟨⟨_, (N10 _ (.tail _ (.tail _ (.tail _ (.tail _ (.tail _ (.tail _ (.tail _ (.head _))))))))).1⟩, fCm ⟨⟨_, (N10 _ (.tail _ (.tail _ (.tail _ (.tail _ (.tail _ (.tail _ (.tail _ (.tail _ (.head _)))))))))).1⟩, fNm _⟩⟩⟩
    have hpl := none_back kk10 hS10 hp11
    have hln := none_back kk10 hS10 hl11
    have e1 := hk11 _ _ (N10 _ (.tail _ (.tail _ (.tail _ (.tail _ (.tail _ (.head _))))))).1 (nm1 n_D_M.symm)
    have e2 := hk11 _ _ (N10 _ (.tail _ (.tail _ (.tail _ (.tail _ (.tail _ (.tail _ (.tail _ (.head _))))))))).1 (nm1 n_D_nd.symm)
    have e3 := hk11 _ _ (N10 _ (.tail _ (.tail _ (.tail _ (.tail _ (.tail _ (.tail _ (.tail _ (.tail _ (.head _)))))))))).1 (nm1 n_D_nc.symm)
    have e4 := hk11 _ _ (N10 _ (.head _)).1 (nm1 ctD)
    have e5 := hk11 _ _ (N10 _ (.tail _ (.head _))).1 (nm1 (ne_none hpr8 hD))
    have kk11 : Kept [M, nd, nc, D] h h11 := fun b o q n => hk11 b o (kk10 b o q fun m => n (by simp only [List.mem_cons, List.not_mem_nil, or_false] at m ⊢; rcases m with m | m | m <;> simp [m])) fun m => n (by rw [List.mem_singleton.mp m]; simp)
    clear N10 F10
    try dsimp only
    k_steps
    exact hR h11 _ pl ln ct _ om6 od11 _ _ _ _ _ _ kk11 hpl hln hct8 hpr8 e1 hN6 e2 e3 e4 e5 hD11 hT11 hln11
theorem emit_ok_flop {w : World} {A : Around} {s : Shared} {base : Heap} {outer : List Env} {mean : ExcName → Option Value} {mg mb : Str → Option Value} {R : Result → Shared → Prop}
    {a : Adr} {row pins : Addr} {rn : Nat} {r bit : Nat} {inv : Int} {tr0 tr1 tr2 tr3 : Tok} {od : Obj} {xs : TX} {om : Obj} {kvs : List (Str × Value)} {c : Int} {tc : Tok} {cs pis : Array Value} {cn pn : Nat}
    (B : Below A base outer s.heap) (XB : (Mine.hd.heap_39 w.params).In base) (TB : Top Mine.hd.view_39 (looseW Mine.hd.view_39 [Str.ofString "GateloomError"]) mean mg mb base) (hroom : A.depth < 650) (hun : A.units < 800) (hh : A.handled = none)
    (G : Gear w base outer s.heap a) (hrow : s.heap.get? row = some { cls := .type "tuple", data := .seq #[.str (Str.ofString "flop") tr0, .int r tr1, .int bit tr2, .ref pins, .int inv tr3] rn }) (orow : Own base outer row)
    (hD : s.heap.get? a.D = some od) (hT : TabObj w s.heap od xs) (hr : r < 4) (hbit : bit < widthAt r) (hno : atKey xs [(r : Int), (bit : Int)] = none)
    (hM : s.heap.get? a.M = some om) (hN : DObj (SK w) om kvs) (hin : (valueAt kvs (Str.ofString (nameAt r bit))).isSome = false)
    (hnd : s.heap.get? a.nd = some (ndOf w.params a.tn a.vn c tc a.nc)) (hnc : s.heap.get? a.nc = some (PySem.W.listOf cs cn)) (hpi : s.heap.get? pins = some { cls := .type "tuple", data := .seq pis pn }) (opi : Own base outer pins)
    (hxl : xs.length ≤ sizeLine) (hkl : kvs.length ≤ sizeLine) (hcl : cs.size ≤ sizeLine)
    (hR : ∀ h' tk' pl ln ct pr om' od' tc' t1 t2 t3 t4 t5, Kept [a.M, a.nd, a.nc, a.D] s.heap h' → s.heap.get? pl = none → s.heap.get? ln = none → s.heap.get? ct = none → s.heap.get? pr = none →
      h'.get? a.M = some om' → DObj (SK w) om' (stored kvs (Str.ofString (nameAt r bit)) (.bool true)) → h'.get? a.nd = some (ndOf w.params a.tn a.vn (c + 1) tc' a.nc) → h'.get? a.nc = some (PySem.W.listOf (cs.push (.ref ct)) (cn + 1)) →
      h'.get? ct = some { cls := .type "tuple", data := .seq #[.str (Str.ofString "flop") t1, .int c t2, .ref pins, .ref pr] } → h'.get? pr = some { cls := .type "tuple", data := .seq #[.int inv tr3, .str (Str.ofString (nameAt r bit)) t3, .int ((a.st r).getD bit 0) t4] } →
      h'.get? a.D = some od' → TabObj w h' od' (xs ++ [([(r : Int), (bit : Int)], pl, .ref ln)]) → h'.get? ln = some (PySem.W.listOf #[.int c t5] 1) → R (.ok (.ret .none)) { s with heap := h', toks := tk' }) :
    codeAny (model PySem.Challenge.rw_sj0046_01.row.prog w) A (.call (.ref 110) ⟨[.ref a.wr, .ref a.nl, .ref a.ds, .ref row], []⟩) R s := emit_ok_kind (inv := inv) (tr3 := tr3) B XB TB hroom hun hh (.inl ⟨rfl, rfl, rfl⟩) G hrow orow hD hT hr hbit hno hM hN hin hnd hnc hpi opi hxl hkl hcl hR
theorem emit_ok_latch {w : World} {A : Around} {s : Shared} {base : Heap} {outer : List Env} {mean : ExcName → Option Value} {mg mb : Str → Option Value} {R : Result → Shared → Prop}
    {a : Adr} {row pins : Addr} {rn : Nat} {r bit : Nat} {tr0 tr1 tr2 : Tok} {od : Obj} {xs : TX} {om : Obj} {kvs : List (Str × Value)} {c : Int} {tc : Tok} {cs pis : Array Value} {cn pn : Nat}
    (B : Below A base outer s.heap) (XB : (Mine.hd.heap_39 w.params).In base) (TB : Top Mine.hd.view_39 (looseW Mine.hd.view_39 [Str.ofString "GateloomError"]) mean mg mb base) (hroom : A.depth < 650) (hun : A.units < 800) (hh : A.handled = none)
    (G : Gear w base outer s.heap a) (hrow : s.heap.get? row = some { cls := .type "tuple", data := .seq #[.str (Str.ofString "latch") tr0, .int r tr1, .int bit tr2, .ref pins] rn }) (orow : Own base outer row)
    (hD : s.heap.get? a.D = some od) (hT : TabObj w s.heap od xs) (hr : r < 4) (hbit : bit < widthAt r) (hno : atKey xs [(r : Int), (bit : Int)] = none)
    (hM : s.heap.get? a.M = some om) (hN : DObj (SK w) om kvs) (hin : (valueAt kvs (Str.ofString (nameAt r bit))).isSome = false)
    (hnd : s.heap.get? a.nd = some (ndOf w.params a.tn a.vn c tc a.nc)) (hnc : s.heap.get? a.nc = some (PySem.W.listOf cs cn)) (hpi : s.heap.get? pins = some { cls := .type "tuple", data := .seq pis pn }) (opi : Own base outer pins)
    (hxl : xs.length ≤ sizeLine) (hkl : kvs.length ≤ sizeLine) (hcl : cs.size ≤ sizeLine)
    (hR : ∀ h' tk' pl ln ct pr om' od' tc' t1 t2 t3 t4 t5, Kept [a.M, a.nd, a.nc, a.D] s.heap h' → s.heap.get? pl = none → s.heap.get? ln = none → s.heap.get? ct = none → s.heap.get? pr = none →
      h'.get? a.M = some om' → DObj (SK w) om' (stored kvs (Str.ofString (nameAt r bit)) (.bool true)) → h'.get? a.nd = some (ndOf w.params a.tn a.vn (c + 1) tc' a.nc) → h'.get? a.nc = some (PySem.W.listOf (cs.push (.ref ct)) (cn + 1)) →
      h'.get? ct = some { cls := .type "tuple", data := .seq #[.str (Str.ofString "latch") t1, .int c t2, .ref pins, .ref pr] } → h'.get? pr = some { cls := .type "tuple", data := .seq #[.str (Str.ofString (nameAt r bit)) t3, .int ((a.st r).getD bit 0) t4] } →
      h'.get? a.D = some od' → TabObj w h' od' (xs ++ [([(r : Int), (bit : Int)], pl, .ref ln)]) → h'.get? ln = some (PySem.W.listOf #[.int c t5] 1) → R (.ok (.ret .none)) { s with heap := h', toks := tk' }) :
    codeAny (model PySem.Challenge.rw_sj0046_01.row.prog w) A (.call (.ref 110) ⟨[.ref a.wr, .ref a.nl, .ref a.ds, .ref row], []⟩) R s := emit_ok_kind (inv := 0) (tr3 := 0) B XB TB hroom hun hh (.inr ⟨rfl, rfl, rfl⟩) G hrow orow hD hT hr hbit hno hM hN hin hnd hnc hpi opi hxl hkl hcl hR
end
structure Celled (w : World) (g : Heap) (L : Addr) (hb h h' : Heap) (a : Adr) (xs xs' : TX) (nets' : List Int → List Int) (key : List Int) (names' : List Str) (cells' : List Cell) : Prop where
  kept : Kept [a.M, a.nd, a.nc, a.D] h h'
  tab : Tab w g L hb h' a.D xs' nets'
  keys : xs'.map (·.1) = xs.map (·.1) ++ [key]
  vals : ∀ x ∈ xs', (∃ y ∈ xs, x.2.2 = y.2.2) ∨ ∃ ln, x.2.2 = .ref ln ∧ h.get? ln = none
  M : ∃ om kvs, NA g L h' a.M om ∧ DObj (SK w) om kvs ∧ kvs.map (·.1) = names'
  nd : ∃ tc, NA g L h' a.nd (ndOf w.params a.tn a.vn (8 + cells'.length) tc a.nc)
  nc : ∃ cs n, NA g L h' a.nc (PySem.W.listOf cs n) ∧ CellsAt h' cs.toList cells'
set_option maxHeartbeats 4000000 in
theorem emitted_flop {w : World} {A : Around} {s : Shared} {base g hb : Heap} {outer : List Env} {mean : ExcName → Option Value} {mg mb : Str → Option Value} {R : Result → Shared → Prop} {L : Addr} {m : Str → Option Value}
    {a : Adr} {row pins : Addr} {rn pn r bit : Nat} {inv : Int} {tr0 tr1 tr2 tr3 : Tok} {xs : TX} {nets : List Int → List Int} {names : List Str} {cells : List Cell} {pis : Array Value} {pl : List Int} {tv cv : Addr}
    (B : Below A base outer s.heap) (XB : (Mine.hd.heap_39 w.params).In base) (TB : Top Mine.hd.view_39 (looseW Mine.hd.view_39 [Str.ofString "GateloomError"]) mean mg mb base) (hroom : A.depth < 550) (hun : A.units < 700) (hh : A.handled = none)
    (G : Gear w base outer s.heap a) (hrow : s.heap.get? row = some { cls := .type "tuple", data := .seq #[.str (Str.ofString "flop") tr0, .int r tr1, .int bit tr2, .ref pins, .int inv tr3] rn }) (orow : Own base outer row) (hpi : s.heap.get? pins = some { cls := .type "tuple", data := .seq pis pn }) (opi : Own base outer pins) (hpl : PyProof.Rows.IntsAre pis.toList pl)
    (F : Fr g L s.heap m) (T : Tab w g L hb s.heap a.D xs nets) (V : Five w g L s.heap a tv cv names cells) (hO : ∀ b, g.get? b = none → b ≠ L → Own base outer b) (live : ∀ b o, hb.get? b = some o → ∃ o', s.heap.get? b = some o') (hlen : xs.length ≤ 100) (hnl : names.length ≤ 100) (hcl : cells.length ≤ 100)
    (hW : ∀ x ∈ [a.M, a.nd, a.nc, a.D], ∃ o, hb.get? x = some o) (hr : r < 4) (hbit : bit < widthAt r) (hno : atKey xs [(r : Int), (bit : Int)] = none) (hnm : Str.ofString (nameAt r bit) ∉ names)
    (hR : ∀ h' tk' xs', Celled w g L hb s.heap h' a xs xs' (upd nets [(r : Int), (bit : Int)] [8 + (cells.length : Int)]) [(r : Int), (bit : Int)] (names ++ [Str.ofString (nameAt r bit)]) (cells ++ [⟨"flop", 8 + (cells.length : Int), pl, some inv, nameAt r bit, (a.st r).getD bit 0⟩]) → R (.ok (.ret .none)) { s with heap := h', toks := tk' }) :
    codeAny (model PySem.Challenge.rw_sj0046_01.row.prog w) A (.call (.ref 362) ⟨[.ref a.wr, .ref a.nl, .ref a.ds, .ref row], []⟩) R s := by
  obtain ⟨od, vD, tD⟩ := T.at_
  obtain ⟨om, kvs, vM, hM, hMk⟩ := V.M
  obtain ⟨tc, vnd⟩ := V.nd
  obtain ⟨cs, cn, vnc, hnc⟩ := V.nc
  have own : ∀ {b : Addr} {o : Obj}, NA g L s.heap b o → Own base outer b := fun x => hO _ x.2.2 x.2.1
  have ntM : NonTup s.heap a.M := by obtain ⟨_, _, x, _⟩ := hM; exact .dict vM.1 x
  have ntnd : NonTup s.heap a.nd := .cls vnd.1 (fun q => by injection q with q; exact absurd q (by decide))
  have nts : ∀ x ∈ [a.M, a.nd, a.nc, a.D], NonTup s.heap x := fCm ⟨ntM, fCm ⟨ntnd, fCm ⟨.list vnc.1, fCm ⟨.dict vD.1 tD.exact_, fNm _⟩⟩⟩⟩
  have hnk : [(r : Int), (bit : Int)] ∉ xs.map (·.1) := fun h => by obtain ⟨p, e⟩ := atKey_isSome.mpr h; rw [hno] at e; cases e
  have hkl : kvs.length ≤ 100 := by rw [← List.length_map (f := fun x => x.1), hMk]; exact hnl
  have hcs : cs.size = cells.length := by rw [← Array.length_toList]; exact hnc.len
  have hin : (valueAt kvs (Str.ofString (nameAt r bit))).isSome = false := by rw [valueAt_some, hMk]; exact decide_eq_false hnm
  refine emitted_ok (sub := [(a.M, om), (a.nd, ndOf w.params a.tn a.vn (8 + cells.length) tc a.nc), (a.nc, PySem.W.listOf cs cn), (a.D, od)])
    (P := fun h h' => ∃ om' od' tc' ct ln pl0 t5, h.get? ln = none ∧ h'.get? a.M = some om' ∧ DObj (SK w) om' (stored kvs (Str.ofString (nameAt r bit)) (.bool true)) ∧ h'.get? a.nd = some (ndOf w.params a.tn a.vn (8 + (cells.length : Int) + 1) tc' a.nc) ∧ h'.get? a.nc = some (PySem.W.listOf (cs.push (.ref ct)) (cn + 1)) ∧ CellAt h' (.ref ct) ⟨"flop", 8 + (cells.length : Int), pl, some inv, nameAt r bit, (a.st r).getD bit 0⟩ ∧ h'.get? a.D = some od' ∧ TabObj w h' od' (xs ++ [([(r : Int), (bit : Int)], pl0, .ref ln)]) ∧ h'.get? ln = some (PySem.W.listOf #[.int (8 + (cells.length : Int)) t5] 1)) B XB TB hroom hun hh
    (fCm ⟨vM.1, fCm ⟨vnd.1, fCm ⟨vnc.1, fCm ⟨vD.1, fNm _⟩⟩⟩⟩) (fCm ⟨own vM, fCm ⟨own vnd, fCm ⟨own vnc, fCm ⟨own vD, fNm _⟩⟩⟩⟩) (fun h₀ h₁ h₂ k ⟨om', od', tc', ct, ln, pl0, t5, x, y⟩ => ⟨om', od', tc', ct, ln, pl0, t5, k.none_ x, y⟩)
    (fun A' s' outer' R' Bs hd hu hn' kk ow hRR => emit_ok_flop Bs XB TB hd hu hn' (gear_mono G kk ow ⟨_, vD.1⟩ ⟨_, vM.1⟩ ⟨_, vnd.1⟩ ⟨_, vnc.1⟩) (kk.get hrow) (ow _ _ hrow orow) (kk.get vD.1) (tD.kept kk) hr hbit hno (kk.get vM.1) hM hin (kk.get vnd.1) (kk.get vnc.1) (kk.get hpi) (ow _ _ hpi opi) (by rw [sizeLine_eq]; lia) (by rw [sizeLine_eq]; lia) (by rw [sizeLine_eq]; lia)
      fun h' tk' pl0 ln ct pr om' od' tc' t1 t2 t3 t4 t5 k1 _ l0 _ _ eM hM' end_ enc ect epr eD tD' el => hRR h' tk' k1 ⟨om', od', tc', ct, ln, pl0, t5, l0, eM, hM', end_, enc, (by
        have pk := k1 _ _ (kk.get hpi) (fun mm => nts _ mm _ _ _ hpi rfl rfl)
        exact ⟨ct, pins, pr, pis, t1, t2, rfl, ⟨_, _, ect, rfl, rfl⟩, ⟨_, _, pk, rfl, rfl⟩, hpl, ⟨tr3, t3, t4, _, _, epr, rfl, rfl⟩⟩), eD, tD', el⟩) ?_
  rintro h' tk' k5 ⟨om', od', tc', ct, ln, pl0, t5, l0, eM, hM', end_, enc, hct, eD, tD', el⟩
  have k5 : Kept [a.M, a.nd, a.nc, a.D] s.heap h' := k5
  have hbl : hb.get? ln = none := hb_none live l0
  refine hR h' tk' _ ⟨k5, ⟨⟨od', ⟨eD, vD.2⟩, tD'⟩, fun x hx => ?_, ?_⟩, by rw [List.map_append]; rfl, fun x hx => ?_, ⟨om', _, ⟨eM, vM.2⟩, hM', by rw [stored_new (by rw [hMk]; exact hnm), hMk]⟩, ⟨tc', by rw [List.length_append, List.length_singleton]; exact ⟨by push_cast; rw [← Int.add_assoc]; exact end_, vnd.2⟩⟩, ⟨_, _, ⟨enc, vnc.2⟩, by rw [Array.toList_push]; exact (hnc.but k5 nts).snoc hct⟩⟩
  · rcases List.mem_append.mp hx with hx | hx
    · obtain ⟨la, li, n, e1, e2, e3, e4⟩ := T.ls x hx
      refine ⟨la, li, n, e1, e2.but k5 (fun mm => ?_), ?_, e4⟩
      · obtain ⟨o, eo⟩ := hW _ mm; rw [e4] at eo; cases eo
      · unfold upd
        rw [if_neg (fun q : x.1 = [(r : Int), (bit : Int)] => hnk (by rw [← q]; exact List.mem_map_of_mem hx))]
        exact e3
    · rw [List.mem_singleton.mp hx]
      refine ⟨ln, _, _, rfl, NA.ofNew F l0 el, ?_, hbl⟩
      unfold upd
      rw [if_pos rfl]
      exact .cons _ _ .nil
  · rw [List.map_append, List.nodup_append]
    refine ⟨T.nd, by simp, fun x hx y hy e => ?_⟩
    obtain ⟨z, hz, rfl⟩ := List.mem_map.mp hx
    have hy : y = .ref ln := by simpa using hy
    exact T.offn l0 z hz (e.trans hy)
  · rcases List.mem_append.mp hx with hx | hx
    · exact .inl ⟨x, hx, rfl⟩
    · rw [List.mem_singleton.mp hx]; exact .inr ⟨ln, rfl, l0⟩
set_option maxHeartbeats 4000000 in
theorem emitted_latch {w : World} {A : Around} {s : Shared} {base g hb : Heap} {outer : List Env} {mean : ExcName → Option Value} {mg mb : Str → Option Value} {R : Result → Shared → Prop} {L : Addr} {m : Str → Option Value}
    {a : Adr} {row pins : Addr} {rn pn r bit : Nat} {tr0 tr1 tr2 : Tok} {xs : TX} {nets : List Int → List Int} {names : List Str} {cells : List Cell} {pis : Array Value} {pl : List Int} {tv cv : Addr}
    (B : Below A base outer s.heap) (XB : (Mine.hd.heap_39 w.params).In base) (TB : Top Mine.hd.view_39 (looseW Mine.hd.view_39 [Str.ofString "GateloomError"]) mean mg mb base) (hroom : A.depth < 550) (hun : A.units < 700) (hh : A.handled = none)
    (G : Gear w base outer s.heap a) (hrow : s.heap.get? row = some { cls := .type "tuple", data := .seq #[.str (Str.ofString "latch") tr0, .int r tr1, .int bit tr2, .ref pins] rn }) (orow : Own base outer row) (hpi : s.heap.get? pins = some { cls := .type "tuple", data := .seq pis pn }) (opi : Own base outer pins) (hpl : PyProof.Rows.IntsAre pis.toList pl)
    (F : Fr g L s.heap m) (T : Tab w g L hb s.heap a.D xs nets) (V : Five w g L s.heap a tv cv names cells) (hO : ∀ b, g.get? b = none → b ≠ L → Own base outer b) (live : ∀ b o, hb.get? b = some o → ∃ o', s.heap.get? b = some o') (hlen : xs.length ≤ 100) (hnl : names.length ≤ 100) (hcl : cells.length ≤ 100)
    (hW : ∀ x ∈ [a.M, a.nd, a.nc, a.D], ∃ o, hb.get? x = some o) (hr : r < 4) (hbit : bit < widthAt r) (hno : atKey xs [(r : Int), (bit : Int)] = none) (hnm : Str.ofString (nameAt r bit) ∉ names)
    (hR : ∀ h' tk' xs', Celled w g L hb s.heap h' a xs xs' (upd nets [(r : Int), (bit : Int)] [8 + (cells.length : Int)]) [(r : Int), (bit : Int)] (names ++ [Str.ofString (nameAt r bit)]) (cells ++ [⟨"latch", 8 + (cells.length : Int), pl, none, nameAt r bit, (a.st r).getD bit 0⟩]) → R (.ok (.ret .none)) { s with heap := h', toks := tk' }) :
    codeAny (model PySem.Challenge.rw_sj0046_01.row.prog w) A (.call (.ref 362) ⟨[.ref a.wr, .ref a.nl, .ref a.ds, .ref row], []⟩) R s := by
  obtain ⟨od, vD, tD⟩ := T.at_
  obtain ⟨om, kvs, vM, hM, hMk⟩ := V.M
  obtain ⟨tc, vnd⟩ := V.nd
  obtain ⟨cs, cn, vnc, hnc⟩ := V.nc
  have own : ∀ {b : Addr} {o : Obj}, NA g L s.heap b o → Own base outer b := fun x => hO _ x.2.2 x.2.1
  have ntM : NonTup s.heap a.M := by obtain ⟨_, _, x, _⟩ := hM; exact .dict vM.1 x
  have ntnd : NonTup s.heap a.nd := .cls vnd.1 (fun q => by injection q with q; exact absurd q (by decide))
  have nts : ∀ x ∈ [a.M, a.nd, a.nc, a.D], NonTup s.heap x := fCm ⟨ntM, fCm ⟨ntnd, fCm ⟨.list vnc.1, fCm ⟨.dict vD.1 tD.exact_, fNm _⟩⟩⟩⟩
  have hnk : [(r : Int), (bit : Int)] ∉ xs.map (·.1) := fun h => by obtain ⟨p, e⟩ := atKey_isSome.mpr h; rw [hno] at e; cases e
  have hkl : kvs.length ≤ 100 := by rw [← List.length_map (f := fun x => x.1), hMk]; exact hnl
  have hcs : cs.size = cells.length := by rw [← Array.length_toList]; exact hnc.len
  have hin : (valueAt kvs (Str.ofString (nameAt r bit))).isSome = false := by rw [valueAt_some, hMk]; exact decide_eq_false hnm
  refine emitted_ok (sub := [(a.M, om), (a.nd, ndOf w.params a.tn a.vn (8 + cells.length) tc a.nc), (a.nc, PySem.W.listOf cs cn), (a.D, od)])
    (P := fun h h' => ∃ om' od' tc' ct ln pl0 t5, h.get? ln = none ∧ h'.get? a.M = some om' ∧ DObj (SK w) om' (stored kvs (Str.ofString (nameAt r bit)) (.bool true)) ∧ h'.get? a.nd = some (ndOf w.params a.tn a.vn (8 + (cells.length : Int) + 1) tc' a.nc) ∧ h'.get? a.nc = some (PySem.W.listOf (cs.push (.ref ct)) (cn + 1)) ∧ CellAt h' (.ref ct) ⟨"latch", 8 + (cells.length : Int), pl, none, nameAt r bit, (a.st r).getD bit 0⟩ ∧ h'.get? a.D = some od' ∧ TabObj w h' od' (xs ++ [([(r : Int), (bit : Int)], pl0, .ref ln)]) ∧ h'.get? ln = some (PySem.W.listOf #[.int (8 + (cells.length : Int)) t5] 1)) B XB TB hroom hun hh
    (fCm ⟨vM.1, fCm ⟨vnd.1, fCm ⟨vnc.1, fCm ⟨vD.1, fNm _⟩⟩⟩⟩) (fCm ⟨own vM, fCm ⟨own vnd, fCm ⟨own vnc, fCm ⟨own vD, fNm _⟩⟩⟩⟩) (fun h₀ h₁ h₂ k ⟨om', od', tc', ct, ln, pl0, t5, x, y⟩ => ⟨om', od', tc', ct, ln, pl0, t5, k.none_ x, y⟩)
    (fun A' s' outer' R' Bs hd hu hn' kk ow hRR => emit_ok_latch Bs XB TB hd hu hn' (gear_mono G kk ow ⟨_, vD.1⟩ ⟨_, vM.1⟩ ⟨_, vnd.1⟩ ⟨_, vnc.1⟩) (kk.get hrow) (ow _ _ hrow orow) (kk.get vD.1) (tD.kept kk) hr hbit hno (kk.get vM.1) hM hin (kk.get vnd.1) (kk.get vnc.1) (kk.get hpi) (ow _ _ hpi opi) (by rw [sizeLine_eq]; lia) (by rw [sizeLine_eq]; lia) (by rw [sizeLine_eq]; lia)
      fun h' tk' pl0 ln ct pr om' od' tc' t1 t2 t3 t4 t5 k1 _ l0 _ _ eM hM' end_ enc ect epr eD tD' el => hRR h' tk' k1 ⟨om', od', tc', ct, ln, pl0, t5, l0, eM, hM', end_, enc, (by
        have pk := k1 _ _ (kk.get hpi) (fun mm => nts _ mm _ _ _ hpi rfl rfl)
        exact ⟨ct, pins, pr, pis, t1, t2, rfl, ⟨_, _, ect, rfl, rfl⟩, ⟨_, _, pk, rfl, rfl⟩, hpl, ⟨t3, t4, _, _, epr, rfl, rfl⟩⟩), eD, tD', el⟩) ?_
  rintro h' tk' k5 ⟨om', od', tc', ct, ln, pl0, t5, l0, eM, hM', end_, enc, hct, eD, tD', el⟩
  have k5 : Kept [a.M, a.nd, a.nc, a.D] s.heap h' := k5
  have hbl : hb.get? ln = none := hb_none live l0
  refine hR h' tk' _ ⟨k5, ⟨⟨od', ⟨eD, vD.2⟩, tD'⟩, fun x hx => ?_, ?_⟩, by rw [List.map_append]; rfl, fun x hx => ?_, ⟨om', _, ⟨eM, vM.2⟩, hM', by rw [stored_new (by rw [hMk]; exact hnm), hMk]⟩, ⟨tc', by rw [List.length_append, List.length_singleton]; exact ⟨by push_cast; rw [← Int.add_assoc]; exact end_, vnd.2⟩⟩, ⟨_, _, ⟨enc, vnc.2⟩, by rw [Array.toList_push]; exact (hnc.but k5 nts).snoc hct⟩⟩
  · rcases List.mem_append.mp hx with hx | hx
    · obtain ⟨la, li, n, e1, e2, e3, e4⟩ := T.ls x hx
      refine ⟨la, li, n, e1, e2.but k5 (fun mm => ?_), ?_, e4⟩
      · obtain ⟨o, eo⟩ := hW _ mm; rw [e4] at eo; cases eo
      · unfold upd
        rw [if_neg (fun q : x.1 = [(r : Int), (bit : Int)] => hnk (by rw [← q]; exact List.mem_map_of_mem hx))]
        exact e3
    · rw [List.mem_singleton.mp hx]
      refine ⟨ln, _, _, rfl, NA.ofNew F l0 el, ?_, hbl⟩
      unfold upd
      rw [if_pos rfl]
      exact .cons _ _ .nil
  · rw [List.map_append, List.nodup_append]
    refine ⟨T.nd, by simp, fun x hx y hy e => ?_⟩
    obtain ⟨z, hz, rfl⟩ := List.mem_map.mp hx
    have hy : y = .ref ln := by simpa using hy
    exact T.offn l0 z hz (e.trans hy)
  · rcases List.mem_append.mp hx with hx | hx
    · exact .inl ⟨x, hx, rfl⟩
    · rw [List.mem_singleton.mp hx]; exact .inr ⟨ln, rfl, l0⟩
section
variable {w : World} {base gg hb h7 h8 : Heap} {outer : List Env} {L I dv tv cv stl lv : Addr} {a : Adr} {sits : Array Value} {fs : List Addr} {xs xs8 ys : TX} {nets nets' : List Int → List Int} {names names' : List Str} {cells cells' : List Cell} {N : Nat} {key : List Int}
theorem ci_celled (C0 : CC w base outer gg L hb I a dv tv cv stl sits fs) (C : CI w gg L hb h7 I a dv tv cv fs xs ys nets names cells N) (Ce : Celled w gg L hb h7 h8 a xs xs8 nets' key names' cells') :
    KF hb (W0 L a dv tv cv) h7 h8 ∧ Tab w gg L hb h8 dv ys nets ∧ (∃ its n, NA gg L h8 tv (PySem.W.listOf its n) ∧ StrsAre its.toList names) ∧ (∃ cs n, NA gg L h8 cv (PySem.W.listOf cs n) ∧ CellsAt h8 cs.toList cells) ∧ (∀ b o, hb.get? b = some o → ∃ o', h8.get? b = some o') ∧ (∀ x ∈ [a.M, a.nd, a.nc, a.D], gg.get? x = none ∧ x ≠ L) ∧ (∀ x ∈ [a.M, a.nd, a.nc, a.D], NonTup h7 x) ∧ ∀ b o, hb.get? b = some o → b ∉ fs → b ∉ I :: W0 L a dv tv cv → h8.get? b = some o := by
  obtain ⟨od, vD, tD⟩ := C.D.at_
  obtain ⟨om, kvs, vM, hM, _⟩ := C.five.M
  obtain ⟨tc, vnd⟩ := C.five.nd
  obtain ⟨cs, cn, vnc, hnc⟩ := C.five.nc
  obtain ⟨om8, kvs8, vM8, _⟩ := Ce.M
  obtain ⟨tc8, vnd8⟩ := Ce.nd
  obtain ⟨cs8, cn8, vnc8, _⟩ := Ce.nc
  obtain ⟨od8, vD8, _⟩ := Ce.tab.at_
  have nts : ∀ x ∈ [a.M, a.nd, a.nc, a.D], NonTup h7 x := fCm ⟨by obtain ⟨_, _, x, _⟩ := hM; exact .dict vM.1 x, fCm ⟨.cls vnd.1 (fun q => by injection q with q; exact absurd q (by decide)), fCm ⟨.list vnc.1, fCm ⟨.dict vD.1 tD.exact_, fNm _⟩⟩⟩⟩
  have off : ∀ {j : Nat} {x : Addr}, (W0 L a dv tv cv)[j]? = some x → 5 ≤ j → x ∉ [a.M, a.nd, a.nc, a.D] := fun {j x} e hj m => by
    rcases List.mem_cons.mp m with q | m
    · exact C0.ne e (j := 2) rfl (by lia) q
    · rcases List.mem_cons.mp m with q | m
      · exact C0.ne e (j := 3) rfl (by lia) q
      · rcases List.mem_cons.mp m with q | m
        · exact C0.ne e (j := 4) rfl (by lia) q
        · exact C0.ne e (j := 1) rfl (by lia) (List.mem_singleton.mp m)
  have hbx : ∀ x ∈ [a.M, a.nd, a.nc, a.D], ∃ o, hb.get? x = some o := fCm ⟨C0.at (i := 2) rfl, fCm ⟨C0.at (i := 3) rfl, fCm ⟨C0.at (i := 4) rfl, fCm ⟨C0.at (i := 1) rfl, fNm _⟩⟩⟩⟩
  have inW : ∀ x ∈ [a.M, a.nd, a.nc, a.D], x ∈ W0 L a dv tv cv := fCm ⟨.tail _ (.tail _ (.head _)), fCm ⟨.tail _ (.tail _ (.tail _ (.head _))), fCm ⟨.tail _ (.tail _ (.tail _ (.tail _ (.head _)))), fCm ⟨.tail _ (.head _), fNm _⟩⟩⟩⟩
  have kf : KF hb (W0 L a dv tv cv) h7 h8 := Ce.kept.kf fun s m => .inl (inW s m)
  refine ⟨kf, C.V.but Ce.kept (off (j := 5) rfl (by decide)) (fun s m => C.V.off (hbx s m)) nts, ?_, ?_, live_kept C.live Ce.kept (fCm ⟨⟨_, vM8.1⟩, fCm ⟨⟨_, vnd8.1⟩, fCm ⟨⟨_, vnc8.1⟩, fCm ⟨⟨_, vD8.1⟩, fNm _⟩⟩⟩⟩), fCm ⟨⟨vM.2.2, vM.2.1⟩, fCm ⟨⟨vnd.2.2, vnd.2.1⟩, fCm ⟨⟨vnc.2.2, vnc.2.1⟩, fCm ⟨⟨vD.2.2, vD.2.1⟩, fNm _⟩⟩⟩⟩, nts, fun b o e nf n => kf b o (C.kb b o e nf n) (fun m => n (.tail _ m)) ⟨o, e⟩⟩
  · obtain ⟨its, n, e, r⟩ := C.five.T
    exact ⟨its, n, e.but Ce.kept (off (j := 6) rfl (by decide)), r⟩
  · obtain ⟨cs, n, e, r⟩ := C.five.cv
    exact ⟨cs, n, e.but Ce.kept (off (j := 7) rfl (by decide)), r.but Ce.kept nts⟩
end
theorem strs_snoc : ∀ {vs : List Value} {ss : List Str} {x : Str} {t : Tok}, StrsAre vs ss → StrsAre (vs ++ [.str x t]) (ss ++ [x])
  | _, _, _, _, .nil => .cons _ _ .nil
  | _, _, _, _, .cons a b r => .cons a b (strs_snoc r)
theorem fresh_mut {g h h' : Heap} {L a : Addr} {o : Obj} {S : List Addr} {rest : List (Addr × Obj)} (H : Hid (Rest g L h S rest)) (hS : a ∉ S) (v : NA g L h' a o) (l : AllLt a rest) : h.get? a = none := by
  cases q : h.get? a with
  | none => rfl
  | some o => exact absurd (allLt_mem l _ (H.get.1 a o q v.2.1 v.2.2 hS)) (Nat.lt_irrefl _)
theorem dj_celled {w : World} {gg hb h7 h8 : Heap} {L I dv tv cv lv : Addr} {a : Adr} {fs : List Addr} {xs xs8 ys ys10 : TX} {nets nets' : List Int → List Int} {names names' : List Str} {cells cells' : List Cell} {N : Nat} {key : List Int} (C : CI w gg L hb h7 I a dv tv cv fs xs ys nets names cells N) (Ce : Celled w gg L hb h7 h8 a xs xs8 nets' key names' cells')
    (vs8 : ∀ y ∈ ys10, (∃ y0 ∈ ys, y.2.2 = y0.2.2) ∨ y.2.2 = .ref lv) (n5 : h8.get? lv = none) : ∀ x ∈ xs8, ∀ y ∈ ys10, x.2.2 ≠ y.2.2 := fun x hx y hy e => by
  obtain ⟨la, li, n, e1, e2, _⟩ := Ce.tab.ls x hx
  rcases vs8 y hy with ⟨y0, hy0, e0⟩ | e0
  · rcases Ce.vals x hx with ⟨x0, hx0, ex0⟩ | ⟨ln, ex0, nn⟩
    · exact C.dj x0 hx0 y0 hy0 (by rw [← ex0, e, e0])
    · obtain ⟨lb, lj, n', f1, f2, _⟩ := C.V.ls y0 hy0
      have q : Value.ref ln = .ref lb := by rw [← ex0, e, e0, f1]
      injection q with q
      have f2 := f2.1
      rw [← q, nn] at f2; cases f2
  · have q : Value.ref la = .ref lv := by rw [← e1, e, e0]
    injection q with q
    have e2 := e2.1
    rw [q, n5] at e2; cases e2
section
variable {w : World} {base gg hb h7 h8 h9 h10 h11 : Heap} {outer : List Env} {L I dv tv cv stl : Addr} {a : Adr} {sits : Array Value} {fs : List Addr} {xs xs8 ys ys10 : TX} {nets nets' : List Int → List Int} {names names' : List Str} {cells cells' : List Cell} {N : Nat} {key : List Int} {m9 m11 : Str → Option Value}
theorem ci_ok (C0 : CC w base outer gg L hb I a dv tv cv stl sits fs) (C : CI w gg L hb h7 I a dv tv cv fs xs ys nets names cells N) (Ce : Celled w gg L hb h7 h8 a xs xs8 nets' key names' cells')
    (k9 : Kept (L :: [tv]) h8 h9) (nt8 : ∀ s ∈ L :: [tv], NonTup h8 s) (F9 : Fr gg L h9 m9) (k10 : Kept [dv] h9 h10) (nt9 : ∀ s ∈ [dv], NonTup h9 s) (k11 : Kept (L :: [cv]) h10 h11) (nt10 : ∀ s ∈ L :: [cv], NonTup h10 s) (F11 : Fr gg L h11 m11)
    (V10 : Tab w gg L hb h10 dv ys10 nets') (ks10 : ys10.map (·.1) = if key ∈ ys.map (·.1) then ys.map (·.1) else ys.map (·.1) ++ [key]) (hk : key ∉ ys.map (·.1)) (dj10 : ∀ x ∈ xs8, ∀ y ∈ ys10, x.2.2 ≠ y.2.2)
    (hT : ∃ its n, NA gg L h10 tv (PySem.W.listOf its n) ∧ StrsAre its.toList names') (hcv : ∃ cs n, NA gg L h11 cv (PySem.W.listOf cs n) ∧ CellsAt h11 cs.toList cells') (hkey : ∃ r b : Nat, key = [(r : Int), (b : Int)] ∧ r < 5 ∧ b < widthAt r)
    (hok : (∀ c ∈ cells', CellOk c) ∧ ∀ x ∈ names', PyData.strOk x = true) (hnz : names'.length ≤ N + 1 ∧ cells'.length ≤ N + 1) (hnl : ∀ k, (nets' k).length ≤ N + 1) (hag : ∀ k, k ≠ key → nets' k = nets k) :
    CI w gg L hb h11 I a dv tv cv fs xs8 ys10 nets' names' cells' (N + 1) ∧ KF hb (fs ++ W0 L a dv tv cv) h7 h11 := by
  obtain ⟨kf8, V8, _, _, live8, fr8, nts, kb8⟩ := ci_celled C0 C Ce
  have exL : ∀ {h : Heap} {m : Str → Option Value}, Fr gg L h m → ∃ o, h.get? L = some o := fun F => let ⟨o, _, _, e, _⟩ := F.ns; ⟨o, e⟩
  have w6 : tv ∈ W0 L a dv tv cv := .tail _ (.tail _ (.tail _ (.tail _ (.tail _ (.tail _ (.head _))))))
  have w7 : cv ∈ W0 L a dv tv cv := .tail _ (.tail _ (.tail _ (.tail _ (.tail _ (.tail _ (.tail _ (.head _)))))))
  have w5 : dv ∈ W0 L a dv tv cv := .tail _ (.tail _ (.tail _ (.tail _ (.tail _ (.head _)))))
  have kf9 : KF hb (W0 L a dv tv cv) h8 h9 := k9.kf (fCm ⟨.inl (.head _), fCm ⟨.inl w6, fNm _⟩⟩)
  have kf10 : KF hb (W0 L a dv tv cv) h9 h10 := k10.kf (fCm ⟨.inl w5, fNm _⟩)
  have kf11 : KF hb (W0 L a dv tv cv) h10 h11 := k11.kf (fCm ⟨.inl (.head _), fCm ⟨.inl w7, fNm _⟩⟩)
  have kf := ((kf8.trans kf9).trans kf10).trans kf11
  have offT : ∀ {h : Heap} {A' : Addr} {zs : TX} {n' : List Int → List Int} {x : Addr} (T : Tab w gg L hb h A' zs n') (ex : ∃ o, hb.get? x = some o), ∀ s ∈ L :: [x], ∀ z ∈ zs, z.2.2 ≠ .ref s := fun T ex => fCm ⟨fun z hz e => (by obtain ⟨la, li, n, e1, e2, _⟩ := T.ls z hz; rw [e1] at e; exact e2.2.1 (by injection e)), fCm ⟨T.off ex, fNm _⟩⟩
  have D8 := Ce.tab
  have DL : a.D ≠ L := (fr8 _ (.tail _ (.tail _ (.tail _ (.head _))))).2
  have D9 := D8.but k9 (nm2 DL (C0.ne (i := 1) (j := 6) rfl rfl (by decide))) (offT D8 (C0.at (i := 6) rfl)) nt8
  have D10 := D9.but k10 (nm1 (C0.ne (i := 1) (j := 5) rfl rfl (by decide))) (fCm ⟨D9.off (C0.at (i := 5) rfl), fNm _⟩) nt9
  have D11 := D10.but k11 (nm2 DL (C0.ne (i := 1) (j := 7) rfl rfl (by decide))) (offT D10 (C0.at (i := 7) rfl)) nt10
  have dvL : dv ≠ L := by obtain ⟨_, e, _⟩ := V10.at_; exact e.2.1
  have V11 := V10.but k11 (nm2 dvL (C0.ne (i := 5) (j := 7) rfl rfl (by decide))) (offT V10 (C0.at (i := 7) rfl)) nt10
  have W9 : ∀ {x : Addr} {j : Nat}, (W0 L a dv tv cv)[j]? = some x → 1 ≤ j → j ≤ 4 → (x ∉ L :: [tv] ∧ x ∉ [dv] ∧ x ∉ L :: [cv]) := fun e h1 h2 => ⟨nm2 (C0.ne e (j := 0) rfl (by lia)) (C0.ne e (j := 6) rfl (by lia)), nm1 (C0.ne e (j := 5) rfl (by lia)), nm2 (C0.ne e (j := 0) rfl (by lia)) (C0.ne e (j := 7) rfl (by lia))⟩
  have five11 : Five w gg L h11 a tv cv names' cells' := by
    refine ⟨?_, ?_, ?_, ?_, hcv⟩
    · obtain ⟨om, kvs, e, r⟩ := Ce.M
      have z := W9 (x := a.M) (j := 2) rfl (by decide) (by decide)
      exact ⟨om, kvs, ((e.but k9 z.1).but k10 z.2.1).but k11 z.2.2, r⟩
    · obtain ⟨its, n, e, r⟩ := hT
      exact ⟨its, n, e.but k11 (nm2 e.2.1 (C0.ne (i := 6) (j := 7) rfl rfl (by decide))), r⟩
    · obtain ⟨tc, e⟩ := Ce.nd
      have z := W9 (x := a.nd) (j := 3) rfl (by decide) (by decide)
      exact ⟨tc, ((e.but k9 z.1).but k10 z.2.1).but k11 z.2.2⟩
    · obtain ⟨cs, n, e, r⟩ := Ce.nc
      have z := W9 (x := a.nc) (j := 4) rfl (by decide) (by decide)
      exact ⟨cs, n, ((e.but k9 z.1).but k10 z.2.1).but k11 z.2.2, ((r.but k9 nt8).but k10 nt9).but k11 nt10⟩
  have hW : ∀ x ∈ W0 L a dv tv cv, ∃ o, h11.get? x = some o := by
    refine fCm ⟨exL F11, fCm ⟨?_, fCm ⟨?_, fCm ⟨?_, fCm ⟨?_, fCm ⟨?_, fCm ⟨?_, fCm ⟨?_, fNm _⟩⟩⟩⟩⟩⟩⟩⟩
    · obtain ⟨_, e, _⟩ := D11.at_; exact ⟨_, e.1⟩
    · obtain ⟨_, _, e, _⟩ := five11.M; exact ⟨_, e.1⟩
    · obtain ⟨_, e⟩ := five11.nd; exact ⟨_, e.1⟩
    · obtain ⟨_, _, e, _⟩ := five11.nc; exact ⟨_, e.1⟩
    · obtain ⟨_, e, _⟩ := V11.at_; exact ⟨_, e.1⟩
    · obtain ⟨_, _, e, _⟩ := five11.T; exact ⟨_, e.1⟩
    · obtain ⟨_, _, e, _⟩ := five11.cv; exact ⟨_, e.1⟩
  have hkx : key ∉ xs.map (·.1) := by rw [C.ks]; exact hk
  refine ⟨⟨fun b o e nf n => kf b o (C.kb b o e nf n) (fun m => n (.tail _ m)) ⟨o, e⟩, fun b o e => ?_, D11, V11, dj10, ?_, fun x hx => ?_, five11, hok, ⟨?_, hnz.1, hnz.2, hnl⟩, fun k hk' => ?_, C.fw, fun b hf o e => let ⟨sl, e'⟩ := C.fu b hf o e; ⟨sl, kf b _ e' (C.fw b hf) ⟨o, e⟩⟩⟩, kf.mono fun x m => List.mem_append_right _ m⟩
  · by_cases m : b ∈ W0 L a dv tv cv
    · exact hW b m
    · obtain ⟨o', e'⟩ := C.live b o e
      exact ⟨o', kf b o' e' m ⟨o, e⟩⟩
  · rw [Ce.keys, ks10, if_neg hk, C.ks]
  · have : x.1 ∈ xs8.map (·.1) := List.mem_map_of_mem hx
    rw [Ce.keys] at this
    rcases List.mem_append.mp this with q | q
    · obtain ⟨z, hz, ez⟩ := List.mem_map.mp q
      rw [← ez]; exact C.kn z hz
    · obtain ⟨r, b, e, h1, h2⟩ := hkey
      exact ⟨r, b, (List.mem_singleton.mp q).trans e, h1, h2⟩
  · have := congrArg List.length Ce.keys
    rw [List.length_map, List.length_append, List.length_map, List.length_singleton] at this
    have := C.sz.1
    lia
  · rw [Ce.keys] at hk'
    rw [hag k fun q => hk' (List.mem_append_right _ (q ▸ .head _))]
    exact C.ab k fun q => hk' (List.mem_append_left _ q)
end
section
section
variable {prog : Program} {w : World} {A : Around} {E : Value → Shared → Prop} {Q : Flow → Shared → Prop} {s : Shared} {env : Env}
structure WB (s : Shared) (J : Nat → Heap → Prop) (n : Nat) (s₃ : Shared) : Prop where
  ex : ∃ n' h' tk', s₃ = { s with heap := h', toks := tk' } ∧ J n' h' ∧ n' < n
theorem While_own {test : Expr} {body : List Stmt} {pos : Pos} (J : Nat → Heap → Prop) (n0 : Nat) (h0 : J n0 s.heap)
    (turn : ∀ n h tk, J n h → wpAny (model prog w) A (isTrue test env (eval test env)) (fun b s₂ => if b = true then wpAny (model prog w) A (execs body env) (fun f s₃ => match f with
      | .ret v => Q (.ret v) s₃
      | .brk => Q .next s₃
      | _ => WB s J n s₃) E s₂ else Q .next s₂) E { s with heap := h, toks := tk })
    (hE : PassesOwn (model prog w) A env E) :
    wpAny (model prog w) A (exec (.While test body [] pos) env) Q E s := by
  have all : ∀ n h tk, J n h → WhlRest prog w A E env test body [] Q 0 { s with heap := h, toks := tk } := by
    intro n
    induction n using Nat.strongRecOn with
    | ind n ih =>
      intro h tk hJ
      refine whl_turn (k := 0) hE (wpAny_mono (turn n h tk hJ) (fun b s₂ p => ?_) fun _ _ x => x)
      cases b with
      | false => exact WhlIf.no rfl (wpAny_execs_nil (by simpa using p))
      | true =>
        refine WhlIf.yes rfl ?_
        simp only [if_true] at p
        refine wpAny_mono p (fun f s₃ q => ?_) fun _ _ x => x
        cases f with
        | ret v => exact q
        | brk => exact q
        | next => obtain ⟨⟨n', h', tk', rfl, j, l⟩⟩ := q; exact ih n' l h' tk' j
        | cont => obtain ⟨⟨n', h', tk', rfl, j, l⟩⟩ := q; exact ih n' l h' tk' j
  exact whl_start 0 (all n0 _ _ h0)
end
theorem ints_get : ∀ {vs : List Value} {l : List Int} {i : Nat} {v : Value}, PyProof.Rows.IntsAre vs l → vs[i]? = some v → ∃ k t, v = .int k t
  | _, _, _, _, .nil, h => by cases h
  | _, _, 0, _, .cons k t r, h => ⟨k, t, by simpa using h.symm⟩
  | _, _, i + 1, _, .cons _ _ r, h => ints_get r (by simpa using h)
theorem ints_find {g h : Heap} {L a : Addr} {vs : List Value} {n : Nat} {l : List Int} (_v : NA g L h a (PySem.W.listOf vs.toArray n)) (i : PyProof.Rows.IntsAre vs l) : PyProof.Rows.IntsAre vs.toArray.toList l := i
theorem loop_listJ {prog : Program} {w : World} {A : Around} {E : Value → Shared → Prop} {s : Shared} {env : Env} {Q : Flow → Shared → Prop} {target : Expr} {body : List Stmt} {l : Addr} {its : Array Value} (hh : A.handled = none) (hl : s.heap.IsList l its) (J : Addr → Addr → Nat → Heap → Prop) (h0 : ∀ o, J s.heap.objs.size l 0 (s.heap.push o))
    (step : ∀ i v h h₁ tk₁, its[i]? = some v → J s.heap.objs.size l i h → Kept [s.heap.objs.size] h h₁ → Turn prog w A env target body Q E [s.heap.objs.size, l] s (J s.heap.objs.size l (i + 1)) v h₁ tk₁)
    (done : ∀ h h₁ tk₁, J s.heap.objs.size l its.size h → Kept [s.heap.objs.size] h h₁ → Q .next { s with heap := h₁, toks := tk₁ }) :
    wpAny (model prog w) A (pyIter (.ref l)) (fun it s₂ => LoopOwn prog w A env target body Q E it s₂) E s :=
  loop_list hh hl (J s.heap.objs.size l) h0 step done

local macro_rules | `(tactic| k_all) => `(tactic| assumption)
set_option maxHeartbeats 8000000 in
theorem purse_spec {w : World} {A : Around} {s : Shared} {base : Heap} {outer : List Env} {mean : ExcName → Option Value} {mg mb : Str → Option Value} {R : Result → Shared → Prop}
    {sa : Addr} {vs : List Value} {l : List Int}
    (B : Below A base outer s.heap) (XB : (Mine.hd.heap_39 w.params).In base) (TB : Top Mine.hd.view_39 (looseW Mine.hd.view_39 [Str.ofString "GateloomError"]) mean mg mb base) (hroom : A.depth < 550) (hun : A.units < 800) (hh : A.handled = none)
    (hsa : base.IsList sa vs.toArray) (hi : PyProof.Rows.IntsAre vs l) (hl : l.length < 64)
    (hR : ∀ h' tk' pa ca cs cn l' n' t, Kept [] s.heap h' → s.heap.get? pa = none → s.heap.get? ca = none → h'.get? pa = some (PySem.W.listOf #[.ref ca, .int (-1) t] n') → h'.get? ca = some (PySem.W.listOf cs cn) → PyProof.Rows.IntsAre cs.toList l' → l'.length ≤ 60 → pa ≠ ca → R (.ok (.ret (.ref pa))) { s with heap := h', toks := tk' }) :
    codeAny (model PySem.Challenge.rw_sj0046_01.row.prog w) A (.call (.ref 327) ⟨[.ref sa], []⟩) R s := by
  refine hold fun gP kont => ?_
  obtain ⟨h, g, d, tt, os⟩ := s
  refine kont ?_
  clear kont gP
  refine' enter_all (binds := [(Str.ofString "script", .ref sa)]) B XB TB ?k6 ?k7 ?k8 ?k9 ?kB ?_ ?c2 ?c3 ?c4 ?c5
  case k8 => exact Nat.lt_of_lt_of_le hroom (by decide)
  tb_start
  intro gg L h₁ hg1 hg2 hL k1 F B' X' T'
  try dsimp only
  have hLn : ∀ a ∈ [L], h.get? a = none := fun a m => by rw [List.mem_singleton.mp m, hL]; exact Heap.get?_none_of_le (Nat.le_refl _)
  have neL : ∀ {a : Addr} {o : Obj}, h.get? a = some o → a ≠ L := fun e q => by rw [hLn _ (List.mem_singleton.mpr q)] at e; cases e
  have vsa : gg.IsList sa vs.toArray := by obtain ⟨o, e, r⟩ := hsa; exact ⟨o, B'.stays _ _ e, r⟩
  have hsz : vs.toArray.size < 1000 := by (have := PyProof.Rows.IntsAre.length hi; rw [List.size_toArray]; lia)
  obtain ⟨rest, N, H⟩ := see F [] (fNm _)
  try dsimp only [List.nil_append, List.cons_append] at N
  walk_at "q0"
  repeat ((fail_if_success (with_reducible show wpAny _ _ (exec (Stmt.For _ _ _ _ _) _) _ _ _)); (fail_if_success (with_reducible show wpAny _ _ (subscriptTail _ _ (Value.ref _) (Value.int (Nat.cast _) _)) _ _ _)); (fail_if_success (with_reducible show wpAny _ _ (compareOp CmpOp.In _ (Value.ref _)) _ _ _)); (fail_if_success (with_reducible show wpAny _ _ (call (Value.ref _) _) _ _ _)); walk_at "q2")
  refine' For_own ?_ ?hs ?hE
  case hs => intro _; rfl
  case hE => passes_own
  k_steps
  rename Fr _ _ _ _ => F2
  rename News _ _ _ _ => N2
  have vsl := NA.of N2 (.head _)
  have vca := NA.of N2 (.tail _ (.tail _ (.head _)))
  try dsimp only at vsl
  have K2 : Kept [] h _ := k1.thru (seen H F2 (fun q m => (N2 q (by repeat (first | exact m | refine List.Mem.tail _ ?_))).1)) hLn
  have fca : h.get? _ = none := k1.none_ (fresh_mut H List.not_mem_nil vca (allLt_of (by assumption)))
  have ncs : _ ≠ _ := Nat.ne_of_lt (by assumption : _ ∧ _ ∧ AllLt _ rest).2.1
  have hii := ints_find vsl (by assumption)
  have hF2 := Hid.mk F2
  have hKa := K2
  clear N2
  try dsimp only
  refine' loop_listJ (show (A.deeper _).handled = none from hh) (listAt vsl.1) (fun it sl i hc => ∃ m ca cs cn l', Fr gg L hc m ∧ m (Str.ofString "coins") = some (.ref ca) ∧ NA gg L hc ca (PySem.W.listOf cs cn) ∧ PyProof.Rows.IntsAre cs.toList l' ∧ l'.length ≤ 60 ∧ Kept [] h hc ∧ h.get? ca = none ∧ ca ≠ it ∧ ca ≠ sl) ?h0 ?step ?done
  case h0 => exact fun o => ⟨_, _, _, _, _, F2.push o, rfl, ⟨Heap.get?_push_of_some _ vca.1, vca.2⟩, .nil, Nat.zero_le _, K2.thru (S := []) (fun b o' e _ => Heap.get?_push_of_some _ e) (fNm _), fca, Nat.ne_of_lt (Heap.lt_size vca.1), ncs⟩
  case done =>
    intro hc hc1 tkc hPat3 kI
    obtain ⟨m, ca, cs, cn, l', Fc, mc, vc, hc', hl', kc, fc, nit, nsl⟩ := hPat3
    have F3 := turn_fr hF2.get Fc kI
    have K3 := turn_kept hKa kc kI
    have vc3 := vc.but kI (nm1 nit)
    clear F2 Fc
    replace F3 := pin F3 mc
    try dsimp only
    obtain ⟨rest, N, H⟩ := see F3 [(ca, _)] (fCm ⟨vc3, fNm _⟩)
    try dsimp only [List.nil_append, List.cons_append] at N
    k_steps
    rename Fr _ _ _ _ => F4
    rename News _ _ _ _ => N4
    have l4 := (by assumption : @LT.lt Nat _ ca _ ∧ AllLt _ rest)
    have vp := NA.of N4 (.head _)
    have vc4 := NA.of N4 (.tail _ (.head _))
    exact hR _ _ _ _ _ _ _ _ _ (K3.thru (seen H F4 (fun q m => (N4 q (by repeat (first | exact m | refine List.Mem.tail _ ?_))).1)) hLn) (K3.none_ (fresh_mut H List.not_mem_nil vp l4.2)) fc vp.1 vc4.1 hc' hl' (Nat.ne_of_lt l4.1).symm
  case step =>
    intro i v hc hc1 tkc hv hPat6 kI
    obtain ⟨m, ca, cs, cn, l', Fc, mc, vc, hc', hl', kc, fc, nit, nsl⟩ := hPat6
    have F3 := turn_fr hF2.get Fc kI
    have K3 := turn_kept hKa kc kI
    have hIL := turn_ne hF2.get
    have vc3 := vc.but kI (nm1 nit)
    obtain ⟨k, tk0, rfl⟩ := ints_get hii (by rw [Array.getElem?_toList]; exact hv)
    clear F2 Fc
    replace F3 := pin F3 mc
    unfold Turn
    have hcs : cs.size < 1000 := by
      have z := PyProof.Rows.IntsAre.length hc'
      rw [Array.length_toList] at z; lia
    obtain ⟨rest, N, H⟩ := see F3 [(ca, _)] (fCm ⟨vc3, fNm _⟩)
    try dsimp only [List.nil_append, List.cons_append] at N
    walk_at "q0"
    repeat ((fail_if_success (with_reducible show wpAny _ _ (exec (Stmt.While _ _ _ _) _) _ _ _)); (fail_if_success (with_reducible show wpAny _ _ (subscriptTail _ _ (Value.ref _) (Value.int (Nat.cast _) _)) _ _ _)); (fail_if_success (with_reducible show wpAny _ _ (compareOp CmpOp.In _ (Value.ref _)) _ _ _)); (fail_if_success (with_reducible show wpAny _ _ (call (Value.ref _) _) _ _ _)); walk_at "q2")
    all_goals (try (repeat ((fail_if_success (with_reducible show wpAny _ _ (exec (Stmt.While _ _ _ _) _) _ _ _)); (fail_if_success (with_reducible show wpAny _ _ (subscriptTail _ _ (Value.ref _) (Value.int (Nat.cast _) _)) _ _ _)); (fail_if_success (with_reducible show wpAny _ _ (compareOp CmpOp.In _ (Value.ref _)) _ _ _)); (fail_if_success (with_reducible show wpAny _ _ (call (Value.ref _) _) _ _ _)); walk_at "q2")))
    all_goals
      rename Fr _ _ _ _ => F4
      rename News _ _ _ _ => N4
      have k4 : Kept [L] hc1 _ := seen H F4 (fun q m => (N4 q (by repeat (first | exact m | refine List.Mem.tail _ ?_))).1)
      have vc4 := NA.of N4 (.head _)
      refine' While_own (fun n hw => ∃ m' cs' cn' l2 mo tm, n = 60 - cs'.size ∧ Fr gg L hw m' ∧ m' (Str.ofString "coins") = some (.ref ca) ∧ m' (Str.ofString "money") = some (.int mo tm) ∧ NA gg L hw ca (PySem.W.listOf cs' cn') ∧ PyProof.Rows.IntsAre cs'.toList l2 ∧ l2.length ≤ 60 ∧ Kept [L, ca] hc1 hw) (60 - cs.size) ?w0 ?wt ?wE
      case wE => passes_own
      case w0 => exact ⟨_, cs, cn, l', _, _, rfl, F4, rfl, rfl, vc4, hc', hl', fun b o e n => k4 b o e (nm1 fun q => n (q ▸ .head _))⟩
      case wt =>
        clear F4 N4
        intro nW hw tkw hPat3
        obtain ⟨m', cs', cn', l2, mo, tm, en, Fw, mcw, mow, vw, hcw, hlw, kw⟩ := hPat3
        have hcs' : cs'.size < 1000 := by
          have z := PyProof.Rows.IntsAre.length hcw
          rw [Array.length_toList] at z; lia
        have hF := Hid.mk Fw
        replace Fw := pin (x := Str.ofString "money") (pin (x := Str.ofString "coins") Fw mcw) ((if_neg (by decide)).trans mow)
        refine hold fun gP kont => ?_
        obtain ⟨rest, N, hrx, H⟩ := see_mut Fw [] [(ca, _)] (fNm _) (fCm ⟨vw, fNm _⟩)
        refine kont ?_
        clear kont gP
        try dsimp only [List.nil_append, List.cons_append] at N
        have hrx0 : ∀ q ∈ rest, q.1 ≠ ca := hrx _ (.head _)
        clear hrx
        k_steps
        all_goals
          rename Fr _ _ _ _ => F5
          rename News _ _ _ _ => N5
          have k5 : Kept (L :: [ca]) hw _ := seen_mut H F5 (fun q m => (N5 q (by repeat (first | exact m | refine List.Mem.tail _ ?_))).1)
          have k15 : Kept [L, ca] hc1 _ := kw.trans k5
          have K5 : Kept [] h _ := K3.thru k15 (fCm ⟨hLn _ (.head _), fCm ⟨fc, fNm _⟩⟩)
          have vc5 := NA.of N5 (.head _)
          have z := PyProof.Rows.IntsAre.length hcw
          rw [Array.length_toList] at z
          try dsimp only
          first
          | refine ⟨_, _, _, rfl, ⟨_, _, _, l2 ++ [_], _, _, rfl, F5, rfl, rfl, vc5, (by rw [Array.toList_push]; exact hcw.append (.cons _ _ .nil)), (by rw [List.length_append, List.length_singleton]; lia), k15⟩, (by rw [Array.size_push, en]; lia)⟩
          | refine ⟨_, _, rfl, ⟨_, ca, _, _, l2 ++ [_], F5, rfl, vc5, (by rw [Array.toList_push]; exact hcw.append (.cons _ _ .nil)), (by rw [List.length_append, List.length_singleton]; lia), K5, fc, nit, nsl⟩, fCm ⟨fun o e => k15 _ _ e (nm2 hIL nit.symm), fCm ⟨fun o e => k15 _ _ e (nm2 vsl.2.1 nsl.symm), fNm _⟩⟩⟩
          | refine ⟨_, _, rfl, ⟨_, ca, _, _, l2, F5, rfl, vc5, hcw, hlw, K5, fc, nit, nsl⟩, fCm ⟨fun o e => k15 _ _ e (nm2 hIL nit.symm), fCm ⟨fun o e => k15 _ _ e (nm2 vsl.2.1 nsl.symm), fNm _⟩⟩⟩
end
theorem last_turn {w : World} {A : Around} {h : Heap} {g : Array GenState} {d : Drawn} {tt : Nat} {os : OsState} {base gg hb g0 : Heap} {outer : List Env} {mean : ExcName → Option Value} {mg mb : Str → Option Value} {L I stl dv tv cv : Addr} {m : Str → Option Value} {Q : Flow → Shared → Prop} {E : Value → Shared → Prop}
    {a : Adr} {sits : Array Value} {fs : List Addr} {xs ys : TX} {nets : List Int → List Int} {names : List Str} {cells : List Cell} {N : Nat}
    (Gd : Ground w A base outer mean mg mb gg) (hg0 : ∀ b, g0.get? b = none → gg.get? b = none) (hh : A.handled = none) (hun : A.units < 600) (hN : N < 9) (C0 : CC w base outer gg L hb I a dv tv cv stl sits fs) (F : Fr gg L h m) (mp : MPins m a dv tv cv stl)
    (C : CI w gg L hb h I a dv tv cv fs xs ys nets names cells N)
    (hQ : ∀ h' tk', JI w A base outer mean mg mb L hb I a dv tv cv stl sits fs g0 N h' → Kept [L] h h' → Q .next ⟨h', g, d, tk', os⟩) :
    wpAny (model PySem.Challenge.rw_sj0046_01.row.prog w) (A.deeper (caseEnv L)) (execs (caseRows.drop 7) (caseEnv L)) Q E ⟨h, g, d, tt, os⟩ := by
  have G8 := C0.gear _ C.kb
  refine hold fun gP kont => ?_
  obtain ⟨om8, kvs8, vM8, hM8, hMk8⟩ := C.five.M
  obtain ⟨its8, tn8, vT8, hT8⟩ := C.five.T
  obtain ⟨tc8, vnd8⟩ := C.five.nd
  obtain ⟨cs8, n8, vnc8, hnc8⟩ := C.five.nc
  obtain ⟨cv8, m8, vcv8, hcv8⟩ := C.five.cv
  obtain ⟨od8, vD8, tD8⟩ := C.D.at_
  obtain ⟨ov8, vV8, tV8⟩ := C.V.at_
  refine kont ?_
  clear kont gP
  exact last_ok (nets := nets) Gd.B Gd.X Gd.T hh (Nat.lt_trans hun (by decide)) F mp.netlist mp.cells mp.wires mp.taken mp.driven ⟨G8.nl, C0.own _ (.tail _ (.tail _ (.head _)))⟩ vnd8 ⟨G8.wr, C0.own _ (.head _)⟩ ⟨G8.wd, C0.own _ (.tail _ (.head _))⟩ vnc8 hnc8 vcv8 hcv8 C.ok.1 vM8 hM8 hMk8 vT8 hT8 (Nat.lt_of_le_of_lt C.sz.2.1 (Nat.lt_trans hN (by decide))) C.ok.2 vD8 tD8 vV8 tV8 C.ks C.D.ls3 C.V.ls3 ⟨G8.sys.1, G8.sys.2.1, C0.lo⟩
    fun h' tk' F' k' => hQ h' tk' ⟨⟨gg, _, _, _, _, _, _, Gd, hg0, C0, F', mp, C.kept F F' k'⟩⟩ k'
noncomputable abbrev pinsOf (m : Str → Option Value) (a : Adr) (dv tv cv stl : Addr) : Str → Option Value := fun y => if y = Str.ofString "wires" then some (.ref a.wr) else if y = Str.ofString "design" then some (.ref a.ds) else if y = Str.ofString "driven" then some (.ref dv) else if y = Str.ofString "starts" then some (.ref stl) else if y = Str.ofString "taken" then some (.ref tv) else if y = Str.ofString "cells" then some (.ref cv) else if y = Str.ofString "netlist" then some (.ref a.nl) else m y
theorem pinned {gg h : Heap} {L dv tv cv stl : Addr} {m : Str → Option Value} {a : Adr} (F : Fr gg L h m) (mp : MPins m a dv tv cv stl) : Fr gg L h (pinsOf m a dv tv cv stl) := pin (x := Str.ofString "wires") (pin (x := Str.ofString "design") (pin (x := Str.ofString "driven") (pin (x := Str.ofString "starts") (pin (x := Str.ofString "taken") (pin (x := Str.ofString "cells") (pin (x := Str.ofString "netlist") (F) mp.netlist) ((if_neg (by decide)).trans mp.cells)) ((if_neg (by decide)).trans ((if_neg (by decide)).trans mp.taken))) ((if_neg (by decide)).trans ((if_neg (by decide)).trans ((if_neg (by decide)).trans mp.starts)))) ((if_neg (by decide)).trans ((if_neg (by decide)).trans ((if_neg (by decide)).trans ((if_neg (by decide)).trans mp.driven))))) ((if_neg (by decide)).trans ((if_neg (by decide)).trans ((if_neg (by decide)).trans ((if_neg (by decide)).trans ((if_neg (by decide)).trans mp.design)))))) ((if_neg (by decide)).trans ((if_neg (by decide)).trans ((if_neg (by decide)).trans ((if_neg (by decide)).trans ((if_neg (by decide)).trans ((if_neg (by decide)).trans mp.wires))))))
set_option maxHeartbeats 16000000 in
theorem turn_net {w : World} {A : Around} {s : Shared} {base gg hb : Heap} {outer : List Env} {mean : ExcName → Option Value} {mg mb : Str → Option Value} {L I rl stl dv tv cv : Addr} {m : Str → Option Value} {Q : Flow → Shared → Prop} {E : Value → Shared → Prop}
    {a : Adr} {sits : Array Value} {fs : List Addr} {g0 : Heap} {xs ys : TX} {nets : List Int → List Int} {names : List Str} {cells : List Cell} {N : Nat} {h₁ : Heap} {tk₁ : Nat} {row : Addr} {rn r bit : Nat} {net : Int} {tr0 tr1 tr2 tr3 : Tok} {px : Pos}
    (XB : (Mine.hd.heap_39 w.params).In base) (TB : Top Mine.hd.view_39 (looseW Mine.hd.view_39 [Str.ofString "GateloomError"]) mean mg mb base)
    (B' : Below A base outer gg) (X' : (Mine.hd.heap_39 w.params).In gg) (T' : Top Mine.hd.view_39 (looseW Mine.hd.view_39 [Str.ofString "GateloomError"]) mean mg mb gg) (hroom : A.depth < 500) (hh : A.handled = none) (hun : A.units < 600)
    (hg0 : ∀ b, g0.get? b = none → gg.get? b = none) (C0 : CC w base outer gg L hb I a dv tv cv stl sits fs) (hN : N < 8) (C : CI w gg L hb h₁ I a dv tv cv fs xs ys nets names cells N) (F : Fr gg L h₁ m) (mp : MPins m a dv tv cv stl)
    (hrow : h₁.get? row = some { cls := .type "tuple", data := .seq #[.str (Str.ofString "net") tr0, .int r tr1, .int bit tr2, .int net tr3] rn }) (hrn : row ≠ L ∧ gg.get? row = none) (hr : r < 5) (hbit : bit < widthAt r)
    (hI : ∀ x ∈ [I, rl], (∃ o, hb.get? x = some o) ∧ x ∉ W0 L a dv tv cv) :
    Turn PySem.Challenge.rw_sj0046_01.row.prog w (A.deeper (caseEnv L)) (caseEnv L) (.Name (Str.ofString "row") px) caseRows Q E [I, rl] s (JI w A base outer mean mg mb L hb I a dv tv cv stl sits fs g0 (N + 1)) (.ref row) h₁ tk₁ := by
  refine hold fun gP kont => ?_
  obtain ⟨h, g, d, tt, os⟩ := s
  refine kont ?_
  clear kont gP
  unfold Turn caseEnv
  have hF := Hid.mk F
  have G := C0.gear _ C.kb
  have vwr : NA gg L h₁ a.wr _ := ⟨G.wr, C0.own _ (.head _)⟩
  have vwd : NA gg L h₁ a.wd _ := ⟨G.wd, C0.own _ (.tail _ (.head _))⟩
  have vnl : NA gg L h₁ a.nl _ := ⟨G.nl, C0.own _ (.tail _ (.tail _ (.head _)))⟩
  have vrow : NA gg L h₁ row _ := ⟨hrow, hrn⟩
  have F1 := pinned F mp
  clear F
  obtain ⟨rest, N, H⟩ := see F1 [(row, _)] (fCm ⟨vrow, fNm _⟩)
  try dsimp only [List.nil_append, List.cons_append] at N
  k_steps
  rename Fr _ _ _ _ => F2
  rename News _ _ _ _ => N2
  have k2 : Kept [L] h₁ _ := seen H F2 (fun q m => (N2 q (by repeat (first | exact m | refine List.Mem.tail _ ?_))).1)
  walk_at "q0"
  refine' wpAny_call (names_spec (B'.push F2) XB TB ?z1 ?_)
  case z1 => exact roomD hroom (by decide)
  intro h3 tk3 na k3 na0 hna
  refine hold fun gP kont => ?_
  obtain ⟨arr, pn, hpl, hsz, hat⟩ := hna
  obtain ⟨nl, nits, nm, hx, hnl, hnsz, hnat⟩ := hat r hr
  obtain ⟨tnm, hnb⟩ := hnat bit hbit
  refine kont ?_
  clear kont gP
  have F3 := led_kept k3 F2 (fNm _)
  have k3q : Kept [L] h₁ h3 := k2.trans k3.one
  clear F2 N2
  try dsimp only
  obtain ⟨rest, N, H⟩ := see F3 [(row, _)] (fCm ⟨vrow.kept k3q, fNm _⟩)
  try dsimp only [List.nil_append, List.cons_append] at N
  k_steps
  have hlA := listAt hpl
  walk_at "q0"
  refine' sub_any ?ht slot_list_getitem.lookup (wpAny_getItem_list hlA (Int.natCast_nonneg _) (by first | exact i63 (by with_reducible assumption) (Nat.le_of_ble_eq_true rfl) | exact i63 (Nat.lt_of_lt_of_le (by with_reducible assumption) (widthAt_le _)) (Nat.le_of_ble_eq_true rfl) | lia) (idx_nat hx) ?_) (by with_unfolding_all rfl)
  case ht => exact hlA.typeIs
  try dsimp only
  k_steps
  have hlB := listAt hnl
  have hw4 := widthAt_le r
  walk_at "q0"
  refine' sub_any ?ht slot_list_getitem.lookup (wpAny_getItem_list hlB (Int.natCast_nonneg _) (by first | exact i63 (by with_reducible assumption) (Nat.le_of_ble_eq_true rfl) | exact i63 (Nat.lt_of_lt_of_le (by with_reducible assumption) (widthAt_le _)) (Nat.le_of_ble_eq_true rfl) | lia) (idx_nat hnb) ?_) (by with_unfolding_all rfl)
  case ht => exact hlB.typeIs
  try dsimp only
  k_steps
  rename Fr _ _ _ _ => F4
  rename News _ _ _ _ => N4
  have k4 : Kept [L] h₁ _ := k3q.trans (seen H F4 (fun q m => (N4 q (by repeat (first | exact m | refine List.Mem.tail _ ?_))).1))
  have C4 := C.kept hF.get F4 k4
  have G4 := C0.gear _ C4.kb
  refine hold fun gP kont => ?_
  obtain ⟨om, kvs, vM, hM, hMk⟩ := C4.five.M
  obtain ⟨tcc, vnd⟩ := C4.five.nd
  obtain ⟨ncs, ncn, vnc, hnc⟩ := C4.five.nc
  refine kont ?_
  clear kont gP
  walk_at "q0"
  refine' wpAny_call (emitted_net (hb := hb) (nets := nets) (B'.push F4) XB TB ?z1 ?z2 ?z3 G4 (k4 _ _ hrow (nm1 hrn.1)) ((Own.fresh B' hrn.2).frame hrn.1) F4 C4.D (fun b n1 n2 => .inl ((Own.fresh B' n1).frame n2)) C4.live ⟨_, vM.1⟩ ⟨_, vnd.1⟩ ⟨_, vnc.1⟩ ?z4 ?z5 C4.ab ?z6 ?z7 (C0.ex _ (.tail _ (.head _))) ?_)
  case z1 => exact roomD hroom (by decide)
  case z2 => exact roomU hun (by decide)
  case z3 => exact hh
  case z4 => (have := C4.sz.1; lia)
  case z5 => exact fun k => (by have := C4.sz.2.2.2 k; lia)
  case z6 => exact C0.hwr
  case z7 => exact C0.hwd
  intro h5 tk5 xs5 Gr
  refine hold fun gP kont => ?_
  obtain ⟨S5, k5, s5, nt5, ex5, own5⟩ := Gr.ex
  have F5 := led_kept k5 F4 own5
  have hF5 := Hid.mk F5
  obtain ⟨kf5, V5, five5, live5⟩ := ci_grown C0 C4 Gr
  have off5 : ∀ {b : Addr}, (∃ o, hb.get? b = some o) → b ≠ a.D → b ∉ S5 := fun ⟨o, e⟩ n m => (s5 _ m).elim n fun q => (by rw [e] at q; cases q.1)
  have nrow5 : row ∉ S5 := fun m => nt5 _ m _ _ _ (k4 _ _ hrow (nm1 hrn.1)) rfl rfl
  have vrow5 : NA gg L h5 row _ := ⟨k5 _ _ (k4 _ _ hrow (nm1 hrn.1)) nrow5, hrn⟩
  clear N4
  obtain ⟨rest, N, H⟩ := see F5 [(row, _)] (fCm ⟨vrow5, fNm _⟩)
  refine kont ?_
  clear kont gP
  try dsimp only [List.nil_append, List.cons_append] at N
  try dsimp only
  k_steps
  obtain ⟨ov, vV, tV⟩ := V5.at_
  refine' get_meth (tV.dictOfH (fun _ _ e => e) vV.1) ?_
  have hu1 : ∀ env, (A.deeper env).units + 1 < cLine := hu_of hun (Nat.le_of_ble_eq_true rfl)
  try dsimp only
  k_steps
  rename Fr _ _ _ _ => F6
  rename News _ _ _ _ => N6
  have k6 : Kept [L] h5 _ := seen H F6 (fun q m => (N6 q (by repeat (first | exact m | refine List.Mem.tail _ ?_))).1)
  have nT5 : ∀ s ∈ [L], NonTup h5 s := fCm ⟨NonTup.fr hF5.get, fNm _⟩
  have V6 := V5.kept hF5.get k6
  obtain ⟨ov6, vV6, tV6⟩ := V6.at_
  refine' get_call (ks := [(r : Int), (bit : Int)]) (hu1 _) ?hky C0.lo (tV6.dictOfH (fun _ _ e => e) vV6.1) ?_
  case hky => first | exact key_is (w := w) (N6 _ (.head _)).1 | exact key_is (w := w) (N6 _ (.tail _ (.head _))).1
  intro tkg
  have hnl8 : ∀ k, (upd nets [(r : Int), (bit : Int)] (nets [(r : Int), (bit : Int)] ++ [net]) k).length ≤ N + 1 := fun k => by
    unfold upd
    split
    · rw [List.length_append]; have := C.sz.2.2.2 [(r : Int), (bit : Int)]; simp; lia
    · exact Nat.le_succ_of_le (C.sz.2.2.2 k)
  have hlenY : ys.length ≤ 100 := by
    have z := congrArg List.length C.ks
    rw [List.length_map, List.length_map] at z
    have := C.sz.1
    lia
  cases hy : atKey ys [(r : Int), (bit : Int)] with
  | none =>
    try dsimp only [Option.map_none, Option.getD_none]
    k_steps
    rename Fr _ _ _ _ => F7
    rename News _ _ _ _ => N7
    have k7 : Kept [L] h5 _ := seen H F7 (fun q m => (N7 q (by repeat (first | exact m | refine List.Mem.tail _ ?_))).1)
    have hnk : nets [(r : Int), (bit : Int)] = [] := C.ab _ (by rw [C.ks]; exact fun m => by obtain ⟨p, e⟩ := atKey_isSome.mpr m; rw [hy] at e; cases e)
    have k57 : Kept [L] h5 _ := k7
    have V7 := V5.kept hF5.get k57
    have live8 := live5
    walk_at "q0"
    refine' tab_set (hb := hb) (key := [(r : Int), (bit : Int)]) (nets' := upd nets [(r : Int), (bit : Int)] (nets [(r : Int), (bit : Int)] ++ [net])) F7 (hu1 _) V7 (key_is (w := w) (N7 _ (.head _)).1) (N7 _ (.tail _ (.head _))) ?hli (hb_none live5 ?hlb) (C0.at (i := 5) rfl) (V5.offn ?hnew) (fun k hk => by unfold upd; rw [if_neg hk]) hlenY ?_
    case hli => (unfold upd; rw [if_pos rfl, hnk]; exact .cons _ _ .nil)
    case hlb => first | exact fresh5 (Kept.refl [L] h5) H (N7 _ (.tail _ (.head _))).2.1 (N7 _ (.tail _ (.head _))).2.2 ((by assumption : AllLt _ rest)) | exact fresh5 (Kept.refl [L] h5) H (N7 _ (.tail _ (.head _))).2.1 (N7 _ (.tail _ (.head _))).2.2 ((by assumption : _ ∧ AllLt _ rest).2) | exact fresh5 (Kept.refl [L] h5) H (N7 _ (.tail _ (.head _))).2.1 (N7 _ (.tail _ (.head _))).2.2 ((by assumption : _ ∧ _ ∧ AllLt _ rest).2.2) | exact fresh5 (Kept.refl [L] h5) H (N7 _ (.tail _ (.head _))).2.1 (N7 _ (.tail _ (.head _))).2.2 ((by assumption : _ ∧ _ ∧ _ ∧ AllLt _ rest).2.2.2) | exact fresh5 (Kept.refl [L] h5) H (N7 _ (.tail _ (.head _))).2.1 (N7 _ (.tail _ (.head _))).2.2 ((by assumption : _ ∧ _ ∧ _ ∧ _ ∧ AllLt _ rest).2.2.2.2) | exact fresh5 (Kept.refl [L] h5) H (N7 _ (.tail _ (.head _))).2.1 (N7 _ (.tail _ (.head _))).2.2 ((by assumption : _ ∧ _ ∧ _ ∧ _ ∧ _ ∧ AllLt _ rest).2.2.2.2.2) | exact fresh5 (Kept.refl [L] h5) H (N7 _ (.tail _ (.head _))).2.1 (N7 _ (.tail _ (.head _))).2.2 ((by assumption : _ ∧ _ ∧ _ ∧ _ ∧ _ ∧ _ ∧ AllLt _ rest).2.2.2.2.2.2) | exact fresh5 (Kept.refl [L] h5) H (N7 _ (.tail _ (.head _))).2.1 (N7 _ (.tail _ (.head _))).2.2 ((by assumption : _ ∧ _ ∧ _ ∧ _ ∧ _ ∧ _ ∧ _ ∧ AllLt _ rest).2.2.2.2.2.2.2) | exact fresh5 (Kept.refl [L] h5) H (N7 _ (.tail _ (.head _))).2.1 (N7 _ (.tail _ (.head _))).2.2 ((by assumption : _ ∧ _ ∧ _ ∧ _ ∧ _ ∧ _ ∧ _ ∧ _ ∧ AllLt _ rest).2.2.2.2.2.2.2.2)
    case hnew => first | exact fresh5 (Kept.refl [L] h5) H (N7 _ (.tail _ (.head _))).2.1 (N7 _ (.tail _ (.head _))).2.2 ((by assumption : AllLt _ rest)) | exact fresh5 (Kept.refl [L] h5) H (N7 _ (.tail _ (.head _))).2.1 (N7 _ (.tail _ (.head _))).2.2 ((by assumption : _ ∧ AllLt _ rest).2) | exact fresh5 (Kept.refl [L] h5) H (N7 _ (.tail _ (.head _))).2.1 (N7 _ (.tail _ (.head _))).2.2 ((by assumption : _ ∧ _ ∧ AllLt _ rest).2.2) | exact fresh5 (Kept.refl [L] h5) H (N7 _ (.tail _ (.head _))).2.1 (N7 _ (.tail _ (.head _))).2.2 ((by assumption : _ ∧ _ ∧ _ ∧ AllLt _ rest).2.2.2) | exact fresh5 (Kept.refl [L] h5) H (N7 _ (.tail _ (.head _))).2.1 (N7 _ (.tail _ (.head _))).2.2 ((by assumption : _ ∧ _ ∧ _ ∧ _ ∧ AllLt _ rest).2.2.2.2) | exact fresh5 (Kept.refl [L] h5) H (N7 _ (.tail _ (.head _))).2.1 (N7 _ (.tail _ (.head _))).2.2 ((by assumption : _ ∧ _ ∧ _ ∧ _ ∧ _ ∧ AllLt _ rest).2.2.2.2.2) | exact fresh5 (Kept.refl [L] h5) H (N7 _ (.tail _ (.head _))).2.1 (N7 _ (.tail _ (.head _))).2.2 ((by assumption : _ ∧ _ ∧ _ ∧ _ ∧ _ ∧ _ ∧ AllLt _ rest).2.2.2.2.2.2) | exact fresh5 (Kept.refl [L] h5) H (N7 _ (.tail _ (.head _))).2.1 (N7 _ (.tail _ (.head _))).2.2 ((by assumption : _ ∧ _ ∧ _ ∧ _ ∧ _ ∧ _ ∧ _ ∧ AllLt _ rest).2.2.2.2.2.2.2) | exact fresh5 (Kept.refl [L] h5) H (N7 _ (.tail _ (.head _))).2.1 (N7 _ (.tail _ (.head _))).2.2 ((by assumption : _ ∧ _ ∧ _ ∧ _ ∧ _ ∧ _ ∧ _ ∧ _ ∧ AllLt _ rest).2.2.2.2.2.2.2.2)
    intro h8 tk8 ys8 k8 V8 ks8 vs8 F8
    refine hold fun gP kont => ?_
    obtain ⟨C8, kf8⟩ := ci_net C0 C4 Gr hF5.get F7 k57 k8 V8 ks8 vs8 (by first | exact fresh5 (Kept.refl [L] h5) H (N7 _ (.tail _ (.head _))).2.1 (N7 _ (.tail _ (.head _))).2.2 ((by assumption : AllLt _ rest)) | exact fresh5 (Kept.refl [L] h5) H (N7 _ (.tail _ (.head _))).2.1 (N7 _ (.tail _ (.head _))).2.2 ((by assumption : _ ∧ AllLt _ rest).2) | exact fresh5 (Kept.refl [L] h5) H (N7 _ (.tail _ (.head _))).2.1 (N7 _ (.tail _ (.head _))).2.2 ((by assumption : _ ∧ _ ∧ AllLt _ rest).2.2) | exact fresh5 (Kept.refl [L] h5) H (N7 _ (.tail _ (.head _))).2.1 (N7 _ (.tail _ (.head _))).2.2 ((by assumption : _ ∧ _ ∧ _ ∧ AllLt _ rest).2.2.2) | exact fresh5 (Kept.refl [L] h5) H (N7 _ (.tail _ (.head _))).2.1 (N7 _ (.tail _ (.head _))).2.2 ((by assumption : _ ∧ _ ∧ _ ∧ _ ∧ AllLt _ rest).2.2.2.2) | exact fresh5 (Kept.refl [L] h5) H (N7 _ (.tail _ (.head _))).2.1 (N7 _ (.tail _ (.head _))).2.2 ((by assumption : _ ∧ _ ∧ _ ∧ _ ∧ _ ∧ AllLt _ rest).2.2.2.2.2) | exact fresh5 (Kept.refl [L] h5) H (N7 _ (.tail _ (.head _))).2.1 (N7 _ (.tail _ (.head _))).2.2 ((by assumption : _ ∧ _ ∧ _ ∧ _ ∧ _ ∧ _ ∧ AllLt _ rest).2.2.2.2.2.2) | exact fresh5 (Kept.refl [L] h5) H (N7 _ (.tail _ (.head _))).2.1 (N7 _ (.tail _ (.head _))).2.2 ((by assumption : _ ∧ _ ∧ _ ∧ _ ∧ _ ∧ _ ∧ _ ∧ AllLt _ rest).2.2.2.2.2.2.2) | exact fresh5 (Kept.refl [L] h5) H (N7 _ (.tail _ (.head _))).2.1 (N7 _ (.tail _ (.head _))).2.2 ((by assumption : _ ∧ _ ∧ _ ∧ _ ∧ _ ∧ _ ∧ _ ∧ _ ∧ AllLt _ rest).2.2.2.2.2.2.2.2)) hr hbit (fun k hk => by unfold upd; rw [if_neg hk]) hnl8
    refine kont ?_
    clear kont gP
    try dsimp only
    walk_at "q0"
    repeat ((fail_if_success (with_reducible show wpAny _ _ (execs (Stmt.If (Expr.BoolOp BoolOp.Or _ _) _ _ _ :: _) _) _ _ _)); (fail_if_success (with_reducible show wpAny _ _ (subscriptTail _ _ (Value.ref _) (Value.int (Nat.cast _) _)) _ _ _)); (fail_if_success (with_reducible show wpAny _ _ (compareOp CmpOp.In _ (Value.ref _)) _ _ _)); (fail_if_success (with_reducible show wpAny _ _ (call (Value.ref _) _) _ _ _)); walk_at "q2")
    refine' last_turn ⟨B', X', T'⟩ hg0 hh hun (Nat.succ_lt_succ hN) C0 F8 ⟨rfl, rfl, rfl, rfl, rfl, rfl, rfl⟩ C8 ?_
    intro h9 tk9 j9 k9
    try dsimp only
    refine ⟨_, _, rfl, j9, fun b m o e => ?_⟩
    have kfL : KF hb (W0 L a dv tv cv) h8 h9 := k9.kf (fCm ⟨.inl (.head _), fNm _⟩)
    have kf4 : KF hb (W0 L a dv tv cv) h₁ _ := k4.kf (fCm ⟨.inl (.head _), fNm _⟩)
    exact kfL b o (kf8 b o (kf4 b o e (hI b m).2 (hI b m).1) (hI b m).2 (hI b m).1) (hI b m).2 (hI b m).1
  | some p =>
    try dsimp only [Option.map_some, Option.getD_some]
    refine hold fun gP kont => ?_
    obtain ⟨lb, li, ln, hlb, vlb, hli, hlbn⟩ := V6.ls _ (atKey_some hy)
    refine kont ?_
    clear kont gP
    have hlb : p.2 = .ref lb := hlb
    rw [hlb]
    clear N6
    obtain ⟨rest, N, H⟩ := see F6 [(lb, _), (row, _)] (fCm ⟨vlb, fCm ⟨vrow5.kept k6, fNm _⟩⟩)
    try dsimp only [List.nil_append, List.cons_append] at N
    walk_at "q0"
    repeat ((fail_if_success (with_reducible show wpAny _ _ (subscriptTail _ _ (Value.ref _) (Value.int (Nat.cast _) _)) _ _ _)); (fail_if_success (with_reducible show wpAny _ _ (compareOp CmpOp.In _ (Value.ref _)) _ _ _)); (fail_if_success (with_reducible show wpAny _ _ (call (Value.ref _) _) _ _ _)); (fail_if_success (with_reducible show wpAny _ _ (binaryOp _ (Value.ref _) (Value.ref _)) _ _ _)); walk_at "q2")
    rename Fr _ _ _ _ => F7
    rename News _ _ _ _ => N7
    have hli7 : li.size ≤ 100 := by
      have z : li.toList.length = (nets [(r : Int), (bit : Int)]).length := PyProof.Rows.IntsAre.length hli
      have z2 := C.sz.2.2.2 [(r : Int), (bit : Int)]
      rw [Array.length_toList] at z
      lia
    refine' kmk_add_lit F7 N7 ?ha ?hb rfl ?_ ?hz
    case ha => first | exact listAt (N7 _ (.tail _ (.head _))).1 | exact listAt (N7 _ (.tail _ (.tail _ (.head _)))).1
    case hb => exact listAt (N7 _ (.head _)).1
    case hz => (rw [Array.length_toList, sizeLine_eq]; show li.size + 1 ≤ _; lia)
    intro D8 h8 F8 N8 l8
    k_lt l8
    try dsimp only
    k_steps
    rename Fr _ _ _ _ => F7
    rename News _ _ _ _ => N7
    have k67 : Kept [L] _ _ := seen H F7 (fun q m => (N7 q (by repeat (first | exact m | refine List.Mem.tail _ ?_))).1)
    have k57 : Kept [L] h5 _ := k6.trans k67
    have V7 := V5.kept hF5.get k57
    have live8 := live5
    walk_at "q0"
    refine' tab_set (hb := hb) (key := [(r : Int), (bit : Int)]) (nets' := upd nets [(r : Int), (bit : Int)] (nets [(r : Int), (bit : Int)] ++ [net])) F7 (hu1 _) V7 (key_is (w := w) (N7 _ (.head _)).1) (N7 _ (.tail _ (.head _))) ?hli (hb_none live5 ?hlb) (C0.at (i := 5) rfl) (V5.offn ?hnew) (fun k hk => by unfold upd; rw [if_neg hk]) hlenY ?_
    case hli => (unfold upd; rw [if_pos rfl]; simp only [List.append_eq]; exact ints_snoc hli)
    case hlb => first | exact fresh5 k6 H (N7 _ (.tail _ (.head _))).2.1 (N7 _ (.tail _ (.head _))).2.2 ((by assumption : AllLt _ rest)) | exact fresh5 k6 H (N7 _ (.tail _ (.head _))).2.1 (N7 _ (.tail _ (.head _))).2.2 ((by assumption : _ ∧ AllLt _ rest).2) | exact fresh5 k6 H (N7 _ (.tail _ (.head _))).2.1 (N7 _ (.tail _ (.head _))).2.2 ((by assumption : _ ∧ _ ∧ AllLt _ rest).2.2) | exact fresh5 k6 H (N7 _ (.tail _ (.head _))).2.1 (N7 _ (.tail _ (.head _))).2.2 ((by assumption : _ ∧ _ ∧ _ ∧ AllLt _ rest).2.2.2) | exact fresh5 k6 H (N7 _ (.tail _ (.head _))).2.1 (N7 _ (.tail _ (.head _))).2.2 ((by assumption : _ ∧ _ ∧ _ ∧ _ ∧ AllLt _ rest).2.2.2.2) | exact fresh5 k6 H (N7 _ (.tail _ (.head _))).2.1 (N7 _ (.tail _ (.head _))).2.2 ((by assumption : _ ∧ _ ∧ _ ∧ _ ∧ _ ∧ AllLt _ rest).2.2.2.2.2) | exact fresh5 k6 H (N7 _ (.tail _ (.head _))).2.1 (N7 _ (.tail _ (.head _))).2.2 ((by assumption : _ ∧ _ ∧ _ ∧ _ ∧ _ ∧ _ ∧ AllLt _ rest).2.2.2.2.2.2) | exact fresh5 k6 H (N7 _ (.tail _ (.head _))).2.1 (N7 _ (.tail _ (.head _))).2.2 ((by assumption : _ ∧ _ ∧ _ ∧ _ ∧ _ ∧ _ ∧ _ ∧ AllLt _ rest).2.2.2.2.2.2.2) | exact fresh5 k6 H (N7 _ (.tail _ (.head _))).2.1 (N7 _ (.tail _ (.head _))).2.2 ((by assumption : _ ∧ _ ∧ _ ∧ _ ∧ _ ∧ _ ∧ _ ∧ _ ∧ AllLt _ rest).2.2.2.2.2.2.2.2)
    case hnew => first | exact fresh5 k6 H (N7 _ (.tail _ (.head _))).2.1 (N7 _ (.tail _ (.head _))).2.2 ((by assumption : AllLt _ rest)) | exact fresh5 k6 H (N7 _ (.tail _ (.head _))).2.1 (N7 _ (.tail _ (.head _))).2.2 ((by assumption : _ ∧ AllLt _ rest).2) | exact fresh5 k6 H (N7 _ (.tail _ (.head _))).2.1 (N7 _ (.tail _ (.head _))).2.2 ((by assumption : _ ∧ _ ∧ AllLt _ rest).2.2) | exact fresh5 k6 H (N7 _ (.tail _ (.head _))).2.1 (N7 _ (.tail _ (.head _))).2.2 ((by assumption : _ ∧ _ ∧ _ ∧ AllLt _ rest).2.2.2) | exact fresh5 k6 H (N7 _ (.tail _ (.head _))).2.1 (N7 _ (.tail _ (.head _))).2.2 ((by assumption : _ ∧ _ ∧ _ ∧ _ ∧ AllLt _ rest).2.2.2.2) | exact fresh5 k6 H (N7 _ (.tail _ (.head _))).2.1 (N7 _ (.tail _ (.head _))).2.2 ((by assumption : _ ∧ _ ∧ _ ∧ _ ∧ _ ∧ AllLt _ rest).2.2.2.2.2) | exact fresh5 k6 H (N7 _ (.tail _ (.head _))).2.1 (N7 _ (.tail _ (.head _))).2.2 ((by assumption : _ ∧ _ ∧ _ ∧ _ ∧ _ ∧ _ ∧ AllLt _ rest).2.2.2.2.2.2) | exact fresh5 k6 H (N7 _ (.tail _ (.head _))).2.1 (N7 _ (.tail _ (.head _))).2.2 ((by assumption : _ ∧ _ ∧ _ ∧ _ ∧ _ ∧ _ ∧ _ ∧ AllLt _ rest).2.2.2.2.2.2.2) | exact fresh5 k6 H (N7 _ (.tail _ (.head _))).2.1 (N7 _ (.tail _ (.head _))).2.2 ((by assumption : _ ∧ _ ∧ _ ∧ _ ∧ _ ∧ _ ∧ _ ∧ _ ∧ AllLt _ rest).2.2.2.2.2.2.2.2)
    intro h8 tk8 ys8 k8 V8 ks8 vs8 F8
    refine hold fun gP kont => ?_
    obtain ⟨C8, kf8⟩ := ci_net C0 C4 Gr hF5.get F7 k57 k8 V8 ks8 vs8 (by first | exact fresh5 k6 H (N7 _ (.tail _ (.head _))).2.1 (N7 _ (.tail _ (.head _))).2.2 ((by assumption : AllLt _ rest)) | exact fresh5 k6 H (N7 _ (.tail _ (.head _))).2.1 (N7 _ (.tail _ (.head _))).2.2 ((by assumption : _ ∧ AllLt _ rest).2) | exact fresh5 k6 H (N7 _ (.tail _ (.head _))).2.1 (N7 _ (.tail _ (.head _))).2.2 ((by assumption : _ ∧ _ ∧ AllLt _ rest).2.2) | exact fresh5 k6 H (N7 _ (.tail _ (.head _))).2.1 (N7 _ (.tail _ (.head _))).2.2 ((by assumption : _ ∧ _ ∧ _ ∧ AllLt _ rest).2.2.2) | exact fresh5 k6 H (N7 _ (.tail _ (.head _))).2.1 (N7 _ (.tail _ (.head _))).2.2 ((by assumption : _ ∧ _ ∧ _ ∧ _ ∧ AllLt _ rest).2.2.2.2) | exact fresh5 k6 H (N7 _ (.tail _ (.head _))).2.1 (N7 _ (.tail _ (.head _))).2.2 ((by assumption : _ ∧ _ ∧ _ ∧ _ ∧ _ ∧ AllLt _ rest).2.2.2.2.2) | exact fresh5 k6 H (N7 _ (.tail _ (.head _))).2.1 (N7 _ (.tail _ (.head _))).2.2 ((by assumption : _ ∧ _ ∧ _ ∧ _ ∧ _ ∧ _ ∧ AllLt _ rest).2.2.2.2.2.2) | exact fresh5 k6 H (N7 _ (.tail _ (.head _))).2.1 (N7 _ (.tail _ (.head _))).2.2 ((by assumption : _ ∧ _ ∧ _ ∧ _ ∧ _ ∧ _ ∧ _ ∧ AllLt _ rest).2.2.2.2.2.2.2) | exact fresh5 k6 H (N7 _ (.tail _ (.head _))).2.1 (N7 _ (.tail _ (.head _))).2.2 ((by assumption : _ ∧ _ ∧ _ ∧ _ ∧ _ ∧ _ ∧ _ ∧ _ ∧ AllLt _ rest).2.2.2.2.2.2.2.2)) hr hbit (fun k hk => by unfold upd; rw [if_neg hk]) hnl8
    refine kont ?_
    clear kont gP
    try dsimp only
    walk_at "q0"
    repeat ((fail_if_success (with_reducible show wpAny _ _ (execs (Stmt.If (Expr.BoolOp BoolOp.Or _ _) _ _ _ :: _) _) _ _ _)); (fail_if_success (with_reducible show wpAny _ _ (subscriptTail _ _ (Value.ref _) (Value.int (Nat.cast _) _)) _ _ _)); (fail_if_success (with_reducible show wpAny _ _ (compareOp CmpOp.In _ (Value.ref _)) _ _ _)); (fail_if_success (with_reducible show wpAny _ _ (call (Value.ref _) _) _ _ _)); walk_at "q2")
    refine' last_turn ⟨B', X', T'⟩ hg0 hh hun (Nat.succ_lt_succ hN) C0 F8 ⟨rfl, rfl, rfl, rfl, rfl, rfl, rfl⟩ C8 ?_
    intro h9 tk9 j9 k9
    try dsimp only
    refine ⟨_, _, rfl, j9, fun b m o e => ?_⟩
    have kfL : KF hb (W0 L a dv tv cv) h8 h9 := k9.kf (fCm ⟨.inl (.head _), fNm _⟩)
    have kf4 : KF hb (W0 L a dv tv cv) h₁ _ := k4.kf (fCm ⟨.inl (.head _), fNm _⟩)
    exact kfL b o (kf8 b o (kf4 b o e (hI b m).2 (hI b m).1) (hI b m).2 (hI b m).1) (hI b m).2 (hI b m).1
section
local macro_rules | `(tactic| k_all) => `(tactic| assumption)
set_option maxHeartbeats 16000000 in
theorem turn_raised {w : World} {A : Around} {h : Heap} {g : Array GenState} {d : Drawn} {tt : Nat} {os : OsState} {base gg hb g0 : Heap} {outer : List Env} {mean : ExcName → Option Value} {mg mb : Str → Option Value} {L I stl dv tv cv : Addr} {m : Str → Option Value} {Q : Flow → Shared → Prop} {E : Value → Shared → Prop}
    {a : Adr} {sits : Array Value} {xs ys : TX} {nets : List Int → List Int} {names : List Str} {cells : List Cell} {N : Nat} {row due : Addr} {dn r : Nat} {kd dt : Str} {u1 u2 u3 : Tok}
    (XB : (Mine.hd.heap_39 w.params).In base) (TB : Top Mine.hd.view_39 (looseW Mine.hd.view_39 [Str.ofString "GateloomError"]) mean mg mb base)
    (Gd : Ground w A base outer mean mg mb gg) (hroom : A.depth < 500) (hh : A.handled = none) (hun : A.units < 600)
    (hg0 : ∀ b, g0.get? b = none → gg.get? b = none) (C0 : CC w base outer gg L hb I a dv tv cv stl sits (outer.filterMap (·.frame))) (hN : N < 8) (C : CI w gg L hb h I a dv tv cv (outer.filterMap (·.frame)) xs ys nets names cells N) (F : Fr gg L h m) (mp : MPins m a dv tv cv stl)
    (mrow : m (Str.ofString "row") = some (.ref row)) (mdue : m (Str.ofString "due") = some (.ref due)) (vdue : NA gg L h due { cls := .type "tuple", data := .seq #[.str kd u1, .int (20 + r) u2, .str dt u3] dn }) (okk : PyData.strOk kd = true) (okd : PyData.strOk dt = true)
    (hem : ∀ (A' : Around) (s' : Shared) (outer' : List Env) (R' : Result → Shared → Prop), Below A' base outer' s'.heap → A'.depth < 650 → A'.units < 800 → A'.handled = none → Kept [] h s'.heap → (∀ x o, h.get? x = some o → Own base (caseEnv L :: outer) x → Own base outer' x) →
      (∀ h' tk' e dx es, EsOf w.params kd dt (20 + r) es → Thrown s'.heap h' outer' e dx 52 es 3 → R' (.error (.ref e)) { s' with heap := h', toks := tk' }) →
      codeAny (model PySem.Challenge.rw_sj0046_01.row.prog w) A' (.call (.ref 110) ⟨[.ref a.wr, .ref a.nl, .ref a.ds, .ref row], []⟩) R' s')
    (hQ : ∀ h' tk', JI w A base outer mean mg mb L hb I a dv tv cv stl sits (outer.filterMap (·.frame)) g0 (N + 1) h' → KF hb (outer.filterMap (·.frame) ++ W0 L a dv tv cv) h h' → Q .next ⟨h', g, d, tk', os⟩) :
    wpAny (model PySem.Challenge.rw_sj0046_01.row.prog w) (A.deeper (caseEnv L)) (execs (caseRows.drop 5) (caseEnv L)) Q E ⟨h, g, d, tt, os⟩ := by
  unfold caseEnv
  have B' := Gd.B
  have X' := Gd.X
  have T' := Gd.T
  have hu64 : ∀ env, (A.deeper env).units + 64 < cLine := hu_of hun (Nat.le_of_ble_eq_true rfl)
  have F1 := pin (x := Str.ofString "due") (pin (x := Str.ofString "row") (pinned F mp) mrow) mdue
  have hF := Hid.mk F1
  clear F
  obtain ⟨rest, N, H⟩ := see F1 [(due, _)] (fCm ⟨vdue, fNm _⟩)
  try dsimp only [List.nil_append, List.cons_append] at N
  k_steps
  rename Fr _ _ _ _ => F7
  rename News _ _ _ _ => N7
  have k7 : Kept [L] h _ := seen H F7 (fun q m => (N7 q (by repeat (first | exact m | refine List.Mem.tail _ ?_))).1)
  have C7 := C.kept hF.get F7 k7
  walk_at "q0"
  refine' wpAny_call (emitted_raise (kd := kd) (dt := dt) (at_ := 20 + r) (B'.push F7) XB TB ?z1 ?z2 ?z3 hem ?_)
  case z1 => exact roomD hroom (by decide)
  case z2 => exact roomU hun (by decide)
  case z3 => exact hh
  intro h8 tk8 tp t1 t2 t3 q1 q2 tp0 etp
  refine hold fun gP kont => ?_
  obtain ⟨gg8, Gd8, nn8, F8, C08, C8, na8, kf8, u8⟩ := ground_turn XB TB Gd F7 q1 q2 C0 C7
  have hF8g := Hid.mk F8
  have tpL : tp ≠ L := fr_ne F7 tp0
  have vdue8 := na8 _ _ (vdue.kept k7)
  clear F7 N7
  obtain ⟨rest, N, H⟩ := see F8 [(due, _)] (fCm ⟨vdue8, fNm _⟩)
  have B8 := Gd8.B
  have X8 := Gd8.X
  have T8 := Gd8.T
  refine kont ?_
  clear kont gP
  try dsimp only [List.nil_append, List.cons_append] at N
  try dsimp only
  k_steps
  rename Fr _ _ _ _ => F9
  rename News _ _ _ _ => N9
  have k9 : Kept [L] h8 _ := seen H F9 (fun q m => (N9 q (by repeat (first | exact m | refine List.Mem.tail _ ?_))).1)
  refine' data_ne (err_reads (k9 _ _ etp (nm1 tpL))) (err_reads (vdue8.kept k9).1) (err_shaped okk okd) (hu64 _) ?_
  try dsimp only
  walk_at "q0"
  repeat ((fail_if_success (with_reducible show wpAny _ _ (execs (Stmt.If (Expr.BoolOp BoolOp.Or _ _) _ _ _ :: _) _) _ _ _)); (fail_if_success (with_reducible show wpAny _ _ (subscriptTail _ _ (Value.ref _) (Value.int (Nat.cast _) _)) _ _ _)); (fail_if_success (with_reducible show wpAny _ _ (compareOp CmpOp.In _ (Value.ref _)) _ _ _)); (fail_if_success (with_reducible show wpAny _ _ (call (Value.ref _) _) _ _ _)); walk_at "q2")
  rename Fr _ _ _ _ => F10
  rename News _ _ _ _ => N10
  have k10 : Kept [L] h8 _ := seen H F10 (fun q m => (N10 q (by repeat (first | exact m | refine List.Mem.tail _ ?_))).1)
  have C10 := C8.kept hF8g.get F10 k10
  have kf10 : KF hb (outer.filterMap (·.frame) ++ W0 L a dv tv cv) h _ := ((keptL_kf k7).trans kf8).trans (keptL_kf k10)
  clear N10
  refine' last_turn Gd8 (fun b q => nn8 b (hg0 b q)) hh hun (Nat.succ_lt_succ hN) C08 F10 ⟨rfl, rfl, rfl, rfl, rfl, rfl, rfl⟩ C10.succ ?_
  intro hZ tkZ jZ kZ
  exact hQ _ _ jZ (kf10.trans (keptL_kf kZ))
end
section
local macro_rules | `(tactic| walk_at "subscriptTail") => `(tactic| walk_at "sT")
set_option maxHeartbeats 4000000 in
theorem emit_dup_any {w : World} {A : Around} {s : Shared} {base : Heap} {outer : List Env} {mean : ExcName → Option Value} {mg mb : Str → Option Value} {R : Result → Shared → Prop}
    {a : Adr} {row : Addr} {rn : Nat} {r bit : Nat} {kd : Str} {rits : Array Value} {tr0 tr1 tr2 : Tok} {od : Obj} {xs : TX} {om : Obj} {kvs : List (Str × Value)}
    (B : Below A base outer s.heap) (XB : (Mine.hd.heap_39 w.params).In base) (TB : Top Mine.hd.view_39 (looseW Mine.hd.view_39 [Str.ofString "GateloomError"]) mean mg mb base) (hroom : A.depth < 650) (hun : A.units < 800) (hh : A.handled = none)
    (G : Gear w base outer s.heap a) (hrow : s.heap.get? row = some { cls := .type "tuple", data := .seq rits rn }) (hkd : (kd == Str.ofString "net") = false) (hi0 : rits[(0 : Int).toNat]? = some (.str kd tr0)) (hi1 : rits[(1 : Int).toNat]? = some (.int r tr1)) (hi2 : rits[(2 : Int).toNat]? = some (.int bit tr2)) (orow : Own base outer row)
    (hD : s.heap.get? a.D = some od) (hT : TabObj w s.heap od xs) (hr : r < 4) (hbit : bit < widthAt r) (hno : atKey xs [(r : Int), (bit : Int)] = none)
    (hM : s.heap.get? a.M = some om) (hN : DObj (SK w) om kvs) (hin : (valueAt kvs (Str.ofString (nameAt r bit))).isSome = true)
    (hR : ∀ h' tk' e dx es, EsOf w.params (Str.ofString "duplicate_state") (Str.ofString (nameAt r bit)) (20 + r) es → Thrown s.heap h' outer e dx 52 es 3 → R (.error (.ref e)) { s with heap := h', toks := tk' }) :
    codeAny (model PySem.Challenge.rw_sj0046_01.row.prog w) A (.call (.ref 110) ⟨[.ref a.wr, .ref a.nl, .ref a.ds, .ref row], []⟩) R s := by
  refine hold fun gP kont => ?_
  obtain ⟨h, g, d, tt, os⟩ := s
  obtain ⟨wr, wd, D, I, M, nl, nd, nc, ds, dd, sl, tw, tn, td, vw, vn, vd, its, sn, st⟩ := a
  obtain ⟨gwr, gwd, gnl, gds, gdd, gsl, gsig, gini, owr, owd, onl, ods, odd, oD, oM, ond, onc, n_wr_wd, n_wr_nl, n_wr_D, n_wr_M, n_wr_nd, n_wr_nc, n_wd_nl, n_wd_D, n_wd_M, n_wd_nd, n_wd_nc, n_nl_D, n_nl_M, n_nl_nd, n_nl_nc, n_D_M, n_D_nd, n_D_nc, n_M_nd, n_M_nc, n_nd_nc, n_I_M, n_dd_D, n_dd_M, n_dd_nd, ⟨sD, sM, sI⟩⟩ := G
  try dsimp only at *
  have X₁ : (Mine.hd.heap_39 w.params).In h := XB.keeps B.stays
  have hu1 : ∀ env, (A.deeper env).units + 1 < cLine := hu_of hun (Nat.le_of_ble_eq_true rfl)
  obtain ⟨sg, sd, ts, us, hsx, hsg, hsd0, osg, osd⟩ := gsig r (Nat.lt_succ_of_lt hr)
  obtain ⟨kd1, wi1, sg1, ms1, ls1, fi1, la1, hsde⟩ := sdAt_is r (Nat.lt_succ_of_lt hr) w.params ts us
  refine kont ?_
  clear kont gP
  have hsd : h.get? sd = some (sdOf w.params ts us r (pathAt r) kd1 wi1 sg1 ms1 ls1 fi1 la1 (20 + r)) := hsd0.trans (congrArg some hsde)
  have hq1 : ∀ q ∈ [((row, { cls := .type "tuple", data := .seq rits rn }) : Addr × Obj), ((D, od) : Addr × Obj), ((wr, instObj 85 wd) : Addr × Obj), ((wd, wdOf w.params tw vw D I M) : Addr × Obj), ((ds, instObj 239 dd) : Addr × Obj), ((dd, ddOf w.params td vd sl) : Addr × Obj), ((sg, instObj 176 sd) : Addr × Obj), ((sd, sdOf w.params ts us r (pathAt r) kd1 wi1 sg1 ms1 ls1 fi1 la1 (20 + r)) : Addr × Obj)], h.get? q.1 = some q.2 := fCm ⟨hrow, fCm ⟨hD, fCm ⟨gwr, fCm ⟨gwd, fCm ⟨gds, fCm ⟨gdd, fCm ⟨hsg, fCm ⟨hsd, fNm _⟩⟩⟩⟩⟩⟩⟩⟩
  refine' enter (binds := [(Str.ofString "wires", .ref wr), (Str.ofString "netlist", .ref nl), (Str.ofString "design", .ref ds), (Str.ofString "row", .ref row)]) [(row, { cls := .type "tuple", data := .seq rits rn }), (D, od), (wr, instObj 85 wd), (wd, wdOf w.params tw vw D I M), (ds, instObj 239 dd), (dd, ddOf w.params td vd sl), (sg, instObj 176 sd), (sd, sdOf w.params ts us r (pathAt r) kd1 wi1 sg1 ms1 ls1 fi1 la1 (20 + r))] B XB TB ?q1 ?q2 ?q3 ?k6 ?k7 ?k8 ?k9 ?kB ?_ ?c2 ?c3 ?c4 ?c5
  case k8 => exact Nat.lt_of_lt_of_le hroom (by decide)
  tb_start
  case q1 => exact hq1
  case q2 => exact fCm ⟨orow.1, fCm ⟨oD.1, fCm ⟨owr.1, fCm ⟨owd.1, fCm ⟨ods.1, fCm ⟨odd.1, fCm ⟨osg.1, fCm ⟨osd.1, fNm _⟩⟩⟩⟩⟩⟩⟩⟩
  case q3 => exact fun env hm => fCm ⟨orow.2 env hm, fCm ⟨oD.2 env hm, fCm ⟨owr.2 env hm, fCm ⟨owd.2 env hm, fCm ⟨ods.2 env hm, fCm ⟨odd.2 env hm, fCm ⟨osg.2 env hm, fCm ⟨osd.2 env hm, fNm _⟩⟩⟩⟩⟩⟩⟩⟩
  intro gg L h₁ hg1 hg2 hL F N B' X' T'
  try dsimp only
  k_steps
  try dsimp only
  rename Fr _ _ _ _ => F1
  rename News _ _ _ _ => N1
  have kk1 := kept_all hg1 F1.keep N1 hq1 fun q hq => .tail _ hq
  have hl1 := listAt (kk1.get gsl)
  walk_at "q0"
  refine' sub_any ?ht slot_list_getitem.lookup (wpAny_getItem_list ?hl (Int.natCast_nonneg _) (by first | exact i63 (by with_reducible assumption) (Nat.le_of_ble_eq_true rfl) | exact i63 (Nat.lt_of_lt_of_le (by with_reducible assumption) (widthAt_le _)) (Nat.le_of_ble_eq_true rfl) | lia) (idx_nat hsx) ?_) (by with_unfolding_all rfl)
  case ht => exact hl1.typeIs
  case hl => exact hl1
  try dsimp only
  k_steps
  try dsimp only
  rename Fr _ _ _ _ => F2
  rename News _ _ _ _ => N2
  have kk2 := kept_all hg1 F2.keep N2 hq1 fun q hq => .tail _ (.tail _ hq)
  have hk2 := key_is (w := w) (N2 _ (.head _)).1
  have hd2 := (hT.kept kk2).dictOfH (fun _ _ e => e) (kk2.get hD)
  walk_at "q0"
  refine' wpAny_in_heap (tupleKind_room_in1 (hu1 _)) hk2 sD hd2 ?_
  rw [hno, show (none : Option (Addr × Value)).isSome = false from rfl]
  try dsimp only
  k_steps
  walk_at "q0"
  refine' wpAny_call (sname_spec (B'.push F2) XB TB ?z1 hr (kk2.get hsg) ?z3 ?z4 ?z5 hbit ?_)
  case z1 => exact roomD hroom (by decide)
  case z3 => exact kk2.get hsd0
  case z4 => exact osg.frame (by rw [hL]; exact Nat.ne_of_lt (Heap.lt_size hsg))
  case z5 => exact osd.frame (by rw [hL]; exact Nat.ne_of_lt (Heap.lt_size hsd))
  intro h3 tk3 tr3' kk3
  have F3 := F2.kept fun b o q => kk3.get q
  have N3 := led_grow N2 fun b o q => kk3.get q
  clear F2 N2
  try dsimp only
  k_steps
  try dsimp only
  rename Fr _ _ _ _ => F4
  rename News _ _ _ _ => N4
  have kk4 := kept_all hg1 F4.keep N4 hq1 fun q hq => .tail _ (.tail _ hq)
  walk_at "q0"
  refine' wpAny_in_of (knd := SK w) (k := Str.ofString (nameAt r bit)) ?i1 sM (hN.at (kk4.get hM)).mapOf ?_
  case i1 => exact strKind_is _ _ _ _
  rw [hin]
  try dsimp only
  k_steps
  refine hold fun gP kont => ?_
  obtain ⟨cnm, cq, cN, cbs, cbm, chdct, csn, csub, cab, ccol, cdd, c0, c1, c2, c3, c5, cnew, hC, hbase, hbT⟩ := kts_cls X' (show ktsIn (Mine.hd.heap_39 w.params) 52 "BaseException" = true by kts_isx)
  refine kont ?_
  clear kont gP
  refine' x_Raise (C := 52) (nm := cnm) (q := cq) (N := cN) (bs := cbs) (bm := cbm) (hdct := chdct) (sn := csn) (sub := csub) (ab := cab) (col := ccol) (dd := cdd) (k0 := c0) (k1 := c1) (k2 := c2) (k3 := c3) (k5 := c5) (newId := cnew) hbT hh ?_
  k_steps
  rename Fr _ _ _ _ => F5
  rename News _ _ _ _ => N5
  have kk5 := kept_all hg1 F5.keep N5 hq1 fun q hq => .tail _ (.tail _ hq)
  refine' synth_spec (B'.push F5) XB TB ?r ?_
  case r => exact roomD hroom (by decide)
  intro h' tk e dx tp u1 u2 u3 hk hn1 hn2 hn3 hne ho hd
  refine ⟨e, some dx, _, _, rfl, hk.get (F5.keep _ _ hC), ho, rfl, ?_⟩
  refine' x_thrown (G := h) (kk5.trans hk) (F5.kept fun b o q => hk.get q) B' hg2 ho rfl hd hne (fr_ne F5 hn2) ?y1 (kk5.none_ hn1) (kk5.none_ hn2) ?_
  case y1 => exact Heap.get?_none_of_le (Nat.le_of_eq hL.symm)
  exact fun h6 T => hR h6 _ e dx _ ⟨u1, _, u2, _, u3, _, rfl⟩ T
theorem emit_dup_flop {w : World} {A : Around} {s : Shared} {base : Heap} {outer : List Env} {mean : ExcName → Option Value} {mg mb : Str → Option Value} {R : Result → Shared → Prop}
    {a : Adr} {row pins : Addr} {rn : Nat} {r bit : Nat} {inv : Int} {tr0 tr1 tr2 tr3 : Tok} {od : Obj} {xs : TX} {om : Obj} {kvs : List (Str × Value)}
    (B : Below A base outer s.heap) (XB : (Mine.hd.heap_39 w.params).In base) (TB : Top Mine.hd.view_39 (looseW Mine.hd.view_39 [Str.ofString "GateloomError"]) mean mg mb base) (hroom : A.depth < 650) (hun : A.units < 800) (hh : A.handled = none)
    (G : Gear w base outer s.heap a) (hrow : s.heap.get? row = some { cls := .type "tuple", data := .seq #[.str (Str.ofString "flop") tr0, .int r tr1, .int bit tr2, .ref pins, .int inv tr3] rn }) (orow : Own base outer row)
    (hD : s.heap.get? a.D = some od) (hT : TabObj w s.heap od xs) (hr : r < 4) (hbit : bit < widthAt r) (hno : atKey xs [(r : Int), (bit : Int)] = none)
    (hM : s.heap.get? a.M = some om) (hN : DObj (SK w) om kvs) (hin : (valueAt kvs (Str.ofString (nameAt r bit))).isSome = true)
    (hR : ∀ h' tk' e dx es, EsOf w.params (Str.ofString "duplicate_state") (Str.ofString (nameAt r bit)) (20 + r) es → Thrown s.heap h' outer e dx 52 es 3 → R (.error (.ref e)) { s with heap := h', toks := tk' }) :
    codeAny (model PySem.Challenge.rw_sj0046_01.row.prog w) A (.call (.ref 110) ⟨[.ref a.wr, .ref a.nl, .ref a.ds, .ref row], []⟩) R s := emit_dup_any B XB TB hroom hun hh G hrow rfl rfl rfl rfl orow hD hT hr hbit hno hM hN hin hR
theorem emit_dup_latch {w : World} {A : Around} {s : Shared} {base : Heap} {outer : List Env} {mean : ExcName → Option Value} {mg mb : Str → Option Value} {R : Result → Shared → Prop}
    {a : Adr} {row pins : Addr} {rn : Nat} {r bit : Nat} {tr0 tr1 tr2 : Tok} {od : Obj} {xs : TX} {om : Obj} {kvs : List (Str × Value)}
    (B : Below A base outer s.heap) (XB : (Mine.hd.heap_39 w.params).In base) (TB : Top Mine.hd.view_39 (looseW Mine.hd.view_39 [Str.ofString "GateloomError"]) mean mg mb base) (hroom : A.depth < 650) (hun : A.units < 800) (hh : A.handled = none)
    (G : Gear w base outer s.heap a) (hrow : s.heap.get? row = some { cls := .type "tuple", data := .seq #[.str (Str.ofString "latch") tr0, .int r tr1, .int bit tr2, .ref pins] rn }) (orow : Own base outer row)
    (hD : s.heap.get? a.D = some od) (hT : TabObj w s.heap od xs) (hr : r < 4) (hbit : bit < widthAt r) (hno : atKey xs [(r : Int), (bit : Int)] = none)
    (hM : s.heap.get? a.M = some om) (hN : DObj (SK w) om kvs) (hin : (valueAt kvs (Str.ofString (nameAt r bit))).isSome = true)
    (hR : ∀ h' tk' e dx es, EsOf w.params (Str.ofString "duplicate_state") (Str.ofString (nameAt r bit)) (20 + r) es → Thrown s.heap h' outer e dx 52 es 3 → R (.error (.ref e)) { s with heap := h', toks := tk' }) :
    codeAny (model PySem.Challenge.rw_sj0046_01.row.prog w) A (.call (.ref 110) ⟨[.ref a.wr, .ref a.nl, .ref a.ds, .ref row], []⟩) R s := emit_dup_any B XB TB hroom hun hh G hrow rfl rfl rfl rfl orow hD hT hr hbit hno hM hN hin hR
end
section
local macro_rules | `(tactic| k_all) => `(tactic| assumption)
theorem emitted_kind {w : World} {A : Around} {s : Shared} {base g hb : Heap} {outer : List Env} {mean : ExcName → Option Value} {mg mb : Str → Option Value} {R : Result → Shared → Prop} {L : Addr} {m : Str → Option Value}
    {a : Adr} {row pins : Addr} {rn pn r bit : Nat} {kd : String} {iv : Option Int} {rits : Array Value} {tr0 tr1 tr2 : Tok} {xs : TX} {nets : List Int → List Int} {names : List Str} {cells : List Cell} {pis : Array Value} {pl : List Int} {tv cv : Addr}
    (hk : (∃ inv tr3, iv = some inv ∧ kd = "flop" ∧ rits = #[.str (Str.ofString "flop") tr0, .int r tr1, .int bit tr2, .ref pins, .int inv tr3]) ∨ (iv = none ∧ kd = "latch" ∧ rits = #[.str (Str.ofString "latch") tr0, .int r tr1, .int bit tr2, .ref pins]))
    (B : Below A base outer s.heap) (XB : (Mine.hd.heap_39 w.params).In base) (TB : Top Mine.hd.view_39 (looseW Mine.hd.view_39 [Str.ofString "GateloomError"]) mean mg mb base) (hroom : A.depth < 550) (hun : A.units < 700) (hh : A.handled = none)
    (G : Gear w base outer s.heap a) (hrow : s.heap.get? row = some { cls := .type "tuple", data := .seq rits rn }) (orow : Own base outer row) (hpi : s.heap.get? pins = some { cls := .type "tuple", data := .seq pis pn }) (opi : Own base outer pins) (hpl : PyProof.Rows.IntsAre pis.toList pl)
    (F : Fr g L s.heap m) (T : Tab w g L hb s.heap a.D xs nets) (V : Five w g L s.heap a tv cv names cells) (hO : ∀ b, g.get? b = none → b ≠ L → Own base outer b) (live : ∀ b o, hb.get? b = some o → ∃ o', s.heap.get? b = some o') (hlen : xs.length ≤ 100) (hnl : names.length ≤ 100) (hcl : cells.length ≤ 100)
    (hW : ∀ x ∈ [a.M, a.nd, a.nc, a.D], ∃ o, hb.get? x = some o) (hr : r < 4) (hbit : bit < widthAt r) (hno : atKey xs [(r : Int), (bit : Int)] = none) (hnm : Str.ofString (nameAt r bit) ∉ names)
    (hR : ∀ h' tk' xs', Celled w g L hb s.heap h' a xs xs' (upd nets [(r : Int), (bit : Int)] [8 + (cells.length : Int)]) [(r : Int), (bit : Int)] (names ++ [Str.ofString (nameAt r bit)]) (cells ++ [⟨kd, 8 + (cells.length : Int), pl, iv, nameAt r bit, (a.st r).getD bit 0⟩]) → R (.ok (.ret .none)) { s with heap := h', toks := tk' }) :
    codeAny (model PySem.Challenge.rw_sj0046_01.row.prog w) A (.call (.ref 362) ⟨[.ref a.wr, .ref a.nl, .ref a.ds, .ref row], []⟩) R s := by
  rcases hk with ⟨inv, tr3, rfl, rfl, rfl⟩ | ⟨rfl, rfl, rfl⟩
  · exact emitted_flop B XB TB hroom hun hh G hrow orow hpi opi hpl F T V hO live hlen hnl hcl hW hr hbit hno hnm hR
  · exact emitted_latch B XB TB hroom hun hh G hrow orow hpi opi hpl F T V hO live hlen hnl hcl hW hr hbit hno hnm hR
local macro_rules | `(tactic| walk_at "subscriptTail") => `(tactic| walk_at "sT")
set_option maxHeartbeats 16000000 in
theorem turn_kind {w : World} {A : Around} {s : Shared} {base gg hb : Heap} {outer : List Env} {mean : ExcName → Option Value} {mg mb : Str → Option Value} {L I rl stl dv tv cv : Addr} {m : Str → Option Value} {Q : Flow → Shared → Prop} {E : Value → Shared → Prop}
    {a : Adr} {sits : Array Value} {g0 : Heap} {xs ys : TX} {nets : List Int → List Int} {names : List Str} {cells : List Cell} {N : Nat} {h₁ : Heap} {tk₁ : Nat} {row pins : Addr} {rn pn r bit : Nat} {kd : String} {iv : Option Int} {rits : Array Value} {tr0 tr1 tr2 : Tok} {px : Pos} {pis : Array Value} {pl : List Int}
    (XB : (Mine.hd.heap_39 w.params).In base) (TB : Top Mine.hd.view_39 (looseW Mine.hd.view_39 [Str.ofString "GateloomError"]) mean mg mb base)
    (B' : Below A base outer gg) (X' : (Mine.hd.heap_39 w.params).In gg) (T' : Top Mine.hd.view_39 (looseW Mine.hd.view_39 [Str.ofString "GateloomError"]) mean mg mb gg) (hroom : A.depth < 500) (hh : A.handled = none) (hun : A.units < 600)
    (hg0 : ∀ b, g0.get? b = none → gg.get? b = none) (C0 : CC w base outer gg L hb I a dv tv cv stl sits (outer.filterMap (·.frame))) (hN : N < 8) (C : CI w gg L hb h₁ I a dv tv cv (outer.filterMap (·.frame)) xs ys nets names cells N) (F : Fr gg L h₁ m) (mp : MPins m a dv tv cv stl)
    (hk : (∃ inv tr3, iv = some inv ∧ kd = "flop" ∧ rits = #[.str (Str.ofString "flop") tr0, .int r tr1, .int bit tr2, .ref pins, .int inv tr3]) ∨ (iv = none ∧ kd = "latch" ∧ rits = #[.str (Str.ofString "latch") tr0, .int r tr1, .int bit tr2, .ref pins])) (hrow : h₁.get? row = some { cls := .type "tuple", data := .seq rits rn }) (hrn : row ≠ L ∧ gg.get? row = none) (hpi : h₁.get? pins = some { cls := .type "tuple", data := .seq pis pn }) (hpn : pins ≠ L ∧ gg.get? pins = none) (hpl : PyProof.Rows.IntsAre pis.toList pl) (hr4 : r < 4) (hbit : bit < widthAt r)
    (hI : ∀ x ∈ [I, rl], (∃ o, hb.get? x = some o) ∧ x ∉ outer.filterMap (·.frame) ∧ x ∉ W0 L a dv tv cv) :
    Turn PySem.Challenge.rw_sj0046_01.row.prog w (A.deeper (caseEnv L)) (caseEnv L) (.Name (Str.ofString "row") px) caseRows Q E [I, rl] s (JI w A base outer mean mg mb L hb I a dv tv cv stl sits (outer.filterMap (·.frame)) g0 (N + 1)) (.ref row) h₁ tk₁ := by
  have hi0 : rits[(0 : Int).toNat]? = some (.str (Str.ofString kd) tr0) := by rcases hk with ⟨_, _, _, rfl, rfl⟩ | ⟨_, rfl, rfl⟩ <;> rfl
  have hi1 : rits[(1 : Int).toNat]? = some (.int r tr1) := by rcases hk with ⟨_, _, _, _, rfl⟩ | ⟨_, _, rfl⟩ <;> rfl
  have hi2 : rits[(2 : Int).toNat]? = some (.int bit tr2) := by rcases hk with ⟨_, _, _, _, rfl⟩ | ⟨_, _, rfl⟩ <;> rfl
  have hkn : (Str.ofString kd == Str.ofString "net") = false := by rcases hk with ⟨_, _, _, rfl, _⟩ | ⟨_, rfl, _⟩ <;> decide
  have hkm : (Str.ofString kd != Str.ofString "net") = true := by rcases hk with ⟨_, _, _, rfl, _⟩ | ⟨_, rfl, _⟩ <;> decide
  refine hold fun gP kont => ?_
  obtain ⟨h, g, d, tt, os⟩ := s
  refine kont ?_
  clear kont gP
  have hr : r < 5 := Nat.lt_succ_of_lt hr4
  unfold Turn caseEnv
  have hF := Hid.mk F
  have vrow : NA gg L h₁ row _ := ⟨hrow, hrn⟩
  have vpin : NA gg L h₁ pins _ := ⟨hpi, hpn⟩
  have F1 := pinned F mp
  clear F
  obtain ⟨rest, N, H⟩ := see F1 [(row, _)] (fCm ⟨vrow, fNm _⟩)
  try dsimp only [List.nil_append, List.cons_append] at N
  k_steps
  rename Fr _ _ _ _ => F2
  rename News _ _ _ _ => N2
  have k2 : Kept [L] h₁ _ := seen H F2 (fun q m => (N2 q (by repeat (first | exact m | refine List.Mem.tail _ ?_))).1)
  walk_at "q0"
  refine' wpAny_call (names_spec (B'.push F2) XB TB ?z1 ?_)
  case z1 => exact roomD hroom (by decide)
  intro h3 tk3 na k3 na0 hna
  refine hold fun gP kont => ?_
  obtain ⟨arr, pn', hpl', hsz, hat⟩ := hna
  obtain ⟨nl, nits, nm, hx, hnl, hnsz, hnat⟩ := hat r hr
  obtain ⟨tnm, hnb⟩ := hnat bit hbit
  refine kont ?_
  clear kont gP
  have F3 := led_kept k3 F2 (fNm _)
  have k3q : Kept [L] h₁ h3 := k2.trans k3.one
  clear F2 N2
  try dsimp only
  obtain ⟨rest, N, H⟩ := see F3 [(row, _)] (fCm ⟨vrow.kept k3q, fNm _⟩)
  try dsimp only [List.nil_append, List.cons_append] at N
  k_steps
  have hlA := listAt hpl'
  walk_at "q0"
  refine' sub_any ?ht slot_list_getitem.lookup (wpAny_getItem_list hlA (Int.natCast_nonneg _) (by first | exact i63 (by with_reducible assumption) (Nat.le_of_ble_eq_true rfl) | exact i63 (Nat.lt_of_lt_of_le (by with_reducible assumption) (widthAt_le _)) (Nat.le_of_ble_eq_true rfl) | lia) (idx_nat hx) ?_) (by with_unfolding_all rfl)
  case ht => exact hlA.typeIs
  try dsimp only
  k_steps
  have hlB := listAt hnl
  have hw4 := widthAt_le r
  walk_at "q0"
  refine' sub_any ?ht slot_list_getitem.lookup (wpAny_getItem_list hlB (Int.natCast_nonneg _) (by first | exact i63 (by with_reducible assumption) (Nat.le_of_ble_eq_true rfl) | exact i63 (Nat.lt_of_lt_of_le (by with_reducible assumption) (widthAt_le _)) (Nat.le_of_ble_eq_true rfl) | lia) (idx_nat hnb) ?_) (by with_unfolding_all rfl)
  case ht => exact hlB.typeIs
  try dsimp only
  k_steps
  rename Fr _ _ _ _ => F4
  rename News _ _ _ _ => N4
  have k4 : Kept [L] h₁ _ := k3q.trans (seen H F4 (fun q m => (N4 q (by repeat (first | exact m | refine List.Mem.tail _ ?_))).1))
  have C4 := C.kept hF.get F4 k4
  have hF4 := Hid.mk F4
  obtain ⟨ov, vV, tV⟩ := C4.V.at_
  have hu1 : ∀ env, (A.deeper env).units + 1 < cLine := hu_of hun (Nat.le_of_ble_eq_true rfl)
  have hu64 : ∀ env, (A.deeper env).units + 64 < cLine := hu_of hun (Nat.le_of_ble_eq_true rfl)
  walk_at "q0"
  refine' wpAny_in_heap (tupleKind_room_in1 (hu1 _)) (key_is (w := w) (N4 _ (.head _)).1) C0.lo (tV.dictOfH (fun _ _ e => e) vV.1) ?_
  cases hy : atKey ys [(r : Int), (bit : Int)] with
  | some p =>
    rw [show (some p).isSome = true from rfl]
    try dsimp only
    k_steps
    rename Fr _ _ _ _ => F5
    rename News _ _ _ _ => N5
    have k5 : Kept [L] h₁ _ := k3q.trans (seen H F5 (fun q m => (N5 q (by repeat (first | exact m | refine List.Mem.tail _ ?_))).1))
    walk_at "q0"
    refine' wpAny_call (paths_spec (B'.push F5) XB TB ?z1 ?_)
    case z1 => exact roomD hroom (by decide)
    intro h6 tk6 pa k6 pa0 hpa
    refine hold fun gP kont => ?_
    obtain ⟨arr2, pn2, hpl2, hsz2, hat2⟩ := hpa
    obtain ⟨tp2, hx2⟩ := hat2 r hr
    refine kont ?_
    clear kont gP
    have F6 := led_kept k6 F5 (fNm _)
    clear F5 N5
    try dsimp only
    obtain ⟨rest, N, H⟩ := see F6 [(row, _)] (fCm ⟨vrow.kept (k5.trans k6.one), fNm _⟩)
    try dsimp only [List.nil_append, List.cons_append] at N
    k_steps
    have hlB2 := listAt hpl2
    walk_at "q0"
    refine' sub_any ?ht slot_list_getitem.lookup (wpAny_getItem_list hlB2 (Int.natCast_nonneg _) (by first | exact i63 (by with_reducible assumption) (Nat.le_of_ble_eq_true rfl) | exact i63 (Nat.lt_of_lt_of_le (by with_reducible assumption) (widthAt_le _)) (Nat.le_of_ble_eq_true rfl) | lia) (idx_nat hx2) ?_) (by with_unfolding_all rfl)
    case ht => exact hlB2.typeIs
    try dsimp only
    walk_at "q0"
    repeat ((fail_if_success (with_reducible show wpAny _ _ (execs (Stmt.If (Expr.Compare _ _ _ _) _ _ _ :: _) _) _ _ _)); (fail_if_success (with_reducible show wpAny _ _ (subscriptTail _ _ (Value.ref _) (Value.int (Nat.cast _) _)) _ _ _)); (fail_if_success (with_reducible show wpAny _ _ (call (Value.ref _) _) _ _ _)); walk_at "q2")
    rename Fr _ _ _ _ => F7
    rename News _ _ _ _ => N7
    have k7 : Kept [L] h₁ _ := (k5.trans k6.one).trans (seen H F7 (fun q m => (N7 q (by repeat (first | exact m | refine List.Mem.tail _ ?_))).1))
    refine hold fun gP kont => ?_
    obtain ⟨px', hxk⟩ := same_key C4.ks ⟨p, hy⟩
    have C7 := C.kept hF.get F7 k7
    have G7 := C0.gear _ C7.kb
    obtain ⟨od7, vD7, tD7⟩ := C7.D.at_
    obtain ⟨om7, kvs7, vM7, hM7, hMk7⟩ := C7.five.M
    obtain ⟨tc7, vnd7⟩ := C7.five.nd
    obtain ⟨cs7, n7, vnc7, hnc7⟩ := C7.five.nc
    refine kont ?_
    clear kont gP
    have hrow7 := k7 _ _ hrow (nm1 hrn.1)
    have orow : Own base (caseEnv L :: outer) row := (Own.fresh B' hrn.2).frame hrn.1
    refine' turn_raised (kd := Str.ofString "several_drivers") (dt := Str.ofString (pathAt r)) XB TB ⟨B', X', T'⟩ hroom hh hun hg0 C0 hN C7 F7 ⟨rfl, rfl, rfl, rfl, rfl, rfl, rfl⟩ rfl rfl (N7 _ (.head _)) (by decide +kernel) (path_ok r hr) (fun A' s' outer' R' Bs hd hu hn' kk ow hRR => emit_sev_any Bs XB TB hd hu hn' (gear_mono G7 kk ow ⟨_, vD7.1⟩ ⟨_, vM7.1⟩ ⟨_, vnd7.1⟩ ⟨_, vnc7.1⟩) (kk.get hrow7) hkn hi0 hi1 hi2 (ow _ _ hrow7 orow) (kk.get vD7.1) (tD7.kept kk) hr4 hxk (fun h' tk' e dx es x y => hRR h' tk' e dx es x y)) ?_
    intro hZ tkZ jZ kZ
    try dsimp only
    refine ⟨_, _, rfl, jZ, fun b m o e => ?_⟩
    exact ((keptL_kf k7).trans kZ) b o e (fun q => (List.mem_append.mp q).elim (hI b m).2.1 (hI b m).2.2) (hI b m).1
  | none =>
    rw [show (none : Option (Addr × Value)).isSome = false from rfl]
    try dsimp only
    k_steps
    rename Fr _ _ _ _ => F5
    rename News _ _ _ _ => N5
    have k5 : Kept [L] h₁ _ := k3q.trans (seen H F5 (fun q m => (N5 q (by repeat (first | exact m | refine List.Mem.tail _ ?_))).1))
    have C5 := C.kept hF.get F5 k5
    refine hold fun gP kont => ?_
    obtain ⟨tits, tn5, vT5, hT5⟩ := C5.five.T
    refine kont ?_
    clear kont gP
    have hxk := same_key_none C.ks hy
    refine' in_names vT5.1 hT5 ?_
    by_cases hm : Str.ofString (nameAt r bit) ∈ names
    · rw [decide_eq_true hm]
      try dsimp only
      walk_at "q0"
      repeat ((fail_if_success (with_reducible show wpAny _ _ (execs (Stmt.If (Expr.Compare _ _ _ _) _ _ _ :: _) _) _ _ _)); (fail_if_success (with_reducible show wpAny _ _ (subscriptTail _ _ (Value.ref _) (Value.int (Nat.cast _) _)) _ _ _)); (fail_if_success (with_reducible show wpAny _ _ (call (Value.ref _) _) _ _ _)); walk_at "q2")
      rename Fr _ _ _ _ => F7
      rename News _ _ _ _ => N7
      have k7 : Kept [L] h₁ _ := k3q.trans (seen H F7 (fun q m => (N7 q (by repeat (first | exact m | refine List.Mem.tail _ ?_))).1))
      have C7 := C.kept hF.get F7 k7
      have G7 := C0.gear _ C7.kb
      refine hold fun gP kont => ?_
      obtain ⟨od7, vD7, tD7⟩ := C7.D.at_
      obtain ⟨om7, kvs7, vM7, hM7, hMk7⟩ := C7.five.M
      obtain ⟨tc7, vnd7⟩ := C7.five.nd
      obtain ⟨cs7, n7, vnc7, hnc7⟩ := C7.five.nc
      refine kont ?_
      clear kont gP
      have hrow7 := k7 _ _ hrow (nm1 hrn.1)
      have orow : Own base (caseEnv L :: outer) row := (Own.fresh B' hrn.2).frame hrn.1
      refine' turn_raised (kd := Str.ofString "duplicate_state") (dt := Str.ofString (nameAt r bit)) XB TB ⟨B', X', T'⟩ hroom hh hun hg0 C0 hN C7 F7 ⟨rfl, rfl, rfl, rfl, rfl, rfl, rfl⟩ rfl rfl (N7 _ (.head _)) (by decide +kernel) (name_ok r hr bit hbit) (fun A' s' outer' R' Bs hd hu hn' kk ow hRR => emit_dup_any Bs XB TB hd hu hn' (gear_mono G7 kk ow ⟨_, vD7.1⟩ ⟨_, vM7.1⟩ ⟨_, vnd7.1⟩ ⟨_, vnc7.1⟩) (kk.get hrow7) hkn hi0 hi1 hi2 (ow _ _ hrow7 orow) (kk.get vD7.1) (tD7.kept kk) hr4 hbit hxk (kk.get vM7.1) hM7 (by rw [valueAt_some, hMk7]; exact decide_eq_true hm) (fun h' tk' e dx es x y => hRR h' tk' e dx es x y)) ?_
      intro hZ tkZ jZ kZ
      try dsimp only
      refine ⟨_, _, rfl, jZ, fun b m o e => ?_⟩
      exact ((keptL_kf k7).trans kZ) b o e (fun q => (List.mem_append.mp q).elim (hI b m).2.1 (hI b m).2.2) (hI b m).1

    · rw [decide_eq_false hm]
      try dsimp only
      k_steps
      rename Fr _ _ _ _ => F7
      rename News _ _ _ _ => N7
      have k7 : Kept [L] h₁ _ := k3q.trans (seen H F7 (fun q m => (N7 q (by repeat (first | exact m | refine List.Mem.tail _ ?_))).1))
      have C7 := C.kept hF.get F7 k7
      have G7 := C0.gear _ C7.kb
      walk_at "q0"
      refine' wpAny_call (emitted_kind (hk := hk) (hb := hb) (nets := nets) (cells := cells) (names := names) (pl := pl) (B'.push F7) XB TB ?z1 ?z2 ?z3 G7 (k7 _ _ hrow (nm1 hrn.1)) ((Own.fresh B' hrn.2).frame hrn.1) (k7 _ _ hpi (nm1 hpn.1)) ((Own.fresh B' hpn.2).frame hpn.1) hpl F7 C7.D C7.five (fun b n1 n2 => (Own.fresh B' n1).frame n2) C7.live ?z4 ?z5 ?z6 ?z7 hr4 hbit hxk hm ?_)
      case z1 => exact roomD hroom (by decide)
      case z2 => exact roomU hun (by decide)
      case z3 => exact hh
      case z4 => (have := C7.sz.1; lia)
      case z5 => (have := C7.sz.2.1; lia)
      case z6 => (have := C7.sz.2.2.1; lia)
      case z7 => exact fCm ⟨C0.at (i := 2) rfl, fCm ⟨C0.at (i := 3) rfl, fCm ⟨C0.at (i := 4) rfl, fCm ⟨C0.at (i := 1) rfl, fNm _⟩⟩⟩⟩
      intro h8 tk8 xs8 Ce
      refine hold fun gP kont => ?_
      obtain ⟨kf8, V8, ⟨its8, tn8, vT8, hT8⟩, ⟨cvs8, cvn8, vcv8, hcv8⟩, live8, fr8, nts8, kb8⟩ := ci_celled C0 C7 Ce
      have F8 := led_kept Ce.kept F7 fr8
      have hF8 := Hid.mk F8
      have vrow8 : NA gg L h8 row _ := (vrow.kept k7).but Ce.kept (fun mm => nts8 _ mm _ _ _ (k7 _ _ hrow (nm1 hrn.1)) rfl rfl)
      have vpin8 : NA gg L h8 pins _ := (vpin.kept k7).but Ce.kept (fun mm => nts8 _ mm _ _ _ (k7 _ _ hpi (nm1 hpn.1)) rfl rfl)
      have hcsz : cvs8.size = cells.length := by rw [← Array.length_toList]; exact hcv8.len
      have hcs1 : cvs8.size < 1000 := by (have := C.sz.2.2.1; lia)
      have hits : its8.size ≤ sizeLine := by
        have := StrsAre.len_eq hT8
        have z := C.sz.2.1
        rw [Array.length_toList] at this
        rw [sizeLine_eq]; lia
      have q1 : @Ne Nat row tv := fun q => NonTup.list vT8.1 _ _ _ (q ▸ vrow8.1) rfl rfl
      have q2 : @Ne Nat cv tv := C0.ne (i := 7) (j := 6) rfl rfl (by decide)
      clear F7 N7
      obtain ⟨rest, N, hrx, H⟩ := see_mut F8 [(row, _), (cv, _)] [(tv, _)] (fCm ⟨vrow8, fCm ⟨vcv8, fNm _⟩⟩) (fCm ⟨vT8, fNm _⟩)
      refine kont ?_
      clear kont gP
      try dsimp only [List.nil_append, List.cons_append] at N
      have hrx0 : ∀ q ∈ rest, q.1 ≠ tv := hrx _ (.head _)
      clear hrx
      try dsimp only
      k_steps
      rename Fr _ _ _ _ => F9
      rename News _ _ _ _ => N9
      have k9 : Kept (L :: [tv]) h8 _ := seen_mut H F9 (fun q m => (N9 q (by repeat (first | exact m | refine List.Mem.tail _ ?_))).1)
      have hF9 := Hid.mk F9
      have nt8 : ∀ s ∈ L :: [tv], NonTup h8 s := fCm ⟨.fr hF8.get, fCm ⟨.list vT8.1, fNm _⟩⟩
      obtain ⟨ov8, vV8, tV8⟩ := V8.at_
      have V9 := V8.but k9 (nm2 vV8.2.1 (C0.ne (i := 5) (j := 6) rfl rfl (by decide))) (fCm ⟨fun x hx e => (by obtain ⟨la, li, n, e1, e2, _⟩ := V8.ls x hx; rw [e1] at e; exact e2.2.1 (by injection e)), fCm ⟨V8.off (C0.at (i := 6) rfl), fNm _⟩⟩) nt8
      have hlenY : ys.length ≤ 100 := by
        have z := congrArg List.length C.ks
        rw [List.length_map, List.length_map] at z
        have := C.sz.1
        lia
      have n9 := N9 _ (.tail _ (.head _))
      have lvt : (N9 _ (.tail _ (.head _))) = n9 := rfl
      walk_at "q0"
      refine' tab_set (hb := hb) (key := [(r : Int), (bit : Int)]) (nets' := upd nets [(r : Int), (bit : Int)] [8 + (cells.length : Int)]) F9 (hu1 _) V9 (key_is (w := w) (N9 _ (.head _)).1) (N9 _ (.tail _ (.head _))) ?hli (hb_none live8 ?hlb) (C0.at (i := 5) rfl) (V8.offn ?hnew) (fun k hk => by unfold upd; rw [if_neg hk]) hlenY ?_
      case hli => (unfold upd; rw [if_pos rfl]; exact .cons _ _ .nil)
      case hlb => first | exact fresh_mut H (nm1 (by k_ne)) (N9 _ (.tail _ (.head _))) ((by assumption : AllLt _ rest)) | exact fresh_mut H (nm1 (by k_ne)) (N9 _ (.tail _ (.head _))) ((by assumption : _ ∧ AllLt _ rest).2) | exact fresh_mut H (nm1 (by k_ne)) (N9 _ (.tail _ (.head _))) ((by assumption : _ ∧ _ ∧ AllLt _ rest).2.2) | exact fresh_mut H (nm1 (by k_ne)) (N9 _ (.tail _ (.head _))) ((by assumption : _ ∧ _ ∧ _ ∧ AllLt _ rest).2.2.2) | exact fresh_mut H (nm1 (by k_ne)) (N9 _ (.tail _ (.head _))) ((by assumption : _ ∧ _ ∧ _ ∧ _ ∧ AllLt _ rest).2.2.2.2) | exact fresh_mut H (nm1 (by k_ne)) (N9 _ (.tail _ (.head _))) ((by assumption : _ ∧ _ ∧ _ ∧ _ ∧ _ ∧ AllLt _ rest).2.2.2.2.2) | exact fresh_mut H (nm1 (by k_ne)) (N9 _ (.tail _ (.head _))) ((by assumption : _ ∧ _ ∧ _ ∧ _ ∧ _ ∧ _ ∧ AllLt _ rest).2.2.2.2.2.2) | exact fresh_mut H (nm1 (by k_ne)) (N9 _ (.tail _ (.head _))) ((by assumption : _ ∧ _ ∧ _ ∧ _ ∧ _ ∧ _ ∧ _ ∧ AllLt _ rest).2.2.2.2.2.2.2) | exact fresh_mut H (nm1 (by k_ne)) (N9 _ (.tail _ (.head _))) ((by assumption : _ ∧ _ ∧ _ ∧ _ ∧ _ ∧ _ ∧ _ ∧ _ ∧ AllLt _ rest).2.2.2.2.2.2.2.2)
      case hnew => first | exact fresh_mut H (nm1 (by k_ne)) (N9 _ (.tail _ (.head _))) ((by assumption : AllLt _ rest)) | exact fresh_mut H (nm1 (by k_ne)) (N9 _ (.tail _ (.head _))) ((by assumption : _ ∧ AllLt _ rest).2) | exact fresh_mut H (nm1 (by k_ne)) (N9 _ (.tail _ (.head _))) ((by assumption : _ ∧ _ ∧ AllLt _ rest).2.2) | exact fresh_mut H (nm1 (by k_ne)) (N9 _ (.tail _ (.head _))) ((by assumption : _ ∧ _ ∧ _ ∧ AllLt _ rest).2.2.2) | exact fresh_mut H (nm1 (by k_ne)) (N9 _ (.tail _ (.head _))) ((by assumption : _ ∧ _ ∧ _ ∧ _ ∧ AllLt _ rest).2.2.2.2) | exact fresh_mut H (nm1 (by k_ne)) (N9 _ (.tail _ (.head _))) ((by assumption : _ ∧ _ ∧ _ ∧ _ ∧ _ ∧ AllLt _ rest).2.2.2.2.2) | exact fresh_mut H (nm1 (by k_ne)) (N9 _ (.tail _ (.head _))) ((by assumption : _ ∧ _ ∧ _ ∧ _ ∧ _ ∧ _ ∧ AllLt _ rest).2.2.2.2.2.2) | exact fresh_mut H (nm1 (by k_ne)) (N9 _ (.tail _ (.head _))) ((by assumption : _ ∧ _ ∧ _ ∧ _ ∧ _ ∧ _ ∧ _ ∧ AllLt _ rest).2.2.2.2.2.2.2) | exact fresh_mut H (nm1 (by k_ne)) (N9 _ (.tail _ (.head _))) ((by assumption : _ ∧ _ ∧ _ ∧ _ ∧ _ ∧ _ ∧ _ ∧ _ ∧ AllLt _ rest).2.2.2.2.2.2.2.2)
      intro h10 tk10 ys10 k10 V10 ks10 vs10 F10
      rcases hk with ⟨inv, tr3, hiv, hkd, hri⟩ | ⟨hiv, hkd, hri⟩
      · subst hiv hkd hri
        have dj10 := dj_celled C7 Ce vs10 (by first | exact fresh_mut H (nm1 (by k_ne)) (N9 _ (.tail _ (.head _))) ((by assumption : AllLt _ rest)) | exact fresh_mut H (nm1 (by k_ne)) (N9 _ (.tail _ (.head _))) ((by assumption : _ ∧ AllLt _ rest).2) | exact fresh_mut H (nm1 (by k_ne)) (N9 _ (.tail _ (.head _))) ((by assumption : _ ∧ _ ∧ AllLt _ rest).2.2) | exact fresh_mut H (nm1 (by k_ne)) (N9 _ (.tail _ (.head _))) ((by assumption : _ ∧ _ ∧ _ ∧ AllLt _ rest).2.2.2) | exact fresh_mut H (nm1 (by k_ne)) (N9 _ (.tail _ (.head _))) ((by assumption : _ ∧ _ ∧ _ ∧ _ ∧ AllLt _ rest).2.2.2.2) | exact fresh_mut H (nm1 (by k_ne)) (N9 _ (.tail _ (.head _))) ((by assumption : _ ∧ _ ∧ _ ∧ _ ∧ _ ∧ AllLt _ rest).2.2.2.2.2) | exact fresh_mut H (nm1 (by k_ne)) (N9 _ (.tail _ (.head _))) ((by assumption : _ ∧ _ ∧ _ ∧ _ ∧ _ ∧ _ ∧ AllLt _ rest).2.2.2.2.2.2) | exact fresh_mut H (nm1 (by k_ne)) (N9 _ (.tail _ (.head _))) ((by assumption : _ ∧ _ ∧ _ ∧ _ ∧ _ ∧ _ ∧ _ ∧ AllLt _ rest).2.2.2.2.2.2.2) | exact fresh_mut H (nm1 (by k_ne)) (N9 _ (.tail _ (.head _))) ((by assumption : _ ∧ _ ∧ _ ∧ _ ∧ _ ∧ _ ∧ _ ∧ _ ∧ AllLt _ rest).2.2.2.2.2.2.2.2))
        have vT9 := N9 _ (.tail _ (.tail _ (.tail _ (.tail _ (.head _)))))
        have nt9 : ∀ s ∈ [dv], NonTup _ s := fCm ⟨(by obtain ⟨_, e, x⟩ := V9.at_; exact .dict e.1 x.exact_), fNm _⟩
        have vT10 := NA.but vT9 k10 (nm1 (C0.ne (i := 6) (j := 5) rfl rfl (by decide)))
        have hT10 : StrsAre (its8.push (Value.str (Str.ofString (nameAt r bit)) tnm)).toList (names ++ [Str.ofString (nameAt r bit)]) := by rw [Array.toList_push]; exact strs_snoc hT8
        have vcv10 := NA.but (vcv8.but k9 (nm2 vcv8.2.1 q2)) k10 (nm1 (C0.ne (i := 7) (j := 5) rfl rfl (by decide)))
        have hcv10 := (hcv8.but k9 nt8).but k10 nt9
        have vrow10 : NA gg L h10 row _ := (vrow8.but k9 (fun mm => nt8 _ mm _ _ _ vrow8.1 rfl rfl)).but k10 (fun mm => nt9 _ mm _ _ _ (vrow8.but k9 (fun mm => nt8 _ mm _ _ _ vrow8.1 rfl rfl)).1 rfl rfl)
        have vpin10 : NA gg L h10 pins _ := (vpin8.but k9 (fun mm => nt8 _ mm _ _ _ vpin8.1 rfl rfl)).but k10 (fun mm => nt9 _ mm _ _ _ (vpin8.but k9 (fun mm => nt8 _ mm _ _ _ vpin8.1 rfl rfl)).1 rfl rfl)
        have kf10 : KF hb (W0 L a dv tv cv) h8 h10 := (k9.kf (fCm ⟨.inl (.head _), fCm ⟨.inl (.tail _ (.tail _ (.tail _ (.tail _ (.tail _ (.tail _ (.head _))))))), fNm _⟩⟩)).trans (k10.kf (fCm ⟨.inl (.tail _ (.tail _ (.tail _ (.tail _ (.tail _ (.head _)))))), fNm _⟩))
        have kb10 : ∀ b o, hb.get? b = some o → b ∉ outer.filterMap (·.frame) → b ∉ I :: W0 L a dv tv cv → h10.get? b = some o := fun b o e nf n => kf10 b o (kb8 b o e nf n) (fun m => n (.tail _ m)) ⟨o, e⟩
        refine hold fun gP kont => ?_
        obtain ⟨sn, vst, hst⟩ := C0.starts _ kb10
        obtain ⟨il, ins, im, hix, hil, hii, hilen⟩ := hst r hr
        obtain ⟨ti, hib⟩ := ints_at hii (show bit < (a.st r).length by rw [hilen]; exact hbit)
        have q3 : @Ne Nat row cv := fun q => NonTup.list vcv10.1 _ _ _ (q ▸ vrow10.1) rfl rfl
        have hF10 := Hid.mk F10
        have hcsz2 : cvs8.size ≤ sizeLine := by rw [sizeLine_eq]; lia
        clear N9 F9 vT9 n9 lvt
        obtain ⟨rest, N, hrx, H⟩ := see_mut F10 [(row, _)] [(cv, _)] (fCm ⟨vrow10, fNm _⟩) (fCm ⟨vcv10, fNm _⟩)
        refine kont ?_
        clear kont gP
        try dsimp only [List.nil_append, List.cons_append] at N
        have hrx1 : ∀ q ∈ rest, q.1 ≠ cv := hrx _ (.head _)
        clear hrx hrx0
        try dsimp only
        k_steps
        have hlS := listAt vst.1
        walk_at "q0"
        refine' sub_any ?ht slot_list_getitem.lookup (wpAny_getItem_list hlS (Int.natCast_nonneg _) (by first | exact i63 (by with_reducible assumption) (Nat.le_of_ble_eq_true rfl) | exact i63 (Nat.lt_of_lt_of_le (by with_reducible assumption) (widthAt_le _)) (Nat.le_of_ble_eq_true rfl) | lia) (idx_nat hix) ?_) (by with_unfolding_all rfl)
        case ht => exact hlS.typeIs
        try dsimp only
        k_steps
        have hlI := listAt hil
        walk_at "q0"
        refine' sub_any ?ht slot_list_getitem.lookup (wpAny_getItem_list hlI (Int.natCast_nonneg _) (by first | exact i63 (by with_reducible assumption) (Nat.le_of_ble_eq_true rfl) | exact i63 (Nat.lt_of_lt_of_le (by with_reducible assumption) (widthAt_le _)) (Nat.le_of_ble_eq_true rfl) | lia) (idx_nat (by rw [← Array.getElem?_toList]; exact hib)) ?_) (by with_unfolding_all rfl)
        case ht => exact hlI.typeIs
        try dsimp only
        walk_at "q0"
        repeat ((fail_if_success (with_reducible show wpAny _ _ (execs (Stmt.If (Expr.BoolOp BoolOp.Or _ _) _ _ _ :: _) _) _ _ _)); (fail_if_success (with_reducible show wpAny _ _ (subscriptTail _ _ (Value.ref _) (Value.int (Nat.cast _) _)) _ _ _)); (fail_if_success (with_reducible show wpAny _ _ (compareOp CmpOp.In _ (Value.ref _)) _ _ _)); (fail_if_success (with_reducible show wpAny _ _ (call (Value.ref _) _) _ _ _)); walk_at "q2")
        rename Fr _ _ _ _ => F11
        rename News _ _ _ _ => N11
        have k11 : Kept (L :: [cv]) h10 _ := seen_mut H F11 (fun q m => (N11 q (by repeat (first | exact m | refine List.Mem.tail _ ?_))).1)
        have nt10 : ∀ s ∈ L :: [cv], NonTup h10 s := fCm ⟨.fr hF10.get, fCm ⟨.list vcv10.1, fNm _⟩⟩
        have ect := N11 _ (.head _)
        have epr := N11 _ (.tail _ (.head _))
        have ecv := N11 _ (.tail _ (.tail _ (.tail _ (.head _))))
        have pk := (vpin10.but k11 (fun mm => nt10 _ mm _ _ _ vpin10.1 rfl rfl)).1
        have hcell : CellAt _ (.ref _) ⟨"flop", 8 + (cells.length : Int), pl, some inv, nameAt r bit, (a.st r).getD bit 0⟩ := ⟨_, pins, _, pis, _, _, rfl, ⟨_, _, ect.1, rfl, rfl⟩, ⟨_, _, pk, rfl, rfl⟩, hpl, ⟨_, _, _, _, _, epr.1, rfl, rfl⟩⟩
        have hky : [(r : Int), (bit : Int)] ∉ ys.map (·.1) := fun m => by obtain ⟨p, e⟩ := atKey_isSome.mpr m; rw [hy] at e; cases e
        have hcvN : ∃ cs n, NA gg L _ cv (PySem.W.listOf cs n) ∧ CellsAt _ cs.toList (cells ++ [⟨"flop", 8 + (cells.length : Int), pl, some inv, nameAt r bit, (a.st r).getD bit 0⟩]) := ⟨_, _, ecv, by rw [Array.toList_push]; exact (hcv10.but k11 nt10).snoc hcell⟩
        have hsz := C.sz
        obtain ⟨C11, kf11⟩ := ci_ok C0 C7 Ce k9 nt8 hF9.get k10 nt9 k11 nt10 F11 V10 ks10 hky dj10 ⟨_, _, vT10, hT10⟩ hcvN ⟨r, bit, rfl, hr, hbit⟩
          ⟨fun c hc => (List.mem_append.mp hc).elim (C.ok.1 c) fun q => (by rw [List.mem_singleton.mp q]; exact ⟨(by show PyData.strOk (Str.ofString "flop") = true; decide +kernel), name_ok r hr bit hbit⟩), fun x hx => (List.mem_append.mp hx).elim (C.ok.2 x) fun q => (by rw [List.mem_singleton.mp q]; exact name_ok r hr bit hbit)⟩
          ⟨by rw [List.length_append, List.length_singleton]; lia, by rw [List.length_append, List.length_singleton]; lia⟩ (fun k => by unfold upd; split; exact Nat.succ_le_succ (Nat.zero_le _); exact Nat.le_succ_of_le (C.sz.2.2.2 k)) (fun k hk => by unfold upd; rw [if_neg hk])
        have kfA := (keptL_kf (fs := outer.filterMap (·.frame)) (a := a) (dv := dv) (tv := tv) (cv := cv) (hb := hb) k7).trans kf11
        clear N11
        try dsimp only
        refine' last_turn ⟨B', X', T'⟩ hg0 hh hun (Nat.succ_lt_succ hN) C0 F11 ⟨rfl, rfl, rfl, rfl, rfl, rfl, rfl⟩ C11 ?_
        intro hZ tkZ jZ kZ
        try dsimp only
        refine ⟨_, _, rfl, jZ, fun b m o e => ?_⟩
        exact (kfA.trans (keptL_kf kZ)) b o e (fun q => (List.mem_append.mp q).elim (hI b m).2.1 (hI b m).2.2) (hI b m).1
      · subst hiv hkd hri
        have dj10 := dj_celled C7 Ce vs10 (by first | exact fresh_mut H (nm1 (by k_ne)) (N9 _ (.tail _ (.head _))) ((by assumption : AllLt _ rest)) | exact fresh_mut H (nm1 (by k_ne)) (N9 _ (.tail _ (.head _))) ((by assumption : _ ∧ AllLt _ rest).2) | exact fresh_mut H (nm1 (by k_ne)) (N9 _ (.tail _ (.head _))) ((by assumption : _ ∧ _ ∧ AllLt _ rest).2.2) | exact fresh_mut H (nm1 (by k_ne)) (N9 _ (.tail _ (.head _))) ((by assumption : _ ∧ _ ∧ _ ∧ AllLt _ rest).2.2.2) | exact fresh_mut H (nm1 (by k_ne)) (N9 _ (.tail _ (.head _))) ((by assumption : _ ∧ _ ∧ _ ∧ _ ∧ AllLt _ rest).2.2.2.2) | exact fresh_mut H (nm1 (by k_ne)) (N9 _ (.tail _ (.head _))) ((by assumption : _ ∧ _ ∧ _ ∧ _ ∧ _ ∧ AllLt _ rest).2.2.2.2.2) | exact fresh_mut H (nm1 (by k_ne)) (N9 _ (.tail _ (.head _))) ((by assumption : _ ∧ _ ∧ _ ∧ _ ∧ _ ∧ _ ∧ AllLt _ rest).2.2.2.2.2.2) | exact fresh_mut H (nm1 (by k_ne)) (N9 _ (.tail _ (.head _))) ((by assumption : _ ∧ _ ∧ _ ∧ _ ∧ _ ∧ _ ∧ _ ∧ AllLt _ rest).2.2.2.2.2.2.2) | exact fresh_mut H (nm1 (by k_ne)) (N9 _ (.tail _ (.head _))) ((by assumption : _ ∧ _ ∧ _ ∧ _ ∧ _ ∧ _ ∧ _ ∧ _ ∧ AllLt _ rest).2.2.2.2.2.2.2.2))
        have vT9 := N9 _ (.tail _ (.tail _ (.tail _ (.tail _ (.head _)))))
        have nt9 : ∀ s ∈ [dv], NonTup _ s := fCm ⟨(by obtain ⟨_, e, x⟩ := V9.at_; exact .dict e.1 x.exact_), fNm _⟩
        have vT10 := NA.but vT9 k10 (nm1 (C0.ne (i := 6) (j := 5) rfl rfl (by decide)))
        have hT10 : StrsAre (its8.push (Value.str (Str.ofString (nameAt r bit)) tnm)).toList (names ++ [Str.ofString (nameAt r bit)]) := by rw [Array.toList_push]; exact strs_snoc hT8
        have vcv10 := NA.but (vcv8.but k9 (nm2 vcv8.2.1 q2)) k10 (nm1 (C0.ne (i := 7) (j := 5) rfl rfl (by decide)))
        have hcv10 := (hcv8.but k9 nt8).but k10 nt9
        have vrow10 : NA gg L h10 row _ := (vrow8.but k9 (fun mm => nt8 _ mm _ _ _ vrow8.1 rfl rfl)).but k10 (fun mm => nt9 _ mm _ _ _ (vrow8.but k9 (fun mm => nt8 _ mm _ _ _ vrow8.1 rfl rfl)).1 rfl rfl)
        have vpin10 : NA gg L h10 pins _ := (vpin8.but k9 (fun mm => nt8 _ mm _ _ _ vpin8.1 rfl rfl)).but k10 (fun mm => nt9 _ mm _ _ _ (vpin8.but k9 (fun mm => nt8 _ mm _ _ _ vpin8.1 rfl rfl)).1 rfl rfl)
        have kf10 : KF hb (W0 L a dv tv cv) h8 h10 := (k9.kf (fCm ⟨.inl (.head _), fCm ⟨.inl (.tail _ (.tail _ (.tail _ (.tail _ (.tail _ (.tail _ (.head _))))))), fNm _⟩⟩)).trans (k10.kf (fCm ⟨.inl (.tail _ (.tail _ (.tail _ (.tail _ (.tail _ (.head _)))))), fNm _⟩))
        have kb10 : ∀ b o, hb.get? b = some o → b ∉ outer.filterMap (·.frame) → b ∉ I :: W0 L a dv tv cv → h10.get? b = some o := fun b o e nf n => kf10 b o (kb8 b o e nf n) (fun m => n (.tail _ m)) ⟨o, e⟩
        refine hold fun gP kont => ?_
        obtain ⟨sn, vst, hst⟩ := C0.starts _ kb10
        obtain ⟨il, ins, im, hix, hil, hii, hilen⟩ := hst r hr
        obtain ⟨ti, hib⟩ := ints_at hii (show bit < (a.st r).length by rw [hilen]; exact hbit)
        have q3 : @Ne Nat row cv := fun q => NonTup.list vcv10.1 _ _ _ (q ▸ vrow10.1) rfl rfl
        have hF10 := Hid.mk F10
        have hcsz2 : cvs8.size ≤ sizeLine := by rw [sizeLine_eq]; lia
        clear N9 F9 vT9 n9 lvt
        obtain ⟨rest, N, hrx, H⟩ := see_mut F10 [(row, _)] [(cv, _)] (fCm ⟨vrow10, fNm _⟩) (fCm ⟨vcv10, fNm _⟩)
        refine kont ?_
        clear kont gP
        try dsimp only [List.nil_append, List.cons_append] at N
        have hrx1 : ∀ q ∈ rest, q.1 ≠ cv := hrx _ (.head _)
        clear hrx hrx0
        try dsimp only
        k_steps
        have hlS := listAt vst.1
        walk_at "q0"
        refine' sub_any ?ht slot_list_getitem.lookup (wpAny_getItem_list hlS (Int.natCast_nonneg _) (by first | exact i63 (by with_reducible assumption) (Nat.le_of_ble_eq_true rfl) | exact i63 (Nat.lt_of_lt_of_le (by with_reducible assumption) (widthAt_le _)) (Nat.le_of_ble_eq_true rfl) | lia) (idx_nat hix) ?_) (by with_unfolding_all rfl)
        case ht => exact hlS.typeIs
        try dsimp only
        k_steps
        have hlI := listAt hil
        walk_at "q0"
        refine' sub_any ?ht slot_list_getitem.lookup (wpAny_getItem_list hlI (Int.natCast_nonneg _) (by first | exact i63 (by with_reducible assumption) (Nat.le_of_ble_eq_true rfl) | exact i63 (Nat.lt_of_lt_of_le (by with_reducible assumption) (widthAt_le _)) (Nat.le_of_ble_eq_true rfl) | lia) (idx_nat (by rw [← Array.getElem?_toList]; exact hib)) ?_) (by with_unfolding_all rfl)
        case ht => exact hlI.typeIs
        try dsimp only
        walk_at "q0"
        repeat ((fail_if_success (with_reducible show wpAny _ _ (execs (Stmt.If (Expr.BoolOp BoolOp.Or _ _) _ _ _ :: _) _) _ _ _)); (fail_if_success (with_reducible show wpAny _ _ (subscriptTail _ _ (Value.ref _) (Value.int (Nat.cast _) _)) _ _ _)); (fail_if_success (with_reducible show wpAny _ _ (compareOp CmpOp.In _ (Value.ref _)) _ _ _)); (fail_if_success (with_reducible show wpAny _ _ (call (Value.ref _) _) _ _ _)); walk_at "q2")
        rename Fr _ _ _ _ => F11
        rename News _ _ _ _ => N11
        have k11 : Kept (L :: [cv]) h10 _ := seen_mut H F11 (fun q m => (N11 q (by repeat (first | exact m | refine List.Mem.tail _ ?_))).1)
        have nt10 : ∀ s ∈ L :: [cv], NonTup h10 s := fCm ⟨.fr hF10.get, fCm ⟨.list vcv10.1, fNm _⟩⟩
        have ect := N11 _ (.head _)
        have epr := N11 _ (.tail _ (.head _))
        have ecv := N11 _ (.tail _ (.tail _ (.tail _ (.head _))))
        have pk := (vpin10.but k11 (fun mm => nt10 _ mm _ _ _ vpin10.1 rfl rfl)).1
        have hcell : CellAt _ (.ref _) ⟨"latch", 8 + (cells.length : Int), pl, none, nameAt r bit, (a.st r).getD bit 0⟩ := ⟨_, pins, _, pis, _, _, rfl, ⟨_, _, ect.1, rfl, rfl⟩, ⟨_, _, pk, rfl, rfl⟩, hpl, ⟨_, _, _, _, epr.1, rfl, rfl⟩⟩
        have hky : [(r : Int), (bit : Int)] ∉ ys.map (·.1) := fun m => by obtain ⟨p, e⟩ := atKey_isSome.mpr m; rw [hy] at e; cases e
        have hcvN : ∃ cs n, NA gg L _ cv (PySem.W.listOf cs n) ∧ CellsAt _ cs.toList (cells ++ [⟨"latch", 8 + (cells.length : Int), pl, none, nameAt r bit, (a.st r).getD bit 0⟩]) := ⟨_, _, ecv, by rw [Array.toList_push]; exact (hcv10.but k11 nt10).snoc hcell⟩
        have hsz := C.sz
        obtain ⟨C11, kf11⟩ := ci_ok C0 C7 Ce k9 nt8 hF9.get k10 nt9 k11 nt10 F11 V10 ks10 hky dj10 ⟨_, _, vT10, hT10⟩ hcvN ⟨r, bit, rfl, hr, hbit⟩
          ⟨fun c hc => (List.mem_append.mp hc).elim (C.ok.1 c) fun q => (by rw [List.mem_singleton.mp q]; exact ⟨(by show PyData.strOk (Str.ofString "latch") = true; decide +kernel), name_ok r hr bit hbit⟩), fun x hx => (List.mem_append.mp hx).elim (C.ok.2 x) fun q => (by rw [List.mem_singleton.mp q]; exact name_ok r hr bit hbit)⟩
          ⟨by rw [List.length_append, List.length_singleton]; lia, by rw [List.length_append, List.length_singleton]; lia⟩ (fun k => by unfold upd; split; exact Nat.succ_le_succ (Nat.zero_le _); exact Nat.le_succ_of_le (C.sz.2.2.2 k)) (fun k hk => by unfold upd; rw [if_neg hk])
        have kfA := (keptL_kf (fs := outer.filterMap (·.frame)) (a := a) (dv := dv) (tv := tv) (cv := cv) (hb := hb) k7).trans kf11
        clear N11
        try dsimp only
        refine' last_turn ⟨B', X', T'⟩ hg0 hh hun (Nat.succ_lt_succ hN) C0 F11 ⟨rfl, rfl, rfl, rfl, rfl, rfl, rfl⟩ C11 ?_
        intro hZ tkZ jZ kZ
        try dsimp only
        refine ⟨_, _, rfl, jZ, fun b m o e => ?_⟩
        exact (kfA.trans (keptL_kf kZ)) b o e (fun q => (List.mem_append.mp q).elim (hI b m).2.1 (hI b m).2.2) (hI b m).1
theorem turn_flop {w : World} {A : Around} {s : Shared} {base gg hb : Heap} {outer : List Env} {mean : ExcName → Option Value} {mg mb : Str → Option Value} {L I rl stl dv tv cv : Addr} {m : Str → Option Value} {Q : Flow → Shared → Prop} {E : Value → Shared → Prop}
    {a : Adr} {sits : Array Value} {g0 : Heap} {xs ys : TX} {nets : List Int → List Int} {names : List Str} {cells : List Cell} {N : Nat} {h₁ : Heap} {tk₁ : Nat} {row pins : Addr} {rn pn r bit : Nat} {{inv : Int}} {tr0 tr1 tr2 tr3 : Tok} {px : Pos} {pis : Array Value} {pl : List Int}
    (XB : (Mine.hd.heap_39 w.params).In base) (TB : Top Mine.hd.view_39 (looseW Mine.hd.view_39 [Str.ofString "GateloomError"]) mean mg mb base)
    (B' : Below A base outer gg) (X' : (Mine.hd.heap_39 w.params).In gg) (T' : Top Mine.hd.view_39 (looseW Mine.hd.view_39 [Str.ofString "GateloomError"]) mean mg mb gg) (hroom : A.depth < 500) (hh : A.handled = none) (hun : A.units < 600)
    (hg0 : ∀ b, g0.get? b = none → gg.get? b = none) (C0 : CC w base outer gg L hb I a dv tv cv stl sits (outer.filterMap (·.frame))) (hN : N < 8) (C : CI w gg L hb h₁ I a dv tv cv (outer.filterMap (·.frame)) xs ys nets names cells N) (F : Fr gg L h₁ m) (mp : MPins m a dv tv cv stl)
    (hrow : h₁.get? row = some { cls := .type "tuple", data := .seq #[.str (Str.ofString "flop") tr0, .int r tr1, .int bit tr2, .ref pins, .int inv tr3] rn }) (hrn : row ≠ L ∧ gg.get? row = none) (hpi : h₁.get? pins = some { cls := .type "tuple", data := .seq pis pn }) (hpn : pins ≠ L ∧ gg.get? pins = none) (hpl : PyProof.Rows.IntsAre pis.toList pl) (hr4 : r < 4) (hbit : bit < widthAt r)
    (hI : ∀ x ∈ [I, rl], (∃ o, hb.get? x = some o) ∧ x ∉ outer.filterMap (·.frame) ∧ x ∉ W0 L a dv tv cv) :
    Turn PySem.Challenge.rw_sj0046_01.row.prog w (A.deeper (caseEnv L)) (caseEnv L) (.Name (Str.ofString "row") px) caseRows Q E [I, rl] s (JI w A base outer mean mg mb L hb I a dv tv cv stl sits (outer.filterMap (·.frame)) g0 (N + 1)) (.ref row) h₁ tk₁ := turn_kind XB TB B' X' T' hroom hh hun hg0 C0 hN C F mp (.inl ⟨_, _, rfl, rfl, rfl⟩) hrow hrn hpi hpn hpl hr4 hbit hI
theorem turn_latch {w : World} {A : Around} {s : Shared} {base gg hb : Heap} {outer : List Env} {mean : ExcName → Option Value} {mg mb : Str → Option Value} {L I rl stl dv tv cv : Addr} {m : Str → Option Value} {Q : Flow → Shared → Prop} {E : Value → Shared → Prop}
    {a : Adr} {sits : Array Value} {g0 : Heap} {xs ys : TX} {nets : List Int → List Int} {names : List Str} {cells : List Cell} {N : Nat} {h₁ : Heap} {tk₁ : Nat} {row pins : Addr} {rn pn r bit : Nat} {tr0 tr1 tr2 : Tok} {px : Pos} {pis : Array Value} {pl : List Int}
    (XB : (Mine.hd.heap_39 w.params).In base) (TB : Top Mine.hd.view_39 (looseW Mine.hd.view_39 [Str.ofString "GateloomError"]) mean mg mb base)
    (B' : Below A base outer gg) (X' : (Mine.hd.heap_39 w.params).In gg) (T' : Top Mine.hd.view_39 (looseW Mine.hd.view_39 [Str.ofString "GateloomError"]) mean mg mb gg) (hroom : A.depth < 500) (hh : A.handled = none) (hun : A.units < 600)
    (hg0 : ∀ b, g0.get? b = none → gg.get? b = none) (C0 : CC w base outer gg L hb I a dv tv cv stl sits (outer.filterMap (·.frame))) (hN : N < 8) (C : CI w gg L hb h₁ I a dv tv cv (outer.filterMap (·.frame)) xs ys nets names cells N) (F : Fr gg L h₁ m) (mp : MPins m a dv tv cv stl)
    (hrow : h₁.get? row = some { cls := .type "tuple", data := .seq #[.str (Str.ofString "latch") tr0, .int r tr1, .int bit tr2, .ref pins] rn }) (hrn : row ≠ L ∧ gg.get? row = none) (hpi : h₁.get? pins = some { cls := .type "tuple", data := .seq pis pn }) (hpn : pins ≠ L ∧ gg.get? pins = none) (hpl : PyProof.Rows.IntsAre pis.toList pl) (hr4 : r < 4) (hbit : bit < widthAt r)
    (hI : ∀ x ∈ [I, rl], (∃ o, hb.get? x = some o) ∧ x ∉ outer.filterMap (·.frame) ∧ x ∉ W0 L a dv tv cv) :
    Turn PySem.Challenge.rw_sj0046_01.row.prog w (A.deeper (caseEnv L)) (caseEnv L) (.Name (Str.ofString "row") px) caseRows Q E [I, rl] s (JI w A base outer mean mg mb L hb I a dv tv cv stl sits (outer.filterMap (·.frame)) g0 (N + 1)) (.ref row) h₁ tk₁ := turn_kind XB TB B' X' T' hroom hh hun hg0 C0 hN C F mp (.inr ⟨rfl, rfl, rfl⟩) hrow hrn hpi hpn hpl hr4 hbit hI
end
noncomputable abbrev itObj (l : Addr) : Obj := { cls := .type "list_iterator", data := .fields #[.ref l, .int 0 0] }
theorem loop_listE {prog : Program} {w : World} {A : Around} {E : Value → Shared → Prop} {s : Shared} {env : Env} {Q : Flow → Shared → Prop} {target : Expr} {body : List Stmt} {l : Addr} {its : Array Value} (hh : A.handled = none) (hl : s.heap.IsList l its) (J : Nat → Heap → Prop) (h0 : J 0 (s.heap.push (itObj l)))
    (step : ∀ i v h h₁ tk₁, its[i]? = some v → J i h → h.IsListIter s.heap.objs.size l i → h₁.IsListIter s.heap.objs.size l (i + 1) → Kept [s.heap.objs.size] h h₁ → Turn prog w A env target body Q E [s.heap.objs.size, l] s (J (i + 1)) v h₁ tk₁)
    (done : ∀ h h₁ tk₁, J its.size h → h.IsListIter s.heap.objs.size l its.size → Kept [s.heap.objs.size] h h₁ → Q .next { s with heap := h₁, toks := tk₁ }) :
    wpAny (model prog w) A (pyIter (.ref l)) (fun it s₂ => LoopOwn prog w A env target body Q E it s₂) E s := by
  obtain ⟨ol, hol, _⟩ := id hl
  refine wpAny_pyIter_list hl ⟨_, _, _, _, _, _, fun i h => J i h ∧ h.IsListIter s.heap.objs.size l i, rfl, Walks.list hh s.heap.objs.size l (Nat.ne_of_lt (Heap.lt_size hol)) its, ⟨⟨_, Heap.get?_push_size _ rfl, rfl, rfl⟩, hl.at fun o e => Heap.get?_push_of_some _ e⟩, ⟨h0, ⟨_, Heap.get?_push_size _ rfl, rfl, rfl⟩⟩, fun i v s E' Q' st hq => letGo_listiter st.1 hq, fun i v h h₁ tk₁ hi hP hJ hst k => ?_, fun h h₁ tk₁ hJ k => done h h₁ tk₁ hJ.1 hJ.2 k⟩
  have t := Turn.run (s := s) (s₂ := { s with heap := s.heap.push { cls := .type "list_iterator", data := .fields #[.ref l, .int 0 0] } }) (fp := [s.heap.objs.size, l]) (St := fun h => h.IsListIter s.heap.objs.size l (i + 1) ∧ h.IsList l its) (fun _ _ => rfl) (fun h' kk => ⟨hst.1.at fun o e => kk _ (.head _) o e, hst.2.at fun o e => kk _ (.tail _ (.head _)) o e⟩) (step i v h h₁ tk₁ hP hJ.1 hJ.2 hst.1 k)
  refine wpAny_mono t (fun _ s₃ h₃ => wpAny_mono h₃ (fun f s₄ h₄ => ?_) fun _ _ e => e) fun _ _ e => e
  cases f with
  | ret v => exact h₄
  | brk => exact h₄
  | cont => obtain ⟨h'', tk'', e, j1, j2⟩ := h₄; exact ⟨h'', tk'', e, ⟨j1, j2.1⟩, j2⟩
  | next => obtain ⟨h'', tk'', e, j1, j2⟩ := h₄; exact ⟨h'', tk'', e, ⟨j1, j2.1⟩, j2⟩
inductive RowAt (h gg : Heap) (L : Addr) : Value → Prop
  | net {row : Addr} {rn r bit : Nat} {net : Int} {tr0 tr1 tr2 tr3 : Tok} (hrow : h.get? row = some { cls := .type "tuple", data := .seq #[.str (Str.ofString "net") tr0, .int r tr1, .int bit tr2, .int net tr3] rn }) (hrn : row ≠ L ∧ gg.get? row = none) (hr : r < 5) (hbit : bit < widthAt r) : RowAt h gg L (.ref row)
  | flop {row pins : Addr} {rn pn r bit : Nat} {inv : Int} {tr0 tr1 tr2 tr3 : Tok} {pis : Array Value} {pl : List Int} (hrow : h.get? row = some { cls := .type "tuple", data := .seq #[.str (Str.ofString "flop") tr0, .int r tr1, .int bit tr2, .ref pins, .int inv tr3] rn }) (hrn : row ≠ L ∧ gg.get? row = none) (hpi : h.get? pins = some { cls := .type "tuple", data := .seq pis pn }) (hpn : pins ≠ L ∧ gg.get? pins = none) (hpl : PyProof.Rows.IntsAre pis.toList pl) (hr : r < 4) (hbit : bit < widthAt r) : RowAt h gg L (.ref row)
  | latch {row pins : Addr} {rn pn r bit : Nat} {tr0 tr1 tr2 : Tok} {pis : Array Value} {pl : List Int} (hrow : h.get? row = some { cls := .type "tuple", data := .seq #[.str (Str.ofString "latch") tr0, .int r tr1, .int bit tr2, .ref pins] rn }) (hrn : row ≠ L ∧ gg.get? row = none) (hpi : h.get? pins = some { cls := .type "tuple", data := .seq pis pn }) (hpn : pins ≠ L ∧ gg.get? pins = none) (hpl : PyProof.Rows.IntsAre pis.toList pl) (hr : r < 4) (hbit : bit < widthAt r) : RowAt h gg L (.ref row)
theorem RowAt.but {h h' gg gg' : Heap} {L : Addr} {v : Value} (R : RowAt h gg L v) (k : ∀ b o, h.get? b = some o → b ≠ L → gg.get? b = none → (∀ its n, o.cls = .type "tuple" → o.data = .seq its n → h'.get? b = some o)) (g : ∀ b, gg.get? b = none → gg'.get? b = none) : RowAt h' gg' L v := by
  cases R with
  | net hrow hrn hr hbit => exact .net (k _ _ hrow hrn.1 hrn.2 _ _ rfl rfl) ⟨hrn.1, g _ hrn.2⟩ hr hbit
  | flop hrow hrn hpi hpn hpl hr hbit => exact .flop (k _ _ hrow hrn.1 hrn.2 _ _ rfl rfl) ⟨hrn.1, g _ hrn.2⟩ (k _ _ hpi hpn.1 hpn.2 _ _ rfl rfl) ⟨hpn.1, g _ hpn.2⟩ hpl hr hbit
  | latch hrow hrn hpi hpn hpl hr hbit => exact .latch (k _ _ hrow hrn.1 hrn.2 _ _ rfl rfl) ⟨hrn.1, g _ hrn.2⟩ (k _ _ hpi hpn.1 hpn.2 _ _ rfl rfl) ⟨hpn.1, g _ hpn.2⟩ hpl hr hbit
theorem turn_any {w : World} {A : Around} {s : Shared} {base gg hb : Heap} {outer : List Env} {mean : ExcName → Option Value} {mg mb : Str → Option Value} {L I rl stl dv tv cv : Addr} {m : Str → Option Value} {Q : Flow → Shared → Prop} {E : Value → Shared → Prop}
    {a : Adr} {sits : Array Value} {g0 : Heap} {xs ys : TX} {nets : List Int → List Int} {names : List Str} {cells : List Cell} {N : Nat} {h₁ : Heap} {tk₁ : Nat} {v : Value} {px : Pos}
    (XB : (Mine.hd.heap_39 w.params).In base) (TB : Top Mine.hd.view_39 (looseW Mine.hd.view_39 [Str.ofString "GateloomError"]) mean mg mb base)
    (Gd : Ground w A base outer mean mg mb gg) (hroom : A.depth < 500) (hh : A.handled = none) (hun : A.units < 600)
    (hg0 : ∀ b, g0.get? b = none → gg.get? b = none) (C0 : CC w base outer gg L hb I a dv tv cv stl sits (outer.filterMap (·.frame))) (hN : N < 8) (C : CI w gg L hb h₁ I a dv tv cv (outer.filterMap (·.frame)) xs ys nets names cells N) (F : Fr gg L h₁ m) (mp : MPins m a dv tv cv stl)
    (hR : RowAt h₁ gg L v) (hI : ∀ x ∈ [I, rl], (∃ o, hb.get? x = some o) ∧ x ∉ outer.filterMap (·.frame) ∧ x ∉ W0 L a dv tv cv) :
    Turn PySem.Challenge.rw_sj0046_01.row.prog w (A.deeper (caseEnv L)) (caseEnv L) (.Name (Str.ofString "row") px) caseRows Q E [I, rl] s (JI w A base outer mean mg mb L hb I a dv tv cv stl sits (outer.filterMap (·.frame)) g0 (N + 1)) v h₁ tk₁ := by
  cases hR with
  | net hrow hrn hr hbit => exact turn_net XB TB Gd.B Gd.X Gd.T hroom hh hun hg0 C0 hN C F mp hrow hrn hr hbit fun x m => ⟨(hI x m).1, (hI x m).2.2⟩
  | flop hrow hrn hpi hpn hpl hr hbit => exact turn_flop XB TB Gd.B Gd.X Gd.T hroom hh hun hg0 C0 hN C F mp hrow hrn hpi hpn hpl hr hbit hI
  | latch hrow hrn hpi hpn hpl hr hbit => exact turn_latch XB TB Gd.B Gd.X Gd.T hroom hh hun hg0 C0 hN C F mp hrow hrn hpi hpn hpl hr hbit hI
theorem nonTup_iter {h : Heap} {I l : Addr} {i : Nat} (x : h.IsListIter I l i) : NonTup h I := by
  obtain ⟨o, e, c, _⟩ := x
  exact .cls e (fun q => by rw [c] at q; injection q with q; exact absurd q (by decide))
theorem CI.movI {w : World} {gg : Heap} {L : Addr} {hb h h' : Heap} {I : Addr} {a : Adr} {dv tv cv : Addr} {fs : List Addr} {xs ys : TX} {nets : List Int → List Int} {names : List Str} {cells : List Cell} {N : Nat} (C : CI w gg L hb h I a dv tv cv fs xs ys nets names cells N) (k : Kept [I] h h') (hI : I ∉ W0 L a dv tv cv) (hf : I ∉ fs) (nt : NonTup h I) (ex : ∃ o, hb.get? I = some o) (ex' : ∃ o, h'.get? I = some o) : CI w gg L hb h' I a dv tv cv fs xs ys nets names cells N := by
  have nT : ∀ s ∈ [I], NonTup h s := fCm ⟨nt, fNm _⟩
  have off : ∀ {x : Addr}, x ∈ W0 L a dv tv cv → x ∉ [I] := fun m => nm1 fun q => hI (q ▸ m)
  have offT : ∀ {A : Addr} {zs : TX} (T : Tab w gg L hb h A zs nets), ∀ s ∈ [I], ∀ z ∈ zs, z.2.2 ≠ .ref s := fun T => fCm ⟨T.off ex, fNm _⟩
  exact ⟨fun b o e nf n => k _ _ (C.kb b o e nf n) (nm1 fun q => n (q ▸ .head _)), live_kept C.live k (fCm ⟨ex', fNm _⟩), C.D.but k (off (.tail _ (.head _))) (offT C.D) nT, C.V.but k (off (.tail _ (.tail _ (.tail _ (.tail _ (.tail _ (.head _))))))) (offT C.V) nT, C.dj, C.ks, C.kn, C.five.but k ⟨off (.tail _ (.tail _ (.head _))), off (.tail _ (.tail _ (.tail _ (.tail _ (.tail _ (.tail _ (.head _))))))), off (.tail _ (.tail _ (.tail _ (.head _)))), off (.tail _ (.tail _ (.tail _ (.tail _ (.head _))))), off (.tail _ (.tail _ (.tail _ (.tail _ (.tail _ (.tail _ (.tail _ (.head _)))))))) ⟩ nT, C.ok, C.sz, C.ab, C.fw, fun b hb' o e => let ⟨sl, e'⟩ := C.fu b hb' o e; ⟨sl, k _ _ e' (nm1 fun q => hf (q ▸ hb'))⟩⟩
section
local macro_rules | `(tactic| walk_at "assign Tuple") => `(tactic| walk_at "aT")

noncomputable def Multi (len : List Int → Nat) (xs : TX) (r : Nat) : Prop := r < 4 ∧ ∃ x ∈ xs, ∃ b : Nat, x.1 = [(r : Int), (b : Int)] ∧ 1 < len x.1
structure Sigs (w : World) (base : Heap) (outer : List Env) (h : Heap) (ds dd sl : Addr) (td : Nat → Tok) (vd : Nat → Value) (its : Array Value) (sn : Nat) : Prop where
  f_ds : h.get? ds = some (instObj 239 dd)
  f_dd : h.get? dd = some (ddOf w.params td vd sl)
  f_sl : h.get? sl = some (PySem.W.listOf its sn)
  o_ds : Own base outer ds
  o_dd : Own base outer dd
  sigs : ∀ r : Nat, r < 5 → ∃ sg sd ts us, its[r]? = some (.ref sg) ∧ h.get? sg = some (instObj 176 sd) ∧ h.get? sd = some (sdAt r w.params ts us) ∧ Own base outer sg ∧ Own base outer sd
set_option maxHeartbeats 8000000 in
theorem check_spec {w : World} {A : Around} {s : Shared} {base : Heap} {outer : List Env} {mean : ExcName → Option Value} {mg mb : Str → Option Value} {R : Result → Shared → Prop}
    {wr wd D I M ds dd sl : Addr} {tw td : Nat → Tok} {vw vd : Nat → Value} {its : Array Value} {sn : Nat} {od : Obj} {xs : TX} {len : List Int → Nat}
    (B : Below A base outer s.heap) (XB : (Mine.hd.heap_39 w.params).In base) (TB : Top Mine.hd.view_39 (looseW Mine.hd.view_39 [Str.ofString "GateloomError"]) mean mg mb base) (hroom : A.depth < 650) (hun : A.units < 800) (hh : A.handled = none)
    (hwr : s.heap.get? wr = some (instObj 85 wd)) (hwd : s.heap.get? wd = some (wdOf w.params tw vw D I M)) (owr : Own base outer wr) (owd : Own base outer wd) (G : Sigs w base outer s.heap ds dd sl td vd its sn)
    (hD : s.heap.get? D = some od) (oD : Own base outer D) (lo : (D == sysModules) = false) (T : TabObj w s.heap od xs) (hk : ∀ x ∈ xs, ∃ r b : Nat, x.1 = [(r : Int), (b : Int)] ∧ r < 5 ∧ b < 100) (h64 : xs.length < 64)
    (hl : ∀ x ∈ xs, ∃ la li n, x.2.2 = .ref la ∧ s.heap.get? la = some (PySem.W.listOf li n) ∧ li.size = len x.1 ∧ len x.1 < 1000 ∧ Own base outer la)
    (hok : ∀ h' tk', (∀ r, ¬ Multi len xs r) → Kept [] s.heap h' → R (.ok (.ret .none)) { s with heap := h', toks := tk' })
    (hbad : ∀ r h' tk' e dx es, Multi len xs r → (∀ r', r' < r → ¬ Multi len xs r') → EsOf w.params (Str.ofString "several_drivers") (Str.ofString (pathAt r)) (20 + r) es → Thrown s.heap h' outer e dx 52 es 3 → R (.error (.ref e)) { s with heap := h', toks := tk' }) :
    codeAny (model PySem.Challenge.rw_sj0046_01.row.prog w) A (.call (.ref 117) ⟨[.ref wr, .ref ds], []⟩) R s := by
  refine hold fun gP kont => ?_
  obtain ⟨h, g, d, tt, os⟩ := s
  refine kont ?_
  clear kont gP
  refine' enter_all (binds := [(Str.ofString "wires", .ref wr), (Str.ofString "design", .ref ds)]) B XB TB ?k6 ?k7 ?k8 ?k9 ?kB ?_ ?c2 ?c3 ?c4 ?c5
  case k8 => exact Nat.lt_of_lt_of_le hroom (by decide)
  tb_start
  intro gg L h₁ hg1 hg2 hL k1 F B' X' T'
  try dsimp only
  have hLn : ∀ a ∈ [L], h.get? a = none := fun a m => by rw [List.mem_singleton.mp m, hL]; exact Heap.get?_none_of_le (Nat.le_refl _)
  have neL : ∀ {a : Addr} {o : Obj}, h.get? a = some o → a ≠ L := fun e q => by rw [hLn _ (List.mem_singleton.mpr q)] at e; cases e
  k_steps
  refine' For_own ?_ ?hs ?hE
  case hs => intro _; rfl
  case hE => passes_own
  have gwr : NA gg L h₁ wr (instObj 85 wd) := ⟨k1.get hwr, neL hwr, hg2 _ owr⟩
  have gwd : NA gg L h₁ wd (wdOf w.params tw vw D I M) := ⟨k1.get hwd, neL hwd, hg2 _ owd⟩
  have gds : NA gg L h₁ ds (instObj 239 dd) := ⟨k1.get G.f_ds, neL G.f_ds, hg2 _ G.o_ds⟩
  have gdd : NA gg L h₁ dd (ddOf w.params td vd sl) := ⟨k1.get G.f_dd, neL G.f_dd, hg2 _ G.o_dd⟩
  obtain ⟨rest, N, H⟩ := see F [(wr, _), (wd, _)] (fCm ⟨gwr, fCm ⟨gwd, fNm _⟩⟩)
  try dsimp only [List.nil_append, List.cons_append] at N
  k_steps
  rename Fr _ _ _ _ => F2
  rename News _ _ _ _ => N2
  have k2 := seen H F2 (fun q m => (N2 q (by repeat (first | exact m | refine List.Mem.tail _ ?_))).1)
  have K2 : Kept [] h _ := k1.thru k2 hLn
  refine' sorted_keys hh F2 lo (K2.get hD) (T.kept K2) (fun x hx => let ⟨r, b, e, _, b2⟩ := hk x hx; ⟨r, b, e, b2⟩) h64 ?_
  intro D' h3 tk3 ys c F3 k3 nD' hpm hso
  clear F2 N2
  have K3 : Kept [] h h3 := K2.thru k3 hLn
  try dsimp only
  refine' wpAny_pyIter_list (listAt nD'.1) ?_
  have nI : h3.get? h3.objs.size = none := Heap.get?_none_of_le (Nat.le_refl _)
  have hysl : ys.length = xs.length := hpm.length_eq
  refine ⟨h3.objs.size, _, _, _, _, _, fun i hc => ∃ m, Fr gg L hc m ∧ m (Str.ofString "wires") = some (.ref wr) ∧ m (Str.ofString "design") = some (.ref ds) ∧ Kept [L] h3 hc ∧ (∀ (j : Nat) y, j < i → ys[j]? = some y → ∀ r b : Nat, y.1 = [(r : Int), (b : Int)] → r < 4 → ¬ 1 < len y.1), rfl, Walks.list (show (A.deeper _).handled = none from hh) _ D' (Nat.ne_of_lt (Heap.lt_size nD'.1)) _, ⟨⟨_, Heap.get?_push_size _ rfl, rfl, rfl⟩, (listAt nD'.1).at fun o e => Heap.get?_push_of_some _ e⟩, ?_, ?_, ?_, ?_⟩
  · exact ⟨_, F3.push _, rfl, rfl, fun b o e _ => Heap.get?_push_of_some _ e, fun j y hj => absurd hj (Nat.not_lt_zero _)⟩
  · exact fun i v s E' Q' st hq => letGo_listiter st.1 hq
  · intro i v hc hc1 tkc hi hP ⟨m, Fc, hmw, hmd, kc, hno⟩ hst1 kI
    have F1 := led_kept kI Fc (fCm ⟨⟨fr_none F3 nI, fr_ne F3 nI⟩, fNm _⟩)
    have hIL : h3.objs.size ≠ L := fr_ne F3 nI
    replace F1 := pin (x := Str.ofString "wires") (pin F1 hmd) ((if_neg (by decide)).trans hmw)
    have kc1 : Kept [L] h3 hc1 := fun b o e n => kI b o (kc b o e n) (nm1 (ne_none nI e).symm)
    have K4 : Kept [] h hc1 := K3.thru kc1 hLn
    clear F3 Fc
    have hi' : i < ys.length := by simpa using hi
    refine hold fun gP kont => ?_
    obtain ⟨y, hy⟩ : ∃ y, ys[i]? = some y := ⟨_, List.getElem?_eq_getElem hi'⟩
    have hyx : y ∈ xs := hpm.mem_iff.mp (List.mem_of_getElem? hy)
    obtain ⟨r, b, hyk, hr5, hb100⟩ := hk y hyx
    refine kont ?_
    clear kont gP
    have hv : v = .ref y.2.1 := by
      have := hP
      rw [List.getElem?_toArray, List.getElem?_map, hy] at this
      exact (Option.some.inj this).symm
    subst hv
    have hkey := (T.kept K4).keys y hyx
    rw [hyk] at hkey
    refine hold fun gP kont => ?_
    obtain ⟨ko, t0, u0, kn, hko, hkc, hkd⟩ := key_items hkey
    have htup : IsTup hc1 y.2.1 #[.int (r : Int) t0, .int (b : Int) u0] := ⟨ko, hko, hkc, kn, hkd⟩
    have vwr : NA gg L hc1 wr _ := ⟨K4.get hwr, gwr.2⟩
    have vwd : NA gg L hc1 wd _ := ⟨K4.get hwd, gwd.2⟩
    have vds : NA gg L hc1 ds _ := ⟨K4.get G.f_ds, gds.2⟩
    have vdd : NA gg L hc1 dd _ := ⟨K4.get G.f_dd, gdd.2⟩
    obtain ⟨rest, N, H⟩ := see F1 [(wr, _), (wd, _), (ds, _), (dd, _)] (fCm ⟨vwr, fCm ⟨vwd, fCm ⟨vds, fCm ⟨vdd, fNm _⟩⟩⟩⟩)
    refine kont ?_
    clear kont gP
    try dsimp only [List.nil_append, List.cons_append] at N
    k_steps
    rename Fr _ _ _ _ => F5
    rename News _ _ _ _ => N5
    have k5 := seen H F5 (fun q m => (N5 q (by repeat (first | exact m | refine List.Mem.tail _ ?_))).1)
    have K5 : Kept [] h _ := K4.thru k5 hLn
    refine hold fun gP kont => ?_
    obtain ⟨sg, sd, ts, us, hsx, hsg, hsd0, osg, osd⟩ := G.sigs r hr5
    refine kont ?_
    clear kont gP
    have hl5 := listAt (K5.get G.f_sl)
    walk_at "q0"
    refine' sub_any ?ht slot_list_getitem.lookup (wpAny_getItem_list hl5 (Int.natCast_nonneg _) (by first | exact i63 (by with_reducible assumption) (Nat.le_of_ble_eq_true rfl) | exact i63 (Nat.lt_of_lt_of_le (by with_reducible assumption) (widthAt_le _)) (Nat.le_of_ble_eq_true rfl) | lia) (idx_nat hsx) ?_) (by with_unfolding_all rfl)
    case ht => exact hl5.typeIs
    clear N5
    refine hold fun gP kont => ?_
    obtain ⟨kd1, wi1, sg1, ms1, ls1, fi1, la1, hsde⟩ := sdAt_is r hr5 w.params ts us
    have hsd : h.get? sd = some (sdOf w.params ts us r (pathAt r) kd1 wi1 sg1 ms1 ls1 fi1 la1 (20 + r)) := hsd0.trans (congrArg some hsde)
    obtain ⟨rest, N, H⟩ := see F5 [(sg, _), (sd, _), (wr, _), (wd, _)] (fCm ⟨⟨K5.get hsg, neL hsg, hg2 _ osg⟩, fCm ⟨⟨K5.get hsd, neL hsd, hg2 _ osd⟩, fCm ⟨⟨K5.get hwr, gwr.2⟩, fCm ⟨⟨K5.get hwd, gwd.2⟩, fNm _⟩⟩⟩⟩)
    refine kont ?_
    clear kont gP
    try dsimp only [List.nil_append, List.cons_append] at N
    try dsimp only
    k_steps
    rename Fr _ _ _ _ => F6
    rename News _ _ _ _ => N6
    have k6 := seen H F6 (fun q m => (N6 q (by repeat (first | exact m | refine List.Mem.tail _ ?_))).1)
    have K6 : Kept [] h _ := K5.thru k6 hLn
    walk_at "q0"
    refine' wpAny_call (isnet_spec (B'.push F6) XB TB ?z1 hr5 (K6.get hsg) ?z2 ?z3 ?z4 ?_)
    case z1 => exact roomD hroom (by decide)
    case z2 => exact K6.get hsd0
    case z3 => exact osg.frame (neL hsg)
    case z4 => exact osd.frame (neL hsd)
    intro h7 tk7 k7
    have F7 := led_kept k7 F6 (fNm _)
    have N7 := led_grow N6 fun b o q => k7.get q
    clear F6 N6
    try dsimp only
    by_cases hr4 : r = 4
    · rw [decide_eq_true hr4]
      try dsimp only
      k_steps
      rename Fr _ _ _ _ => F8
      rename News _ _ _ _ => N8
      have K8 : Kept [L] hc1 _ := k5.trans (seen H F8 (fun q m => (N8 q (by repeat (first | exact m | refine List.Mem.tail _ ?_))).1))
      refine ⟨_, _, rfl, ⟨_, F8, rfl, rfl, kc1.trans K8, fun j y' hj hy' r' b' e' h4 => ?_⟩, hst1.1.at fun o e => K8 _ _ e (nm1 hIL), hst1.2.at fun o e => K8 _ _ e (nm1 nD'.2.1)⟩
      rcases Nat.lt_succ_iff_lt_or_eq.mp hj with hj | hj
      · exact hno j y' hj hy' r' b' e' h4
      · rw [hj, hy] at hy'
        cases hy'
        rw [hyk] at e'
        injection e' with e1 _
        lia
    · rw [decide_eq_false hr4]
      have hr4' : r < 4 := by lia
      try dsimp only
      k_steps
      rename Fr _ _ _ _ => F8
      rename News _ _ _ _ => N8
      have K8 : Kept [L] hc1 _ := k5.trans (seen H F8 (fun q m => (N8 q (by repeat (first | exact m | refine List.Mem.tail _ ?_))).1))
      have K8h : Kept [] h _ := K4.thru K8 hLn
      have hu1 : ∀ env, (A.deeper env).units + 1 < cLine := hu_of hun (Nat.le_of_ble_eq_true rfl)
      have hd8 := (T.kept K8h).dictOfH (fun _ _ e => e) (K8h.get hD)
      have hat : atKey xs [(r : Int), (b : Int)] = some y.2 := by rw [← hyk]; exact atKey_mem hyx T.nodup
      refine' subscriptTail_builtin hd8.typeIs slot_dict_getitem.lookup (wpAny_getItem_heap (tupleKind_room_in1 (hu1 _)) (key_is (w := w) (N8 _ (.head _)).1) hd8 hat ?_) (by with_unfolding_all rfl)
      refine hold fun gP kont => ?_
      obtain ⟨la, li, ln, hla, hli, hlen, hlb, ola⟩ := hl y hyx
      refine kont ?_
      clear kont gP
      rw [hla]
      clear N8
      obtain ⟨rest, N, H⟩ := see F8 [(la, _), (sg, _), (sd, _)] (fCm ⟨⟨K8h.get hli, neL hli, hg2 _ ola⟩, fCm ⟨⟨K8h.get hsg, neL hsg, hg2 _ osg⟩, fCm ⟨⟨K8h.get hsd, neL hsd, hg2 _ osd⟩, fNm _⟩⟩⟩)
      try dsimp only [List.nil_append, List.cons_append] at N
      try dsimp only
      k_steps
      · rename Fr _ _ _ _ => F9
        rename News _ _ _ _ => N9
        have k9 := seen H F9 (fun q m => (N9 q (by repeat (first | exact m | refine List.Mem.tail _ ?_))).1)
        have K9h : Kept [] h _ := K8h.thru k9 hLn
        have hm1 : 1 < len y.1 := by lia
        refine hold fun gP kont => ?_
        obtain ⟨cnm, cq, cN, cbs, cbm, chdct, csn, csub, cab, ccol, cdd, c0, c1, c2, c3, c5, cnew, hC, hbase, hbT⟩ := kts_cls X' (show ktsIn (Mine.hd.heap_39 w.params) 52 "BaseException" = true by kts_isx)
        refine kont ?_
        clear kont gP
        refine' x_Raise (C := 52) (nm := cnm) (q := cq) (N := cN) (bs := cbs) (bm := cbm) (hdct := chdct) (sn := csn) (sub := csub) (ab := cab) (col := ccol) (dd := cdd) (k0 := c0) (k1 := c1) (k2 := c2) (k3 := c3) (k5 := c5) (newId := cnew) hbT hh ?_
        k_steps
        walk_at "q0"
        refine' wpAny_call (several_spec (B'.push F9) XB TB ?z1 (K9h.get hsg) ?z3 ⟨osg.1, osd.1⟩ ?z2 ?_)
        case z1 => exact roomD hroom (by decide)
        case z3 => exact K9h.get hsd
        case z2 => exact fun env he => ⟨(osg.frame (neL hsg)).2 env he, (osd.frame (neL hsd)).2 env he⟩
        intro h5 tk5 e dx es Md
        obtain ⟨tp, hob⟩ := Md.obj
        refine ⟨e, some dx, _, _, rfl, Md.keep.get (F9.keep _ _ hC), hob, rfl, ?_⟩
        refine' x_thrown (G := h) (K9h.trans Md.keep) (F9.kept fun b o q => Md.keep.get q) B' hg1 hob rfl Md.dict Md.ne (fr_ne F9 Md.newD) ?y1 (K9h.none_ Md.newE) (K9h.none_ Md.newD) ?_
        case y1 => exact hLn _ (.head _)
        refine fun h6 T6 => hbad r h6 _ e dx es ⟨hr4', y, hyx, b, hyk, hm1⟩ (fun r' hr' ⟨h4, y', hyx', b', e', hm'⟩ => ?_) Md.es_ T6
        obtain ⟨j, hj, hyj⟩ := List.getElem_of_mem (hpm.mem_iff.mpr hyx')
        have hyj' : ys[j]? = some y' := by rw [List.getElem?_eq_getElem hj, hyj]
        rcases Nat.lt_trichotomy j i with q | q | q
        · exact hno j y' q hyj' r' b' e' h4 hm'
        · rw [q, hy] at hyj'
          cases hyj'
          rw [hyk] at e'
          injection e' with e1 _
          lia
        · have hp := (List.pairwise_iff_getElem.mp hso) i j hi' hj q
          have hyi : ys[i] = y := by rw [List.getElem?_eq_getElem hi'] at hy; exact Option.some.inj hy
          rw [hyi, hyj, hyk, e'] at hp
          refine hold fun gP kont => ?_
          obtain ⟨r2, b2, e2, _, hb2⟩ := hk y' hyx'
          refine kont ?_
          clear kont gP
          rw [e'] at e2
          injection e2 with e3 e4
          injection e4 with e5 _
          have hp' : (r : Int) * 100 + b ≤ (r' : Int) * 100 + b' := hp
          lia
      · rename Fr _ _ _ _ => F9
        rename News _ _ _ _ => N9
        have K9 : Kept [L] hc1 _ := K8.trans (seen H F9 (fun q m => (N9 q (by repeat (first | exact m | refine List.Mem.tail _ ?_))).1))
        have hm1 : ¬ 1 < len y.1 := by lia
        refine ⟨_, _, rfl, ⟨_, F9, rfl, rfl, kc1.trans K9, fun j y' hj hy' r' b' e' h4 => ?_⟩, hst1.1.at fun o e => K9 _ _ e (nm1 hIL), hst1.2.at fun o e => K9 _ _ e (nm1 nD'.2.1)⟩
        rcases Nat.lt_succ_iff_lt_or_eq.mp hj with hj | hj
        · exact hno j y' hj hy' r' b' e' h4
        · rw [hj, hy] at hy'
          cases hy'
          exact hm1
  · intro hc hc1 tkc ⟨m, Fc, hmw, hmd, kc, hno⟩ kI
    have kc1 : Kept [L] h3 hc1 := fun b o e n => kI b o (kc b o e n) (nm1 (ne_none nI e).symm)
    have K4 : Kept [] h hc1 := K3.thru kc1 hLn
    clear F3 Fc
    try dsimp only
    k_steps
    refine hok _ _ (fun r ⟨h4, y, hyx, b, e, hm⟩ => ?_) K4
    obtain ⟨j, hj, hyj⟩ := List.getElem_of_mem (hpm.mem_iff.mpr hyx)
    exact hno j y (by simpa using hj) (by rw [List.getElem?_eq_getElem hj, hyj]) r b e h4 hm
end
section
local macro_rules | `(tactic| walk_at "assign Tuple") => `(tactic| walk_at "aT")

noncomputable def MultiB (len : List Int → Nat) (xs : TX) (r : Nat) : Prop := r < 4 ∧ ∃ b : Nat, b < widthAt r ∧ ∃ x ∈ xs, x.1 = [(r : Int), (b : Int)] ∧ 1 < len x.1
set_option maxHeartbeats 8000000 in
theorem twice_spec {w : World} {A : Around} {s : Shared} {base : Heap} {outer : List Env} {mean : ExcName → Option Value} {mg mb : Str → Option Value} {R : Result → Shared → Prop}
    {D : Addr} {od : Obj} {xs : TX} {len : List Int → Nat}
    (B : Below A base outer s.heap) (XB : (Mine.hd.heap_39 w.params).In base) (TB : Top Mine.hd.view_39 (looseW Mine.hd.view_39 [Str.ofString "GateloomError"]) mean mg mb base) (hroom : A.depth < 550) (hun : A.units < 800) (hh : A.handled = none)
    (hD : s.heap.get? D = some od) (oD : Own base outer D) (lo : (D == sysModules) = false) (T : TabObj w s.heap od xs)
    (hl : ∀ x ∈ xs, ∃ la li n, x.2.2 = .ref la ∧ s.heap.get? la = some (PySem.W.listOf li n) ∧ li.size = len x.1 ∧ len x.1 < 1000 ∧ Own base outer la)
    (hok : ∀ h' tk', (∀ r, ¬ MultiB len xs r) → Kept [] s.heap h' → R (.ok (.ret .none)) { s with heap := h', toks := tk' })
    (hbad : ∀ r h' tk' tp t1 t2 t3, MultiB len xs r → (∀ r', r' < r → ¬ MultiB len xs r') → Kept [] s.heap h' → s.heap.get? tp = none → h'.get? tp = some { cls := .type "tuple", data := .seq #[.str (Str.ofString "several_drivers") t1, .int (20 + r) t2, .str (Str.ofString (pathAt r)) t3] } → R (.ok (.ret (.ref tp))) { s with heap := h', toks := tk' }) :
    codeAny (model PySem.Challenge.rw_sj0046_01.row.prog w) A (.call (.ref 376) ⟨[.ref D], []⟩) R s := by
  refine hold fun gP kont => ?_
  obtain ⟨h, g, d, tt, os⟩ := s
  refine kont ?_
  clear kont gP
  refine' enter_all (binds := [(Str.ofString "driven", .ref D)]) B XB TB ?k6 ?k7 ?k8 ?k9 ?kB ?_ ?c2 ?c3 ?c4 ?c5
  case k8 => exact Nat.lt_of_lt_of_le hroom (by decide)
  tb_start
  intro gg L h₁ hg1 hg2 hL k1 F B' X' T'
  try dsimp only
  have hLn : ∀ a ∈ [L], h.get? a = none := fun a m => by rw [List.mem_singleton.mp m, hL]; exact Heap.get?_none_of_le (Nat.le_refl _)
  have neL : ∀ {a : Addr} {o : Obj}, h.get? a = some o → a ≠ L := fun e q => by rw [hLn _ (List.mem_singleton.mpr q)] at e; cases e
  walk_at "q0"
  repeat ((fail_if_success (with_reducible show wpAny _ _ (exec (Stmt.For _ _ _ _ _) _) _ _ _)); (fail_if_success (with_reducible show wpAny _ _ (subscriptTail _ _ (Value.ref _) (Value.int (Nat.cast _) _)) _ _ _)); (fail_if_success (with_reducible show wpAny _ _ (compareOp CmpOp.In _ (Value.ref _)) _ _ _)); (fail_if_success (with_reducible show wpAny _ _ (call (Value.ref _) _) _ _ _)); walk_at "q2")
  refine' For_own ?_ ?hs ?hE
  case hs => intro _; rfl
  case hE => passes_own
  obtain ⟨rest, N, H⟩ := see F [] (fNm _)
  try dsimp only [List.nil_append, List.cons_append] at N
  k_steps
  have hrg := (by assumption : IsRange _ _ _ _ _ _ _ _)
  rename Fr _ _ _ _ => F2
  rename News _ _ _ _ => N2
  have K2 : Kept [] h _ := k1.thru (seen H F2 (fun q m => (N2 q (by repeat (first | exact m | refine List.Mem.tail _ ?_))).1)) hLn
  refine' loop_range (n := 4) (show (A.deeper _).handled = none from hh) hrg (by decide) (fun i hc => ∃ m, Fr gg L hc m ∧ m (Str.ofString "driven") = some (.ref D) ∧ Kept [] h hc ∧ ∀ r, r < i → ¬ MultiB len xs r) ?h0 ?step ?done
  case h0 => exact fun o => ⟨_, F2.push o, rfl, K2.thru (S := []) (fun b o' e _ => Heap.get?_push_of_some _ e) (fNm _), fun r hr => absurd hr (Nat.not_lt_zero _)⟩
  case done =>
    intro hc hc1 tkc hPat3 kI
    obtain ⟨m, Fc, hmd, kc, hno⟩ := hPat3
    have F3 := turn_fr F2 Fc kI
    have K3 := turn_kept K2 kc kI
    clear F2 Fc
    try dsimp only
    k_steps
    rename Fr _ _ _ _ => F4
    exact hok _ _ (fun r hr => hno r hr.1 hr) K3
  case step =>
    intro r tr hc hc1 tkc hr4 hPat6 kI
    obtain ⟨m, Fc, hmd, kc, hno⟩ := hPat6
    have F3 := pin (turn_fr F2 Fc kI) hmd
    have K3 := turn_kept K2 kc kI
    have hIL := turn_ne F2
    unfold Turn
    clear Fc F2
    obtain ⟨rest, N, H⟩ := see F3 [] (fNm _)
    try dsimp only [List.nil_append, List.cons_append] at N
    walk_at "q0"
    repeat ((fail_if_success (with_reducible show wpAny _ _ (exec (Stmt.For _ _ _ _ _) _) _ _ _)); (fail_if_success (with_reducible show wpAny _ _ (subscriptTail _ _ (Value.ref _) (Value.int (Nat.cast _) _)) _ _ _)); (fail_if_success (with_reducible show wpAny _ _ (compareOp CmpOp.In _ (Value.ref _)) _ _ _)); (fail_if_success (with_reducible show wpAny _ _ (call (Value.ref _) _) _ _ _)); walk_at "q2")
    rename Fr _ _ _ _ => F4
    rename News _ _ _ _ => N4
    have k4 := seen H F4 (fun q m => (N4 q (by repeat (first | exact m | refine List.Mem.tail _ ?_))).1)
    have K4 := K3.thru k4 hLn
    refine' For_own ?_ ?hs ?hE
    case hs => intro _; rfl
    case hE => passes_own
    k_steps
    walk_at "q0"
    refine' wpAny_call (names_spec (B'.push F4) XB TB ?z1 ?_)
    case z1 => exact roomD hroom (by decide)
    intro h5 tk5 na k5 na0 hna
    refine hold fun gP kont => ?_
    obtain ⟨arr, pn, hpl, hsz, hat⟩ := hna
    obtain ⟨nl, nits, nm, hx, hnl, hnsz, _⟩ := hat r (by lia)
    refine kont ?_
    clear kont gP
    have F5 := led_kept k5 F4 (fNm _)
    have K5 := K4.thru k5 (fNm _)
    have N5 := led_grow N4 fun b o q => k5.get q
    clear F4 N4
    try dsimp only
    k_steps
    have hlA := listAt hpl
    walk_at "q0"
    refine' sub_any ?ht slot_list_getitem.lookup (wpAny_getItem_list hlA (Int.natCast_nonneg _) (by first | exact i63 (by with_reducible assumption) (Nat.le_of_ble_eq_true rfl) | exact i63 (Nat.lt_of_lt_of_le (by with_reducible assumption) (widthAt_le _)) (Nat.le_of_ble_eq_true rfl) | lia) (idx_nat hx) ?_) (by with_unfolding_all rfl)
    case ht => exact hlA.typeIs
    have hnsz' : nits.size < 1000 := by (have := widthAt_le r); lia
    clear N5
    obtain ⟨rest, N, H⟩ := see F5 [] (fNm _)
    try dsimp only [List.nil_append, List.cons_append] at N
    try dsimp only
    k_steps
    have hfit : (nits.size : Int) < 2 ^ 63 := by lia
    refine' Calls.call_len_list (items := nits) ?hl9 hfit ?_
    case hl9 => exact listAt hnl
    rw [hnsz]
    try dsimp only
    k_steps
    have hrg := (by assumption : IsRange _ _ 0 ((widthAt r : Nat) : Int) 1 _ _ _)
    rename Fr _ _ _ _ => F6
    rename News _ _ _ _ => N6
    have K6 : Kept [] h _ := K5.thru (seen H F6 (fun q m => (N6 q (by repeat (first | exact m | refine List.Mem.tail _ ?_))).1)) hLn
    have k46 : Kept [L] hc1 _ := k4.trans ((k5.one (S := [L])).trans (seen H F6 (fun q m => (N6 q (by repeat (first | exact m | refine List.Mem.tail _ ?_))).1)))
    have hw4 := widthAt_le r
    refine' loop_range (n := widthAt r) (show (A.deeper _).handled = none from hh) hrg (by lia) (fun i hc => ∃ m, Fr gg L hc m ∧ m (Str.ofString "driven") = some (.ref D) ∧ m (Str.ofString "ref") = some (.int r tr) ∧ Kept [] h hc ∧ Kept [L] hc1 hc ∧ ∀ b : Nat, b < i → ∀ x ∈ xs, x.1 = [(r : Int), (b : Int)] → ¬ 1 < len x.1) ?h0 ?step ?done
    case h0 => exact fun o => ⟨_, F6.push o, rfl, rfl, K6.thru (S := []) (fun b o' e _ => Heap.get?_push_of_some _ e) (fNm _), fun b o' e n => Heap.get?_push_of_some _ (k46 b o' e n), fun b hb => absurd hb (Nat.not_lt_zero _)⟩
    case done =>
      intro hd hd1 tkd hPat3 kI
      obtain ⟨m, Fc, hmd, hmr, kc, kc2, hno2⟩ := hPat3
      have F7 := turn_fr F6 Fc kI
      have K7 := turn_kept K6 kc kI
      have k7 : Kept [L] hc1 hd1 := fun b o e n => kI b o (kc2 b o e n) (nm1 (Nat.ne_of_lt (Heap.lt_size (k46 b o e n))))
      clear F6 Fc
      try dsimp only
      k_steps
      refine ⟨_, _, rfl, ⟨_, F7, hmd, K7, fun r' hr' => ?_⟩, fCm ⟨fun o e => k7 _ _ e (nm1 hIL), fNm _⟩⟩
      rcases Nat.lt_succ_iff_lt_or_eq.mp hr' with q | q
      · exact hno r' q
      · subst q
        exact fun ⟨_, b, hb, x, hx, e, hm⟩ => hno2 b hb x hx e hm
    case step =>
      intro b tb hd hd1 tkd hbw hPat6 kI
      obtain ⟨m, Fc, hmd, hmr, kc, kc2, hno2⟩ := hPat6
      have F7 := pin (x := Str.ofString "driven") (pin (turn_fr F6 Fc kI) hmr) ((if_neg (by decide)).trans hmd)
      have K7 := turn_kept K6 kc kI
      have k7 : Kept [L] hc1 hd1 := fun b o e n => kI b o (kc2 b o e n) (nm1 (Nat.ne_of_lt (Heap.lt_size (k46 b o e n))))
      have hIL2 := turn_ne F6
      unfold Turn
      clear Fc F6
      obtain ⟨rest, N, H⟩ := see F7 [] (fNm _)
      try dsimp only [List.nil_append, List.cons_append] at N
      k_steps
      rename Fr _ _ _ _ => F8
      rename News _ _ _ _ => N8
      have k8 := seen H F8 (fun q m => (N8 q (by repeat (first | exact m | refine List.Mem.tail _ ?_))).1)
      have K8 := K7.thru k8 hLn
      have hd8 := (T.kept K8).dictOfH (fun _ _ e => e) (K8.get hD)
      refine' get_meth hd8 ?_
      have hu1 : ∀ env, (A.deeper env).units + 1 < cLine := hu_of hun (Nat.le_of_ble_eq_true rfl)
      try dsimp only
      k_steps
      rename Fr _ _ _ _ => F9
      rename News _ _ _ _ => N9
      have k9 : Kept [L] hd1 _ := seen H F9 (fun q m => (N9 q (by repeat (first | exact m | refine List.Mem.tail _ ?_))).1)
      have K9 := K7.thru k9 hLn
      have hd9 := (T.kept K9).dictOfH (fun _ _ e => e) (K9.get hD)
      refine' get_call (ks := [(r : Int), (b : Int)]) (hu1 _) ?hky lo hd9 ?_
      case hky => first | exact key_is (w := w) (N9 _ (.head _)).1 | exact key_is (w := w) (N9 _ (.tail _ (.head _))).1
      intro tkg
      cases hq : atKey xs [(r : Int), (b : Int)] with
      | none =>
        try dsimp only [Option.map_none, Option.getD_none]
        k_steps
        refine ⟨_, _, rfl, ⟨_, F9, rfl, rfl, K9, k7.trans k9, fun b' hb' x hx e => ?_⟩, fCm ⟨fun o e => k9 _ _ e (nm1 hIL2), fNm _⟩⟩
        rcases Nat.lt_succ_iff_lt_or_eq.mp hb' with q | q
        · exact hno2 b' q x hx e
        · subst q
          exact absurd e (atKey_none hq x hx)
      | some p =>
        try dsimp only [Option.map_some, Option.getD_some]
        have hpx := atKey_some hq
        refine hold fun gP kont => ?_
        obtain ⟨la, li, ln, hla, hli, hlen, hlb, ola⟩ := hl _ hpx
        refine kont ?_
        clear kont gP
        have hla' : p.2 = .ref la := hla
        rw [hla']
        clear N9
        obtain ⟨rest, N, H⟩ := see F9 [(la, _)] (fCm ⟨⟨K9.get hli, neL hli, hg2 _ ola⟩, fNm _⟩)
        try dsimp only [List.nil_append, List.cons_append] at N
        k_steps
        · rename Fr _ _ _ _ => F10
          rename News _ _ _ _ => N10
          have k10 : Kept [L] hd1 _ := k9.trans (seen H F10 (fun q m => (N10 q (by repeat (first | exact m | refine List.Mem.tail _ ?_))).1))
          have K10 := K7.thru k10 hLn
          have hm1 : 1 < len [(r : Int), (b : Int)] := by (have e1 : li.size = len [(r : Int), (b : Int)] := hlen); lia
          walk_at "q0"
          refine' wpAny_call (paths_spec (B'.push F10) XB TB ?z1 ?_)
          case z1 => exact roomD hroom (by decide)
          intro h11 tk11 pa k11 pa0 hpa
          refine hold fun gP kont => ?_
          obtain ⟨arr2, pn2, hpl2, hsz2, hat2⟩ := hpa
          obtain ⟨tp2, hx2⟩ := hat2 r (by lia)
          refine kont ?_
          clear kont gP
          have F11 := led_kept k11 F10 (fNm _)
          have K11 := K10.thru k11 (fNm _)
          clear F10 N10
          try dsimp only
          k_steps
          have hlB := listAt hpl2
          walk_at "q0"
          refine' sub_any ?ht slot_list_getitem.lookup (wpAny_getItem_list hlB (Int.natCast_nonneg _) (by first | exact i63 (by with_reducible assumption) (Nat.le_of_ble_eq_true rfl) | exact i63 (Nat.lt_of_lt_of_le (by with_reducible assumption) (widthAt_le _)) (Nat.le_of_ble_eq_true rfl) | lia) (idx_nat hx2) ?_) (by with_unfolding_all rfl)
          case ht => exact hlB.typeIs
          obtain ⟨rest, N, H⟩ := see F11 [(D, _)] (fCm ⟨⟨K11.get hD, neL hD, hg2 _ oD⟩, fNm _⟩)
          try dsimp only [List.nil_append, List.cons_append] at N
          try dsimp only
          k_steps
          rename Fr _ _ _ _ => F12
          rename News _ _ _ _ => N12
          have K12 := K11.thru (seen H F12 (fun q m => (N12 q (by repeat (first | exact m | refine List.Mem.tail _ ?_))).1)) hLn
          have tp0 := (N12 _ (.head _)).1
          refine' hbad r _ _ _ _ _ _ ⟨hr4, b, hbw, _, hpx, rfl, hm1⟩ (fun r' hr' => hno r' hr') K12 ?fr (N12 _ (.head _)).1
          case fr =>
            have l12 := (by assumption : _ ∧ AllLt _ rest)
            cases q : h.get? _ with
            | none => rfl
            | some o => exact absurd (allLt_mem l12.2 _ (H.get.1 _ o (K11.get q) (neL q) (N12 _ (.head _)).2.2 List.not_mem_nil)) (Nat.lt_irrefl _)
        · rename Fr _ _ _ _ => F10
          rename News _ _ _ _ => N10
          have k10 : Kept [L] hd1 _ := k9.trans (seen H F10 (fun q m => (N10 q (by repeat (first | exact m | refine List.Mem.tail _ ?_))).1))
          have K10 := K7.thru k10 hLn
          have hm1 : ¬ 1 < len [(r : Int), (b : Int)] := by (have e1 : li.size = len [(r : Int), (b : Int)] := hlen); lia
          refine ⟨_, _, rfl, ⟨_, F10, rfl, rfl, K10, k7.trans k10, fun b' hb' x hx e => ?_⟩, fCm ⟨fun o e => k10 _ _ e (nm1 hIL2), fNm _⟩⟩
          rcases Nat.lt_succ_iff_lt_or_eq.mp hb' with q | q
          · exact hno2 b' q x hx e
          · subst q
            rw [e]
            exact hm1
end
theorem exists_least {p : Nat → Prop} (h : ∃ r, p r) : ∃ r, p r ∧ ∀ r', r' < r → ¬ p r' := by
  obtain ⟨r, hr⟩ := h
  induction r using Nat.strongRecOn with
  | ind r ih =>
    by_cases q : ∃ r', r' < r ∧ p r'
    · obtain ⟨r', h1, h2⟩ := q; exact ih r' h1 h2
    · exact ⟨r, hr, fun r' h1 h2 => q ⟨r', h1, h2⟩⟩
theorem multi_iff {len : List Int → Nat} {xs ys : TX} (ks : xs.map (·.1) = ys.map (·.1)) (kn : ∀ x ∈ xs, ∃ r b : Nat, x.1 = [(r : Int), (b : Int)] ∧ r < 5 ∧ b < widthAt r) (r : Nat) : Multi len xs r ↔ MultiB len ys r := by
  constructor
  · rintro ⟨h4, x, hx, b, e, hm⟩
    refine hold fun gP kont => ?_
    obtain ⟨r', b', e', _, hb⟩ := kn x hx
    have : x.1 ∈ ys.map (·.1) := ks ▸ List.mem_map_of_mem hx
    obtain ⟨y, hy, ey⟩ := List.mem_map.mp this
    refine kont ?_
    clear kont gP
    rw [e] at e'
    injection e' with e1 e2
    injection e2 with e2 _
    have e1 : r = r' := by lia
    have e2 : b = b' := by lia
    subst e1 e2
    have ey : y.1 = x.1 := ey
    exact ⟨h4, b, hb, y, hy, ey.trans e, by rw [ey]; exact hm⟩
  · rintro ⟨h4, b, _, y, hy, e, hm⟩
    have : y.1 ∈ xs.map (·.1) := ks ▸ List.mem_map_of_mem hy
    obtain ⟨x, hx, ex⟩ := List.mem_map.mp this
    have ex : x.1 = y.1 := ex
    exact ⟨h4, x, hx, b, ex.trans e, by rw [ex]; exact hm⟩
theorem sigs_of {w : World} {base : Heap} {outer outer' : List Env} {h h' : Heap} {a : Adr} (G : Gear w base outer h a) (k : Kept [] h h') (ow : ∀ x o, h.get? x = some o → Own base outer x → Own base outer' x) : Sigs w base outer' h' a.ds a.dd a.sl a.td a.vd a.its a.sn :=
  ⟨k.get G.ds, k.get G.dd, k.get G.sl, ow _ _ G.ds G.o_ds, ow _ _ G.dd G.o_dd, fun r hr => let ⟨sg, sd, ts, us, e1, e2, e3, o1, o2⟩ := G.sigs r hr; ⟨sg, sd, ts, us, e1, k.get e2, k.get e3, ow _ _ e2 o1, ow _ _ e3 o2⟩⟩
theorem ground_turn0 {w : World} {A : Around} {base gg h4 h5 : Heap} {outer : List Env} {mean : ExcName → Option Value} {mg mb : Str → Option Value} {L : Addr} {m : Str → Option Value} (XB : (Mine.hd.heap_39 w.params).In base) (TB : Top Mine.hd.view_39 (looseW Mine.hd.view_39 [Str.ofString "GateloomError"]) mean mg mb base) (Gd : Ground w A base outer mean mg mb gg) (F : Fr gg L h4 m)
    (k1 : ∀ b o, h4.get? b = some o → b ∉ (caseEnv L :: outer).filterMap (·.frame) → h5.get? b = some o) (k2 : ∀ b o, h4.get? b = some o → b ∈ (caseEnv L :: outer).filterMap (·.frame) → ∃ sl, h5.get? b = some { o with slots := sl }) :
    ∃ gg', Ground w A base outer mean mg mb gg' ∧ (∀ b, gg.get? b = none → gg'.get? b = none) ∧ Fr gg' L h5 m ∧ (∀ b o, NA gg L h4 b o → NA gg' L h5 b o) ∧ Ups h4 h5 ∧ True := by
  have u : Ups h4 h5 := fun b o e => by
    by_cases q : b ∈ (caseEnv L :: outer).filterMap (·.frame)
    · exact k2 b o e q
    · exact ⟨o.slots, k1 b o e q⟩
  refine hold fun gP kont => ?_
  obtain ⟨gg', T', F', K'⟩ := kts_ground (B := hideAll h4 ((caseEnv L :: outer).filterMap (·.frame))) Gd.B F (fun b o e n => hideAll_get _ e n) (fun b o e => k1 b o (of_hideAll _ e) (mem_hide e)) fun b o e _ => u b o e
  refine kont ?_
  clear kont gP
  have noF : ∀ b, gg.get? b = none → b ≠ L → b ∉ (caseEnv L :: outer).filterMap (·.frame) := fun b hg hL hm => by
    obtain ⟨env, hen, hfe⟩ := List.mem_filterMap.mp hm
    rcases List.mem_cons.mp hen with rfl | hen
    · exact hL (Option.some.inj hfe).symm
    · obtain ⟨L₁, o₁, hf₁, ho₁⟩ := funFrames_in Gd.B.frames env hen
      rw [hf₁] at hfe
      cases hfe
      rw [hg] at ho₁; cases ho₁
  exact ⟨gg', ⟨K', XB.keeps K'.stays, TB.keeps K'.stays⟩, T'.none_, F', fun b o x => ⟨k1 b o x.1 (noF b x.2.2 x.2.1), x.2.1, T'.none_ b x.2.2⟩, u, trivial⟩
theorem CI.ends {w : World} {gg : Heap} {L : Addr} {hb h h' : Heap} {I : Addr} {a : Adr} {dv tv cv : Addr} {fs : List Addr} {xs ys : TX} {nets : List Int → List Int} {names : List Str} {cells : List Cell} {N : Nat} (C : CI w gg L hb h I a dv tv cv fs xs ys nets names cells N) (k : Kept [I] h h') (hI : I ∉ W0 L a dv tv cv) (hf : I ∉ fs) (nt : NonTup h I) (ex : ∃ o, hb.get? I = some o) :
    (∀ b o, hb.get? b = some o → b ∉ fs → b ∉ I :: W0 L a dv tv cv → h'.get? b = some o) ∧ Tab w gg L hb h' a.D xs nets ∧ Tab w gg L hb h' dv ys nets ∧ Five w gg L h' a tv cv names cells ∧ (∀ b ∈ fs, ∀ o, hb.get? b = some o → ∃ sl, h'.get? b = some { o with slots := sl }) := by
  have nT : ∀ s ∈ [I], NonTup h s := fCm ⟨nt, fNm _⟩
  have off : ∀ {x : Addr}, x ∈ W0 L a dv tv cv → x ∉ [I] := fun m => nm1 fun q => hI (q ▸ m)
  have offT : ∀ {A : Addr} {zs : TX} (T : Tab w gg L hb h A zs nets), ∀ s ∈ [I], ∀ z ∈ zs, z.2.2 ≠ .ref s := fun T => fCm ⟨T.off ex, fNm _⟩
  exact ⟨fun b o e nf n => k _ _ (C.kb b o e nf n) (nm1 fun q => n (q ▸ .head _)), C.D.but k (off (.tail _ (.head _))) (offT C.D) nT, C.V.but k (off (.tail _ (.tail _ (.tail _ (.tail _ (.tail _ (.head _))))))) (offT C.V) nT, C.five.but k ⟨off (.tail _ (.tail _ (.head _))), off (.tail _ (.tail _ (.tail _ (.tail _ (.tail _ (.tail _ (.head _))))))), off (.tail _ (.tail _ (.tail _ (.head _)))), off (.tail _ (.tail _ (.tail _ (.tail _ (.head _))))), off (.tail _ (.tail _ (.tail _ (.tail _ (.tail _ (.tail _ (.tail _ (.head _)))))))) ⟩ nT, fun b hb' o e => let ⟨sl, e'⟩ := C.fu b hb' o e; ⟨sl, k _ _ e' (nm1 fun q => hf (q ▸ hb'))⟩⟩

theorem push_old {h : Heap} {o : Obj} {b : Addr} {x : Obj} (e : (h.push o).get? b = some x) (n : b ≠ h.objs.size) : h.get? b = some x := by
  rw [Heap.get?_push_ne _ _ _ n] at e; exact e
theorem CC.push {w : World} {base : Heap} {outer : List Env} {gg h : Heap} {L I : Addr} {a : Adr} {dv tv cv stl : Addr} {sits : Array Value} {fs : List Addr} (C : CC w base outer gg L h L a dv tv cv stl sits fs) (o : Obj) (hI : I = h.objs.size) : CC w base outer gg L (h.push o) I a dv tv cv stl sits fs := by
  subst hI
  have up : ∀ h' : Heap, (∀ b x, (h.push o).get? b = some x → b ∉ fs → b ∉ h.objs.size :: W0 L a dv tv cv → h'.get? b = some x) → ∀ b x, h.get? b = some x → b ∉ fs → b ∉ L :: W0 L a dv tv cv → h'.get? b = some x := fun h' k b x e nf n => k b x (Heap.get?_push_of_some _ e) nf fun m => (List.mem_cons.mp m).elim (fun q => Nat.lt_irrefl _ (show @LT.lt Nat _ h.objs.size h.objs.size by have := Heap.lt_size e; rw [q] at this; exact this)) fun m => n (.tail _ m)
  exact ⟨fun h' k => C.gear h' (up h' k), fun h' k => C.starts h' (up h' k), C.own, C.nd, fun x m => let ⟨y, e⟩ := C.ex x m; ⟨y, Heap.get?_push_of_some _ e⟩, C.lo, C.nI, let ⟨y, e⟩ := C.hwr; ⟨y, Heap.get?_push_of_some _ e⟩, let ⟨y, e⟩ := C.hwd; ⟨y, Heap.get?_push_of_some _ e⟩, C.nL⟩
noncomputable def noNets : List Int → List Int := fun _ => []
structure Start (w : World) (gg : Heap) (L : Addr) (h : Heap) (a : Adr) (dv tv cv : Addr) (fs : List Addr) : Prop where
  D : Tab w gg L h h a.D [] noNets
  V : Tab w gg L h h dv [] noNets
  five : Five w gg L h a tv cv [] []
  fw : ∀ b ∈ fs, b ∉ W0 L a dv tv cv
theorem Start.ci {w : World} {gg h : Heap} {L : Addr} {a : Adr} {dv tv cv : Addr} {fs : List Addr} {m : Str → Option Value} {o : Obj} {I : Addr} (S : Start w gg L h a dv tv cv fs) (_F : Fr gg L h m) : CI w gg L (h.push o) (h.push o) I a dv tv cv fs [] [] noNets [] [] 0 := by
  have k : Kept [] h (h.push o) := fun b x e _ => Heap.get?_push_of_some _ e
  have tab : ∀ {A : Addr}, Tab w gg L h h A [] noNets → Tab w gg L (h.push o) (h.push o) A [] noNets := fun t => ⟨let ⟨od, e, x⟩ := t.at_; ⟨od, e.but k List.not_mem_nil, x.kept k⟩, fNm _, List.nodup_nil⟩
  exact ⟨fun b x e _ _ => e, fun b x e => ⟨x, e⟩, tab S.D, tab S.V, fNm _, rfl, fNm _, S.five.but k ⟨List.not_mem_nil, List.not_mem_nil, List.not_mem_nil, List.not_mem_nil, List.not_mem_nil⟩ (fNm _), ⟨fNm _, fNm _⟩, ⟨Nat.le_refl _, Nat.le_refl _, Nat.le_refl _, fun _ => Nat.le_refl _⟩, fun _ _ => rfl, S.fw, fun b _ x e => ⟨x.slots, e⟩⟩
theorem ground_noF {w : World} {A : Around} {base gg : Heap} {outer : List Env} {mean : ExcName → Option Value} {mg mb : Str → Option Value} (Gd : Ground w A base outer mean mg mb gg) : ∀ b, gg.get? b = none → b ∉ outer.filterMap (·.frame) := fun b hg hm => by
  obtain ⟨env, hen, hfe⟩ := List.mem_filterMap.mp hm
  obtain ⟨L₁, o₁, hf₁, ho₁⟩ := funFrames_in Gd.B.frames env hen
  rw [hf₁] at hfe
  cases hfe
  rw [hg] at ho₁; cases ho₁
theorem CI.nonTup {w : World} {gg : Heap} {L : Addr} {hb h : Heap} {I : Addr} {a : Adr} {dv tv cv : Addr} {fs : List Addr} {xs ys : TX} {nets : List Int → List Int} {names : List Str} {cells : List Cell} {N : Nat} {m : Str → Option Value} (C : CI w gg L hb h I a dv tv cv fs xs ys nets names cells N) (F : Fr gg L h m) : ∀ s ∈ W0 L a dv tv cv, NonTup h s := by
  refine fCm ⟨.fr F, fCm ⟨?_, fCm ⟨?_, fCm ⟨?_, fCm ⟨?_, fCm ⟨?_, fCm ⟨?_, fCm ⟨?_, fNm _⟩⟩⟩⟩⟩⟩⟩⟩
  · obtain ⟨_, e, x⟩ := C.D.at_; exact .dict e.1 x.exact_
  · obtain ⟨_, _, e, ⟨_, _, x, _⟩, _⟩ := C.five.M; exact .dict e.1 x
  · obtain ⟨_, e⟩ := C.five.nd; exact .cls e.1 (fun q => by injection q with q; exact absurd q (by decide))
  · obtain ⟨_, _, e, _⟩ := C.five.nc; exact .list e.1
  · obtain ⟨_, e, x⟩ := C.V.at_; exact .dict e.1 x.exact_
  · obtain ⟨_, _, e, _⟩ := C.five.T; exact .list e.1
  · obtain ⟨_, _, e, _⟩ := C.five.cv; exact .list e.1

set_option maxHeartbeats 16000000 in
theorem case_rest {w : World} {A : Around} {s : Shared} {base gg : Heap} {outer : List Env} {mean : ExcName → Option Value} {mg mb : Str → Option Value} {L rl stl dv tv cv : Addr} {m : Str → Option Value} {Q : Flow → Shared → Prop} {E : Value → Shared → Prop}
    {a : Adr} {sits rits : Array Value} {rn : Nat}
    (XB : (Mine.hd.heap_39 w.params).In base) (TB : Top Mine.hd.view_39 (looseW Mine.hd.view_39 [Str.ofString "GateloomError"]) mean mg mb base)
    (Gd : Ground w A base outer mean mg mb gg) (hroom : A.depth < 500) (hh : A.handled = none) (hun : A.units < 600) (hE : PassesOwn (model PySem.Challenge.rw_sj0046_01.row.prog w) (A.deeper (caseEnv L)) (caseEnv L) E)
    (C0 : CC w base outer gg L s.heap L a dv tv cv stl sits (outer.filterMap (·.frame))) (S0 : Start w gg L s.heap a dv tv cv (outer.filterMap (·.frame))) (F : Fr gg L s.heap m) (mp : MPins m a dv tv cv stl) (mr : m (Str.ofString "rows") = some (.ref rl))
    (hrl : NA gg L s.heap rl (PySem.W.listOf rits rn)) (hr8 : rits.size ≤ 8) (hrW : rl ∉ W0 L a dv tv cv) (hrows : ∀ (i : Nat) v, rits[i]? = some v → RowAt s.heap gg L v)
    (hQ : ∀ h' tk', (∀ b o, s.heap.get? b = some o → b ∉ outer.filterMap (·.frame) → b ∉ W0 L a dv tv cv → h'.get? b = some o) → (∀ b ∈ outer.filterMap (·.frame), ∀ o, s.heap.get? b = some o → ∃ sl, h'.get? b = some { o with slots := sl }) → Q (.ret (.bool true)) { s with heap := h', toks := tk' }) :
    wpAny (model PySem.Challenge.rw_sj0046_01.row.prog w) (A.deeper (caseEnv L)) (execs ((hd.fB (hd.sN 26)).drop 8) (caseEnv L)) Q E s := by
  refine hold fun gP kont => ?_
  obtain ⟨h, g, d, tt, os⟩ := s
  refine kont ?_
  clear kont gP
  unfold caseEnv
  have B' := Gd.B
  have X' := Gd.X
  have T' := Gd.T
  have hF := Hid.mk F
  replace F := pin F mr
  walk_at "q0"
  repeat ((fail_if_success (with_reducible show wpAny _ _ (exec (Stmt.For _ _ _ _ _) _) _ _ _)); (fail_if_success (with_reducible show wpAny _ _ (subscriptTail _ _ (Value.ref _) (Value.int (Nat.cast _) _)) _ _ _)); (fail_if_success (with_reducible show wpAny _ _ (compareOp CmpOp.In _ (Value.ref _)) _ _ _)); (fail_if_success (with_reducible show wpAny _ _ (call (Value.ref _) _) _ _ _)); walk_at "q2")
  refine' For_own ?_ ?hs ?hE
  case hs => intro _; rfl
  case hE => exact hE
  k_steps
  refine' loop_listE (show (A.deeper _).handled = none from hh) (listAt hrl.1) (fun i hc => JI w A base outer mean mg mb L (h.push (itObj rl)) h.objs.size a dv tv cv stl sits (outer.filterMap (·.frame)) gg i hc) ?h0 ?step ?done
  case h0 => exact ⟨gg, m, [], [], noNets, [], [], Gd, fun _ e => e, C0.push _ rfl, hF.get.push _, mp, S0.ci hF.get⟩
  case step =>
    intro i v hc hc1 tkc hv hPat6 hit hit2 kI
    obtain ⟨g1, m1, xs, ys, nets, names, cells, Gd1, hg1, C1, F1, mp1, CI1⟩ := hPat6
    have hi : i < rits.size := by
      rcases Nat.lt_or_ge i rits.size with q | q
      · exact q
      · rw [Array.getElem?_eq_none q] at hv; cases hv
    have hnI : h.objs.size ∉ W0 L a dv tv cv := fun q => by obtain ⟨o, e⟩ := C0.ex _ q; exact Nat.lt_irrefl _ (Heap.lt_size e)
    have hnIf : h.objs.size ∉ outer.filterMap (·.frame) := ground_noF Gd _ (fr_none hF.get (Heap.get?_none_of_le (Nat.le_refl _)))
    have Ig : g1.get? h.objs.size = none := hg1 _ (fr_none hF.get (Heap.get?_none_of_le (Nat.le_refl _)))
    have IL : h.objs.size ≠ L := fr_ne hF.get (Heap.get?_none_of_le (Nat.le_refl _))
    have F2 := led_kept kI F1 (fCm ⟨⟨Ig, IL⟩, fNm _⟩)
    have CI2 := CI1.movI kI hnI hnIf (nonTup_iter hit) ⟨_, Heap.get?_push_size _ rfl⟩ (let ⟨o, e, _⟩ := hit2; ⟨o, e⟩)
    refine turn_any XB TB Gd1 hroom hh hun hg1 C1 (by lia) CI2 F2 mp1 ((hrows i v hv).but (fun b o e nL ng its n c dd => ?_) hg1) (fCm ⟨⟨⟨_, Heap.get?_push_size _ rfl⟩, hnIf, hnI⟩, fCm ⟨⟨⟨_, Heap.get?_push_of_some _ hrl.1⟩, ground_noF Gd _ hrl.2.2, hrW⟩, fNm _⟩⟩)
    refine CI2.kb b o (Heap.get?_push_of_some _ e) (ground_noF Gd _ ng) fun mm => ?_
    rcases List.mem_cons.mp mm with q | mm
    · have := Heap.lt_size e
      rw [q] at this
      exact Nat.lt_irrefl _ this
    · exact (S0.ci (o := itObj rl) (I := h.objs.size) hF.get).nonTup (hF.get.push _) b mm o its n (Heap.get?_push_of_some _ e) c dd
  case done =>
    intro hc hc1 tkc hPat3 hit kI
    obtain ⟨g1, m1, xs, ys, nets, names, cells, Gd1, hg1, C1, F1, mp1, CI1⟩ := hPat3
    have hnI : h.objs.size ∉ W0 L a dv tv cv := fun q => by obtain ⟨o, e⟩ := C0.ex _ q; exact Nat.lt_irrefl _ (Heap.lt_size e)
    have hnIf : h.objs.size ∉ outer.filterMap (·.frame) := ground_noF Gd _ (fr_none hF.get (Heap.get?_none_of_le (Nat.le_refl _)))
    have Ig : g1.get? h.objs.size = none := hg1 _ (fr_none hF.get (Heap.get?_none_of_le (Nat.le_refl _)))
    have IL : h.objs.size ≠ L := fr_ne hF.get (Heap.get?_none_of_le (Nat.le_refl _))
    have F2 := led_kept kI F1 (fCm ⟨⟨Ig, IL⟩, fNm _⟩)
    refine hold fun gP kont => ?_
    obtain ⟨kb2, D2, V2, five2, fu2⟩ := CI1.ends kI hnI hnIf (nonTup_iter hit) ⟨_, Heap.get?_push_size _ rfl⟩
    have G2 := C1.gear _ kb2
    obtain ⟨stn, vst, hst⟩ := C1.starts _ kb2
    have vwr : NA g1 L hc1 a.wr _ := ⟨G2.wr, C1.own _ (.head _)⟩
    have vwd : NA g1 L hc1 a.wd _ := ⟨G2.wd, C1.own _ (.tail _ (.head _))⟩
    have vds : NA g1 L hc1 a.ds _ := ⟨G2.ds, C1.own _ (.tail _ (.tail _ (.tail _ (.head _))))⟩
    have vdd : NA g1 L hc1 a.dd _ := ⟨G2.dd, C1.own _ (.tail _ (.tail _ (.tail _ (.tail _ (.head _)))))⟩
    obtain ⟨oi, ikvs, hIi, hIo, hini⟩ := G2.ini
    refine kont ?_
    clear kont gP
    have B1 := Gd1.B
    have X1 := Gd1.X
    have T1 := Gd1.T
    have hu64 : ∀ env, (A.deeper env).units + 64 < cLine := hu_of hun (Nat.le_of_ble_eq_true rfl)
    have hF2 := Hid.mk F2
    clear F1 F
    try dsimp only
    walk_at "q0"
    repeat ((fail_if_success (with_reducible show wpAny _ _ (exec (Stmt.For _ _ _ _ _) _) _ _ _)); (fail_if_success (with_reducible show wpAny _ _ (subscriptTail _ _ (Value.ref _) (Value.int (Nat.cast _) _)) _ _ _)); (fail_if_success (with_reducible show wpAny _ _ (compareOp CmpOp.In _ (Value.ref _)) _ _ _)); (fail_if_success (with_reducible show wpAny _ _ (call (Value.ref _) _) _ _ _)); walk_at "q2")
    refine' For_own ?_ ?hs ?hE
    case hs => intro _; rfl
    case hE => exact hE
    obtain ⟨rest, N, H⟩ := see F2 [] (fNm _)
    try dsimp only [List.nil_append, List.cons_append] at N
    k_steps
    have hrg := (by assumption : IsRange _ _ _ _ _ _ _ _)
    rename Fr _ _ _ _ => F3
    rename News _ _ _ _ => N3
    have k3 : Kept [L] hc1 _ := seen H F3 (fun q m => (N3 q (by repeat (first | exact m | refine List.Mem.tail _ ?_))).1)
    have hF3 := Hid.mk F3
    refine' loop_range (n := 5) (show (A.deeper _).handled = none from hh) hrg (by decide) (fun i hx => ∃ m, Fr g1 L hx m ∧ MPins m a dv tv cv stl ∧ Kept [L] hc1 hx) ?h0 ?step ?done
    case h0 => exact fun o => ⟨_, F3.push o, ⟨mp1.netlist, mp1.cells, mp1.wires, mp1.taken, mp1.driven, mp1.design, mp1.starts⟩, fun b o' e n => Heap.get?_push_of_some _ (k3 b o' e n)⟩
    case step =>
      intro r tr hx hx1 tkx hr5 hPat6 kI2
      obtain ⟨m, Fx, mx, kx⟩ := hPat6
      have F4 := turn_fr hF3.get Fx kI2
      have hIL := turn_ne hF3.get
      have k4 : Kept [L] hc1 hx1 := fun b o e n => kI2 b o (kx b o e n) (nm1 (Nat.ne_of_lt (Heap.lt_size (k3 b o e n))))
      have F5 := pin (x := Str.ofString "wires") (pin (x := Str.ofString "starts") (F4) mx.starts) ((if_neg (by decide)).trans mx.wires)
      unfold Turn
      clear Fx F4 F3
      obtain ⟨rest, N, H⟩ := see F5 [(a.wr, _), (a.wd, _)] (fCm ⟨vwr.kept k4, fCm ⟨vwd.kept k4, fNm _⟩⟩)
      try dsimp only [List.nil_append, List.cons_append] at N
      k_steps
      rename Fr _ _ _ _ => F6
      rename News _ _ _ _ => N6
      have k6 : Kept [L] hc1 _ := k4.trans (seen H F6 (fun q m => (N6 q (by repeat (first | exact m | refine List.Mem.tail _ ?_))).1))
      refine hold fun gP kont => ?_
      obtain ⟨il, ins, im, hiv, hil, hii, hilen⟩ := hini r hr5
      obtain ⟨il2, ins2, im2, hix2, hil2, hii2, _⟩ := hst r hr5
      refine kont ?_
      clear kont gP
      have cL : ∀ {x : Addr} {o : Obj}, hc1.get? x = some o → (∀ es ep, o.data ≠ .dict es ep) → x ≠ L := fun e nd q => by
        obtain ⟨oL, _, _, eL, dL, _⟩ := hF2.get.ns
        have q : _ = L := q
        rw [q, eL] at e
        cases e
        exact nd _ _ dL
      have gI := C1.nI
      have hIm := (hIo.at (k6 _ _ hIi (nm1 gI))).mapOf
      walk_at "q0"
      refine' sub_any ?ht slot_dict_getitem.lookup (wpAny_getItem_of (knd := IK w) (intKind_is _ _ _ _) ?hm hiv ?_) (by with_unfolding_all rfl)
      case ht => exact hIm.typeIs
      case hm => exact hIm
      try dsimp only
      k_steps
      have vst6 := vst.kept k6
      have hlS := listAt vst6.1
      walk_at "q0"
      refine' sub_any ?ht slot_list_getitem.lookup (wpAny_getItem_list hlS (Int.natCast_nonneg _) (by first | exact i63 (by with_reducible assumption) (Nat.le_of_ble_eq_true rfl) | exact i63 (Nat.lt_of_lt_of_le (by with_reducible assumption) (widthAt_le _)) (Nat.le_of_ble_eq_true rfl) | lia) (idx_nat hix2) ?_) (by with_unfolding_all rfl)
      case ht => exact hlS.typeIs
      try dsimp only
      k_steps
      rename Fr _ _ _ _ => F7
      rename News _ _ _ _ => N7
      have k7 : Kept [L] hc1 _ := k4.trans (seen H F7 (fun q m => (N7 q (by repeat (first | exact m | refine List.Mem.tail _ ?_))).1))
      have e1 := k7 _ _ hil (nm1 (cL hil (fun _ _ q => by cases q)))
      have e2 := k7 _ _ hil2 (nm1 (cL hil2 (fun _ _ q => by cases q)))
      refine' data_ne (list_reads e1 (ints_reads _ hii)) (list_reads e2 (ints_reads _ hii2)) (shaped_ints _) (hu64 _) ?_
      try dsimp only
      k_steps
      rename Fr _ _ _ _ => F8
      rename News _ _ _ _ => N8
      have k8 : Kept [L] hx1 _ := seen H F8 (fun q m => (N8 q (by repeat (first | exact m | refine List.Mem.tail _ ?_))).1)
      refine ⟨_, _, rfl, ⟨_, F8, ⟨mx.netlist, mx.cells, rfl, mx.taken, mx.driven, mx.design, rfl⟩, k4.trans k8⟩, fCm ⟨fun o e => k8 _ _ e (nm1 hIL), fNm _⟩⟩
    case done =>
      intro hx hx1 tkx hPat3 kI2
      obtain ⟨m, Fx, mx, kx⟩ := hPat3
      have F4 := turn_fr hF3.get Fx kI2
      have k4 : Kept [L] hc1 hx1 := fun b o e n => kI2 b o (kx b o e n) (nm1 (Nat.ne_of_lt (Heap.lt_size (k3 b o e n))))
      have F5 := pin (x := Str.ofString "wires") (pin (x := Str.ofString "design") (pin (x := Str.ofString "driven") (F4) mx.driven) ((if_neg (by decide)).trans mx.design)) ((if_neg (by decide)).trans ((if_neg (by decide)).trans mx.wires))
      clear Fx F4 F3
      obtain ⟨rest, N, H⟩ := see F5 [(a.wr, _), (a.wd, _)] (fCm ⟨vwr.kept k4, fCm ⟨vwd.kept k4, fNm _⟩⟩)
      try dsimp only [List.nil_append, List.cons_append] at N
      try dsimp only
      k_steps
      rename Fr _ _ _ _ => F6
      rename News _ _ _ _ => N6
      have k6 : Kept [L] hc1 _ := k4.trans (seen H F6 (fun q m => (N6 q (by repeat (first | exact m | refine List.Mem.tail _ ?_))).1))
      have nT : ∀ s ∈ [L], NonTup hc1 s := fCm ⟨.fr hF2.get, fNm _⟩
      have D6 := D2.kept hF2.get k6
      have V6 := V2.kept hF2.get k6
      refine hold fun gP kont => ?_
      obtain ⟨od, vD, tD⟩ := D6.at_
      obtain ⟨ov, vV, tV⟩ := V6.at_
      refine kont ?_
      clear kont gP
      have G6 := C1.gear _ (fun b o e nf n => k6 _ _ (kb2 b o e nf n) (nm1 fun q => n (q ▸ .tail _ (.head _))))
      have hlen : ∀ k, (nets k).length < 1000 := fun k => by (have := CI1.sz.2.2.2 k; lia)
      have lx : ∀ x ∈ xs, ∃ la li n, x.2.2 = .ref la ∧ NA g1 L _ la (PySem.W.listOf li n) ∧ li.size = (nets x.1).length := fun x hx => by
        obtain ⟨la, li, n, e1, e2, e3, _⟩ := D6.ls x hx
        exact ⟨la, li, n, e1, e2, by rw [← Array.length_toList]; exact PyProof.Rows.IntsAre.length e3⟩
      have ly : ∀ x ∈ ys, ∃ la li n, x.2.2 = .ref la ∧ NA g1 L _ la (PySem.W.listOf li n) ∧ li.size = (nets x.1).length := fun x hx => by
        obtain ⟨la, li, n, e1, e2, e3, _⟩ := V6.ls x hx
        exact ⟨la, li, n, e1, e2, by rw [← Array.length_toList]; exact PyProof.Rows.IntsAre.length e3⟩
      have hx64 : xs.length < 64 := by (have := CI1.sz.1; lia)
      have hkn : ∀ x ∈ xs, ∃ r b : Nat, x.1 = [(r : Int), (b : Int)] ∧ r < 5 ∧ b < 100 := fun x hx => let ⟨r, b, e, h1, h2⟩ := CI1.kn x hx; ⟨r, b, e, h1, by (have := widthAt_le r); lia⟩
      have mi : ∀ r, Multi (fun k => (nets k).length) xs r ↔ MultiB (fun k => (nets k).length) ys r := multi_iff CI1.ks CI1.kn
      by_cases hM : ∃ r, Multi (fun k => (nets k).length) xs r
      · obtain ⟨r, hMr, hMl⟩ := exists_least hM
        walk_at "q0"
        refine' wpAny_call (checked_raise (kd := Str.ofString "several_drivers") (dt := Str.ofString (pathAt r)) (at_ := 20 + r) (B1.push F6) XB TB ?z1 ?z2 ?z3 (fun A' s' outer' R' Bs hd hu hn' kk ow hRR => check_spec (len := fun k => (nets k).length) Bs XB TB hd hu hn' (kk.get G6.wr) (kk.get G6.wd) (ow _ _ G6.wr G6.o_wr) (ow _ _ G6.wd G6.o_wd) (sigs_of G6 kk ow) (kk.get vD.1) (ow _ _ vD.1 G6.o_D) G6.sys.1 (tD.kept kk) hkn hx64 (fun x hx => let ⟨la, li, n, e1, e2, e3⟩ := lx x hx; ⟨la, li, n, e1, kk.get e2.1, e3, hlen _, ow _ _ e2.1 (e2.own B1)⟩) (fun h' tk' no _ => absurd hMr (no r)) (fun r' h' tk' e dx es m1 m2 ee TT => by
          have hrr : r' = r := by
            rcases Nat.lt_trichotomy r' r with q | q | q
            · exact absurd m1 (hMl r' q)
            · exact q
            · exact absurd hMr (m2 r q)
          subst hrr
          exact hRR h' tk' e dx es ee TT)) ?_)
        case z1 => exact roomD hroom (by decide)
        case z2 => exact roomU hun (by decide)
        case z3 => exact hh
        intro h8 tk8 tp t1 t2 t3 q1 q2 tp0 etp
        refine hold fun gP kont => ?_
        obtain ⟨gg8, Gd8, nn8, F8, na8, u8, noF8⟩ := ground_turn0 XB TB ⟨B1, X1, T1⟩ F6 q1 q2
        have tpL : tp ≠ L := fr_ne F6 tp0
        have hF8 := Hid.mk F8
        have B8 := Gd8.B
        have X8 := Gd8.X
        have T8 := Gd8.T
        have vV8 := na8 _ _ vV
        have tV8 := tab_ups tV u8
        clear F6 N6
        obtain ⟨rest, N, H⟩ := see F8 [] (fNm _)
        refine kont ?_
        clear kont gP
        try dsimp only [List.nil_append, List.cons_append] at N
        try dsimp only
        k_steps
        rename Fr _ _ _ _ => F9
        rename News _ _ _ _ => N9
        have k9 : Kept [L] h8 _ := seen H F9 (fun q m => (N9 q (by repeat (first | exact m | refine List.Mem.tail _ ?_))).1)
        have nT8 : ∀ s ∈ [L], NonTup h8 s := fCm ⟨.fr hF8.get, fNm _⟩
        walk_at "q0"
        refine' wpAny_call (twice_spec (len := fun k => (nets k).length) (B8.push F9) XB TB ?z1 ?z2 ?z3 (vV8.kept k9).1 ((vV8.kept k9).own B8) C1.lo (tab_but tV8 k9 nT8) (fun x hx => let ⟨la, li, n, e1, e2, e3⟩ := ly x hx; ⟨la, li, n, e1, ((na8 _ _ e2).kept k9).1, e3, hlen _, ((na8 _ _ e2).kept k9).own B8⟩) (fun h' tk' no _ => absurd ((mi r).mp hMr) (no r)) ?hbad)
        case z1 => exact roomD hroom (by decide)
        case z2 => exact roomU hun (by decide)
        case z3 => exact hh
        case hbad =>
          intro r' h10 tk10 tp2 u1 u2 u3 m1 m2 k10 tq0 etq
          have hrr : r' = r := by
            rcases Nat.lt_trichotomy r' r with q | q | q
            · exact absurd ((mi r').mpr m1) (hMl r' q)
            · exact q
            · exact absurd ((mi r).mp hMr) (m2 r q)
          subst hrr
          have F10 := led_kept k10 F9 (fNm _)
          clear F9 N9
          try dsimp only
          refine' data_eq (err_reads (k10.get (k9 _ _ etp (nm1 tpL)))) (err_reads etq) (err_shaped (by decide +kernel) (path_ok r' (Nat.lt_succ_of_lt hMr.1))) (hu64 _) ?_
          try dsimp only
          k_steps
          refine hQ _ _ (fun b o e nf n => ?_) (fun b hf o e => ?_)
          · have nI : b ≠ h.objs.size := Nat.ne_of_lt (Heap.lt_size e)
            have nL : b ≠ L := fun q => n (q ▸ .head _)
            exact k10.get (k9 _ _ (q1 _ _ (k6 _ _ (kb2 b o (Heap.get?_push_of_some _ e) nf (fun m => (List.mem_cons.mp m).elim nI n)) (nm1 nL)) (fun m => (List.mem_filterMap.mp m).elim fun env he => (List.mem_cons.mp he.1).elim (fun q => nL (by have := he.2; rw [q] at this; exact (Option.some.inj this).symm)) fun q => nf (List.mem_filterMap.mpr ⟨env, q, he.2⟩))) (nm1 nL))
          · have nL : b ≠ L := fun q => S0.fw b hf (q ▸ .head _)
            refine hold fun gP kont => ?_
            obtain ⟨sl, e2⟩ := fu2 b hf o (Heap.get?_push_of_some _ e)
            obtain ⟨sl2, e3⟩ := u8 _ _ (k6 _ _ e2 (nm1 nL))
            refine kont ?_
            clear kont gP
            exact ⟨sl2, k10.get (k9 _ _ e3 (nm1 nL))⟩
      · refine' wpAny_call (checked_ok (sub := []) (P := fun _ _ => True) (B1.push F6) XB TB ?z1 ?z2 ?z3 (fNm _) (fNm _) (fun _ _ _ _ x => x) (fun A' s' outer' R' Bs hd hu hn' kk ow hRR => check_spec (len := fun k => (nets k).length) Bs XB TB hd hu hn' (kk.get G6.wr) (kk.get G6.wd) (ow _ _ G6.wr G6.o_wr) (ow _ _ G6.wd G6.o_wd) (sigs_of G6 kk ow) (kk.get vD.1) (ow _ _ vD.1 G6.o_D) G6.sys.1 (tD.kept kk) hkn hx64 (fun x hx => let ⟨la, li, n, e1, e2, e3⟩ := lx x hx; ⟨la, li, n, e1, kk.get e2.1, e3, hlen _, ow _ _ e2.1 (e2.own B1)⟩) (fun h' tk' no k => hRR h' tk' k trivial) (fun r' h' tk' e dx es m1 m2 ee TT => absurd ⟨r', m1⟩ hM)) ?_)
        case z1 => exact roomD hroom (by decide)
        case z2 => exact roomU hun (by decide)
        case z3 => exact hh
        intro h8 tk8 k8 _
        have k8 : Kept [] _ h8 := k8
        have F8 := led_kept k8 F6 (fNm _)
        have hF8 := Hid.mk F8
        have vV8 : NA g1 L h8 dv _ := ⟨k8.get vV.1, vV.2⟩
        have tV8 := tV.kept k8
        clear F6 N6
        obtain ⟨rest, N, H⟩ := see F8 [] (fNm _)
        try dsimp only [List.nil_append, List.cons_append] at N
        try dsimp only
        k_steps
        rename Fr _ _ _ _ => F9
        rename News _ _ _ _ => N9
        have k9 : Kept [L] h8 _ := seen H F9 (fun q m => (N9 q (by repeat (first | exact m | refine List.Mem.tail _ ?_))).1)
        have nT8 : ∀ s ∈ [L], NonTup h8 s := fCm ⟨.fr hF8.get, fNm _⟩
        walk_at "q0"
        refine' wpAny_call (twice_spec (len := fun k => (nets k).length) (B1.push F9) XB TB ?z1 ?z2 ?z3 (vV8.kept k9).1 ((vV8.kept k9).own B1) C1.lo (tab_but tV8 k9 nT8) (fun x hx => let ⟨la, li, n, e1, e2, e3⟩ := ly x hx; ⟨la, li, n, e1, k9 _ _ (k8.get e2.1) (nm1 e2.2.1), e3, hlen _, e2.own B1⟩) ?hok (fun r' h' tk' tp2 u1 u2 u3 m1 _ _ _ _ => absurd ⟨r', (mi r').mpr m1⟩ hM))
        case z1 => exact roomD hroom (by decide)
        case z2 => exact roomU hun (by decide)
        case z3 => exact hh
        case hok =>
          intro h10 tk10 no k10
          have F10 := led_kept k10 F9 (fNm _)
          clear F9 N9
          try dsimp only
          k_steps
          refine hQ _ _ (fun b o e nf n => ?_) (fun b hf o e => ?_)
          · have nI : b ≠ h.objs.size := Nat.ne_of_lt (Heap.lt_size e)
            have nL : b ≠ L := fun q => n (q ▸ .head _)
            exact k10.get (k9 _ _ (k8.get (k6 _ _ (kb2 b o (Heap.get?_push_of_some _ e) nf (fun m => (List.mem_cons.mp m).elim nI n)) (nm1 nL))) (nm1 nL))
          · have nL : b ≠ L := fun q => S0.fw b hf (q ▸ .head _)
            obtain ⟨sl, e2⟩ := fu2 b hf o (Heap.get?_push_of_some _ e)
            exact ⟨sl, k10.get (k9 _ _ (k8.get (k6 _ _ e2 (nm1 nL))) (nm1 nL))⟩
section
local macro_rules | `(tactic| k_steps) => `(tactic| (walk_at "q0"; repeat' (walk_at "g4"; walk_at "q1")))
local macro_rules | `(tactic| k_all) => `(tactic| assumption)

structure DesignAt (w : World) (h0 h : Heap) (ds : Addr) : Prop where
  ex : ∃ dd sl td vd its sn, h.get? ds = some (instObj 239 dd) ∧ h.get? dd = some (ddOf w.params td vd sl) ∧ h.get? sl = some (PySem.W.listOf its sn) ∧ h0.get? ds = none ∧ h0.get? dd = none ∧ h0.get? sl = none ∧
    ∀ r : Nat, r < 5 → ∃ sg sd ts us, its[r]? = some (.ref sg) ∧ h.get? sg = some (instObj 176 sd) ∧ h.get? sd = some (sdAt r w.params ts us) ∧ h0.get? sg = none ∧ h0.get? sd = none
structure DS (w : World) (g : Heap) (L : Addr) (h0 h : Heap) (ds dd sl bp : Addr) (td : Nat → Tok) (vd : Nat → Value) (its : Array Value) (n : Nat) : Prop where
  f_ds : NA g L h ds (instObj 239 dd)
  f_dd : NA g L h dd (ddOf w.params td vd sl)
  f_sl : NA g L h sl (PySem.W.listOf its n)
  f_bp : ∃ ob kvs, NA g L h bp ob ∧ DObj (SK w) ob kvs ∧ kvs.length ≤ its.size
  hb : vd 11 = .ref bp
  fr : h0.get? ds = none ∧ h0.get? dd = none ∧ h0.get? sl = none ∧ h0.get? bp = none ∧ sl ≠ bp ∧ dd ≠ bp
  sigs : ∀ r : Nat, r < its.size → ∃ sg sd ts us, its[r]? = some (.ref sg) ∧ NA g L h sg (instObj 176 sd) ∧ NA g L h sd (sdAt r w.params ts us) ∧ h0.get? sg = none ∧ h0.get? sd = none ∧ sg ≠ bp ∧ sd ≠ bp
theorem DS.kept {w : World} {g : Heap} {L : Addr} {h0 h h' : Heap} {ds dd sl bp : Addr} {td : Nat → Tok} {vd : Nat → Value} {its : Array Value} {n : Nat} (D : DS w g L h0 h ds dd sl bp td vd its n) (k : Kept [L] h h') : DS w g L h0 h' ds dd sl bp td vd its n :=
  ⟨D.f_ds.kept k, D.f_dd.kept k, D.f_sl.kept k, let ⟨ob, kvs, a, b⟩ := D.f_bp; ⟨ob, kvs, a.kept k, b⟩, D.hb, D.fr, fun r hr => let ⟨sg, sd, ts, us, a, b, c, d⟩ := D.sigs r hr; ⟨sg, sd, ts, us, a, b.kept k, c.kept k, d⟩⟩
theorem DS.add {w : World} {g : Heap} {L : Addr} {h0 h h' : Heap} {ds dd sl bp : Addr} {td : Nat → Tok} {vd : Nat → Value} {its : Array Value} {n : Nat} {sg sd : Addr} {ob : Obj} {kvs : List (Str × Value)} {ts us : Nat → Tok} (D : DS w g L h0 h ds dd sl bp td vd its n) (k : Kept [sl, bp, L] h h')
    (n1 : h.get? sg = none) (n2 : h.get? sd = none) (z1 : NA g L h' sg (instObj 176 sd)) (z2 : NA g L h' sd (sdAt its.size w.params ts us)) (K : Kept [] h0 h) (e : h'.get? sl = some (PySem.W.listOf (its.push (.ref sg)) (n + 1))) (eb : h'.get? bp = some ob) (hD : DObj (SK w) ob kvs) (hl : kvs.length ≤ its.size + 1) : DS w g L h0 h' ds dd sl bp td vd (its.push (.ref sg)) (n + 1) := by
  refine hold fun gP kont => ?_
  obtain ⟨ob0, kvs0, hb0, hd0, hl0⟩ := D.f_bp
  refine kont ?_
  clear kont gP
  have sgl : ∀ {x y : Addr} {C : Addr}, NA g L h x (instObj C y) → x ∉ [sl, bp, L] := fun e => nm3 (ne_cls e.1 D.f_sl.1 no_ref_list) (ne_cls e.1 hb0.1 (fun q => by obtain ⟨_, _, z, _⟩ := hd0; exact no_ref_dict (q.trans z.1))) e.2.1
  have bpn : ∀ {x : Addr}, h.get? x = none → x ≠ bp := fun q => ne_none q hb0.1
  refine ⟨D.f_ds.but k (sgl D.f_ds), D.f_dd.but k (nm3 (ne_cls D.f_dd.1 D.f_sl.1 no_dict_list) D.fr.2.2.2.2.2 D.f_dd.2.1), ⟨e, D.f_sl.2⟩, ⟨ob, kvs, ⟨eb, hb0.2⟩, hD, by rw [Array.size_push]; exact hl⟩, D.hb, D.fr, fun r hr => ?_⟩
  rw [Array.size_push] at hr
  rcases Nat.lt_succ_iff_lt_or_eq.mp hr with hr | hr
  · obtain ⟨a, b, ts, us, e1, e2, e3, e4, e5, e6, e7⟩ := D.sigs r hr
    refine ⟨a, b, ts, us, by rw [Array.getElem?_push, if_neg (Nat.ne_of_lt hr)]; exact e1, e2.but k (sgl e2), e3.but k (nm3 (fun q => ?_) e7 e3.2.1), e4, e5, e6, e7⟩
    have z : (sdAt r w.params ts us).cls = .type "dict" := by
      match r with
      | 0 => rfl
      | 1 => rfl
      | 2 => rfl
      | 3 => rfl
      | r + 4 => rfl
    exact ne_cls e3.1 D.f_sl.1 (fun y => no_dict_list (z.symm.trans y)) q
  · subst hr
    exact ⟨sg, sd, ts, us, by rw [Array.getElem?_push, if_pos rfl], z1, z2, K.none_ n1, K.none_ n2, bpn n1, bpn n2⟩
set_option maxHeartbeats 8000000 in
theorem design_spec {w : World} {A : Around} {s : Shared} {base : Heap} {outer : List Env} {mean : ExcName → Option Value} {mg mb : Str → Option Value} {R : Result → Shared → Prop}
    (B : Below A base outer s.heap) (XB : (Mine.hd.heap_39 w.params).In base) (TB : Top Mine.hd.view_39 (looseW Mine.hd.view_39 [Str.ofString "GateloomError"]) mean mg mb base) (hroom : A.depth < 550)
    (hR : ∀ h' tk' ds, Kept [] s.heap h' → DesignAt w s.heap h' ds → R (.ok (.ret (.ref ds))) { s with heap := h', toks := tk' }) :
    codeAny (model PySem.Challenge.rw_sj0046_01.row.prog w) A (.call (.ref 355) ⟨[], []⟩) R s := by
  refine hold fun gP kont => ?_
  obtain ⟨h, g, d, tt, os⟩ := s
  refine kont ?_
  clear kont gP
  refine' enter_all (binds := []) B XB TB ?k6 ?k7 ?k8 ?k9 ?kB ?_ ?c2 ?c3 ?c4 ?c5
  case k8 => exact Nat.lt_of_lt_of_le hroom (by decide)
  tb_start
  intro gg L h₁ hg1 hg2 hL k1 F B' X' T'
  try dsimp only
  have hLn : ∀ a ∈ [L], h.get? a = none := fun a m => by rw [List.mem_singleton.mp m, hL]; exact Heap.get?_none_of_le (Nat.le_refl _)
  obtain ⟨rest, N, H⟩ := see F [] (fNm _)
  try dsimp only [List.nil_append] at N
  k_steps
  walk_at "q0"
  refine' call_cls ?k1 ?k2 ?k3 ?k4 ?k5 ?k6 ?_
  case k1 => k_asm
  case k2 => k_asm
  case k3 => k_asm
  case k4 => k_is
  case k5 => k_is
  case k6 => k_is
  k_whole
  intro ds dd h2 F2 N2 l1 l2
  have k2 : Kept [] h h2 := k1.thru (seen H F2 (fun q m => (N2 q (.tail _ (.tail _ m))).1)) hLn
  have hds := NA.of N2 (.head _)
  have hdd := NA.of N2 (.tail _ (.head _))
  have hdd0 : h.get? dd = none := fresh_new H l1 k1 hL hdd.2.2
  have hds0 : h.get? ds = none := fresh_new H (fun q m => Nat.lt_trans (l1 q m) l2) k1 hL hds.2.2
  clear N N2
  have ne_dsdd : ds ≠ dd := ne_cls hds.1 hdd.1 no_ref_dict
  refine' dinit_spec (below_under (B'.push F2) rfl) XB TB ?z1 hds.1 hdd.1 ?z2 ?z3 ?z4 ?_
  case z1 => (simp only [depth_under_make, depth_deeper]; lia)
  case z2 => exact hds.own B'
  case z3 => exact hdd.own B'
  case z4 => exact ne_dsdd
  intro h3 tk3 td vd sl bp ob0 k3 hdd3 hbp hsl0 hsl3 hbp0 hbp3 hob0 hbs
  refine ⟨rfl, ?_⟩
  try dsimp only
  have F3 := led_kept k3 F2 (fCm ⟨⟨hdd.2.2, hdd.2.1⟩, fNm _⟩)
  have KK : Kept [] h h3 := k2.thru k3 (fCm ⟨hdd0, fNm _⟩)
  have D : DS w gg L h h3 ds dd sl bp td vd #[] 0 := ⟨hds.but k3 (nm1 ne_dsdd), ⟨hdd3, hdd.2⟩, NA.ofNew F2 hsl0 hsl3, ⟨_, _, NA.ofNew F2 hbp0 hbp3, hob0, Nat.le_refl _⟩, hbp, ⟨hds0, hdd0, k2.none_ hsl0, k2.none_ hbp0, hbs.symm, (ne_none hbp0 hdd.1).symm⟩, fun r hr => absurd hr (Nat.not_lt_zero _)⟩
  clear F2 hds hdd hdd3 hsl3 hbp3 hob0 k3 k2
  -- signal 0
  obtain ⟨rest, N, H⟩ := see F3 [(ds, _), (dd, _)] (fCm ⟨D.f_ds, fCm ⟨D.f_dd, fNm _⟩⟩)
  try dsimp only [List.nil_append, List.cons_append] at N
  k_steps
  rename Fr _ _ _ _ => F4
  rename News _ _ _ _ => N4
  have k4 := seen H F4 (fun q m => (N4 q (by repeat (first | exact m | refine List.Mem.tail _ ?_))).1)
  replace D := D.kept k4
  replace KK := KK.thru k4 hLn
  walk_at "q0"
  refine' wpAny_call (paths_spec (B'.push F4) XB TB ?z1 ?_)
  case z1 => exact roomD hroom (by decide)
  intro hA tkA pa kA pa0 hpa
  refine hold fun gP kont => ?_
  obtain ⟨arr, pn, hpl, hsz, hat⟩ := hpa
  obtain ⟨tp, hx⟩ := hat 0 (by lia)
  refine kont ?_
  clear kont gP
  replace D := D.kept kA.one
  replace KK := KK.thru kA (fNm _)
  have FA := led_kept kA F4 (fNm _)
  have NA4 := led_grow N4 fun b o q => kA.get q
  clear F4 N4
  try dsimp only
  k_steps
  have hlA := listAt hpl
  walk_at "q0"
  refine' sub_any ?ht slot_list_getitem.lookup (wpAny_getItem_list hlA (by decide) (by decide) hx ?_) (by with_unfolding_all rfl)
  case ht => exact hlA.typeIs
  try dsimp only
  k_steps
  refine hold fun gP kont => ?_
  obtain ⟨ob, kvs, bp5, hob5, hlen5⟩ := D.f_bp
  refine kont ?_
  clear kont gP
  walk_at "q0"
  refine' wpAny_call (addsig_spec (B'.push FA) XB TB ?z1 D.f_ds.1 D.f_dd.1 D.f_sl.1 D.hb bp5.1 hob5 ?zl ?zi (D.f_ds.own B') (D.f_dd.own B') (D.f_sl.own B') (bp5.own B') ?m1 ?m2 ?m3 ?m4 ?m5 ?m6 ?_)
  case z1 => exact roomD hroom (by decide)
  case zl => exact Nat.le_trans hlen5 (by rw [sizeLine_eq]; simp only [Array.size_push, List.size_toArray, List.length_nil]; decide)
  case zi => (simp [Array.size_push])
  case m1 => exact ne_cls D.f_ds.1 D.f_sl.1 no_ref_list
  case m2 => exact ne_cls D.f_dd.1 D.f_sl.1 no_dict_list
  case m3 => exact ne_cls D.f_ds.1 bp5.1 (fun q => by obtain ⟨_, _, z, _⟩ := hob5; exact no_ref_dict (q.trans z.1))
  case m4 => exact D.fr.2.2.2.2.2
  case m5 => exact D.fr.2.2.2.2.1
  case m6 => exact ne_cls D.f_ds.1 D.f_dd.1 no_ref_dict
  intro h6 tk6 sg0 sd0 t0 u0 ob6 k6 n6 n7 e6 e7 e8 e9 hPat14
  obtain ⟨kvs6, hk6, hl6⟩ := hPat14
  have z6 := NA.ofNew FA n6 e6
  have z7 := NA.ofNew FA n7 e7
  have K6 := KK.thru k6 (fCm ⟨D.fr.2.2.1, fCm ⟨D.fr.2.2.2.1, fNm _⟩⟩)
  have F := led_kept k6 FA (fCm ⟨⟨D.f_sl.2.2, D.f_sl.2.1⟩, fCm ⟨⟨bp5.2.2, bp5.2.1⟩, fNm _⟩⟩)
  clear FA NA4
  try dsimp only
  refine hold fun gP kont => ?_
  obtain ⟨rest, N, hrx, H⟩ := see_mut F [(sg0, _)] [(sd0, _)] (fCm ⟨z6, fNm _⟩) (fCm ⟨z7, fNm _⟩)
  refine kont ?_
  clear kont gP
  try dsimp only [List.nil_append, List.cons_append] at N
  have hrx0 : ∀ q ∈ rest, q.1 ≠ sd0 := hrx _ (.head _)
  have hsgsd : @Ne Nat sg0 sd0 := ne_cls z6.1 z7.1 no_ref_dict
  clear hrx
  walk_at "q0"
  repeat ((fail_if_success (with_reducible show wpAny _ _ (subscriptTail _ _ (Value.ref _) (Value.int (Nat.cast _) _)) _ _ _)); (fail_if_success (with_reducible show wpAny _ _ (call (Value.ref _) _) _ _ _)); (fail_if_success (with_reducible show wpAny _ _ (getMethod (Value.ref _) _ _) _ _ _)); walk_at "q2")
  rename Fr _ _ _ _ => F7
  rename News _ _ _ _ => N7
  have k7 := seen_mut H F7 (fun q m => (N7 q (by repeat (first | exact m | refine List.Mem.tail _ ?_))).1)
  have k76 : Kept [sl, bp, L] hA _ := fun b o e n => k7 b o (k6 b o e fun m => n (by rcases List.mem_cons.mp m with e | m; exact e ▸ .head _; exact (List.mem_singleton.mp m) ▸ .tail _ (.head _))) fun m => by
    rcases List.mem_cons.mp m with e' | m
    · exact n (e' ▸ .tail _ (.tail _ (.head _)))
    · rw [List.mem_singleton.mp m, n7] at e; cases e
  have K7 := KK.thru k76 (fCm ⟨D.fr.2.2.1, fCm ⟨D.fr.2.2.2.1, hLn⟩⟩)
  have nbp : bp ∉ [L, sd0] := nm2 bp5.2.1 (ne_none n7 bp5.1).symm
  have nsl : sl ∉ [L, sd0] := nm2 D.f_sl.2.1 (ne_none n7 D.f_sl.1).symm
  have D7 := D.add (sg := sg0) (sd := sd0) (ts := fun i => [t0 0, t0 1, t0 2, t0 3, t0 4, t0 5, t0 6, t0 7, t0 8, t0 9, t0 10, t0 11].getD i 0) (us := fun i => [u0 0, u0 1, u0 2, u0 3, u0 4, u0 5, u0 6, _, _].getD i 0) k76 n6 n7 (N7 _ (.head _)) (N7 _ (.tail _ (.head _))) KK (k7 _ _ e8 nsl) (k7 _ _ e9 nbp) hk6 (Nat.le_trans hl6 (Nat.succ_le_succ hlen5))
  clear KK D
  have D := D7
  have KK := K7
  clear D7 K7
  have F := F7
  clear F7 N7 e6 e7 e8 e9 k7 k76 k6 hsgsd
  -- signal 1
  obtain ⟨rest, N, H⟩ := see F [(ds, _), (dd, _)] (fCm ⟨D.f_ds, fCm ⟨D.f_dd, fNm _⟩⟩)
  try dsimp only [List.nil_append, List.cons_append] at N
  k_steps
  rename Fr _ _ _ _ => F4
  rename News _ _ _ _ => N4
  have k4 := seen H F4 (fun q m => (N4 q (by repeat (first | exact m | refine List.Mem.tail _ ?_))).1)
  replace D := D.kept k4
  replace KK := KK.thru k4 hLn
  walk_at "q0"
  refine' wpAny_call (paths_spec (B'.push F4) XB TB ?z1 ?_)
  case z1 => exact roomD hroom (by decide)
  intro hA tkA pa kA pa0 hpa
  refine hold fun gP kont => ?_
  obtain ⟨arr, pn, hpl, hsz, hat⟩ := hpa
  obtain ⟨tp, hx⟩ := hat 1 (by lia)
  refine kont ?_
  clear kont gP
  replace D := D.kept kA.one
  replace KK := KK.thru kA (fNm _)
  have FA := led_kept kA F4 (fNm _)
  have NA4 := led_grow N4 fun b o q => kA.get q
  clear F4 N4
  try dsimp only
  k_steps
  have hlA := listAt hpl
  walk_at "q0"
  refine' sub_any ?ht slot_list_getitem.lookup (wpAny_getItem_list hlA (by decide) (by decide) hx ?_) (by with_unfolding_all rfl)
  case ht => exact hlA.typeIs
  try dsimp only
  k_steps
  refine hold fun gP kont => ?_
  obtain ⟨ob, kvs, bp5, hob5, hlen5⟩ := D.f_bp
  refine kont ?_
  clear kont gP
  walk_at "q0"
  refine' wpAny_call (addsig_spec (B'.push FA) XB TB ?z1 D.f_ds.1 D.f_dd.1 D.f_sl.1 D.hb bp5.1 hob5 ?zl ?zi (D.f_ds.own B') (D.f_dd.own B') (D.f_sl.own B') (bp5.own B') ?m1 ?m2 ?m3 ?m4 ?m5 ?m6 ?_)
  case z1 => exact roomD hroom (by decide)
  case zl => exact Nat.le_trans hlen5 (by rw [sizeLine_eq]; simp only [Array.size_push, List.size_toArray, List.length_nil]; decide)
  case zi => (simp [Array.size_push])
  case m1 => exact ne_cls D.f_ds.1 D.f_sl.1 no_ref_list
  case m2 => exact ne_cls D.f_dd.1 D.f_sl.1 no_dict_list
  case m3 => exact ne_cls D.f_ds.1 bp5.1 (fun q => by obtain ⟨_, _, z, _⟩ := hob5; exact no_ref_dict (q.trans z.1))
  case m4 => exact D.fr.2.2.2.2.2
  case m5 => exact D.fr.2.2.2.2.1
  case m6 => exact ne_cls D.f_ds.1 D.f_dd.1 no_ref_dict
  intro h6 tk6 sg1 sd1 t1 u1 ob6 k6 n6 n7 e6 e7 e8 e9 hPat14
  obtain ⟨kvs6, hk6, hl6⟩ := hPat14
  have z6 := NA.ofNew FA n6 e6
  have z7 := NA.ofNew FA n7 e7
  have K6 := KK.thru k6 (fCm ⟨D.fr.2.2.1, fCm ⟨D.fr.2.2.2.1, fNm _⟩⟩)
  have F := led_kept k6 FA (fCm ⟨⟨D.f_sl.2.2, D.f_sl.2.1⟩, fCm ⟨⟨bp5.2.2, bp5.2.1⟩, fNm _⟩⟩)
  clear FA NA4
  try dsimp only
  replace D := D.add (ts := t1) (us := u1) (k6.mono fun b m => by rcases List.mem_cons.mp m with e | m; exact e ▸ .head _; exact (List.mem_singleton.mp m) ▸ .tail _ (.head _)) n6 n7 z6 z7 KK e8 e9 hk6 (Nat.le_trans hl6 (Nat.succ_le_succ hlen5))
  clear KK
  have KK := K6
  clear K6 e6 e7 e8 e9 k6
  -- signal 2
  obtain ⟨rest, N, H⟩ := see F [(ds, _), (dd, _)] (fCm ⟨D.f_ds, fCm ⟨D.f_dd, fNm _⟩⟩)
  try dsimp only [List.nil_append, List.cons_append] at N
  k_steps
  rename Fr _ _ _ _ => F4
  rename News _ _ _ _ => N4
  have k4 := seen H F4 (fun q m => (N4 q (by repeat (first | exact m | refine List.Mem.tail _ ?_))).1)
  replace D := D.kept k4
  replace KK := KK.thru k4 hLn
  walk_at "q0"
  refine' wpAny_call (paths_spec (B'.push F4) XB TB ?z1 ?_)
  case z1 => exact roomD hroom (by decide)
  intro hA tkA pa kA pa0 hpa
  refine hold fun gP kont => ?_
  obtain ⟨arr, pn, hpl, hsz, hat⟩ := hpa
  obtain ⟨tp, hx⟩ := hat 2 (by lia)
  refine kont ?_
  clear kont gP
  replace D := D.kept kA.one
  replace KK := KK.thru kA (fNm _)
  have FA := led_kept kA F4 (fNm _)
  have NA4 := led_grow N4 fun b o q => kA.get q
  clear F4 N4
  try dsimp only
  k_steps
  have hlA := listAt hpl
  walk_at "q0"
  refine' sub_any ?ht slot_list_getitem.lookup (wpAny_getItem_list hlA (by decide) (by decide) hx ?_) (by with_unfolding_all rfl)
  case ht => exact hlA.typeIs
  try dsimp only
  k_steps
  refine hold fun gP kont => ?_
  obtain ⟨ob, kvs, bp5, hob5, hlen5⟩ := D.f_bp
  refine kont ?_
  clear kont gP
  walk_at "q0"
  refine' wpAny_call (addsig_spec (B'.push FA) XB TB ?z1 D.f_ds.1 D.f_dd.1 D.f_sl.1 D.hb bp5.1 hob5 ?zl ?zi (D.f_ds.own B') (D.f_dd.own B') (D.f_sl.own B') (bp5.own B') ?m1 ?m2 ?m3 ?m4 ?m5 ?m6 ?_)
  case z1 => exact roomD hroom (by decide)
  case zl => exact Nat.le_trans hlen5 (by rw [sizeLine_eq]; simp only [Array.size_push, List.size_toArray, List.length_nil]; decide)
  case zi => (simp [Array.size_push])
  case m1 => exact ne_cls D.f_ds.1 D.f_sl.1 no_ref_list
  case m2 => exact ne_cls D.f_dd.1 D.f_sl.1 no_dict_list
  case m3 => exact ne_cls D.f_ds.1 bp5.1 (fun q => by obtain ⟨_, _, z, _⟩ := hob5; exact no_ref_dict (q.trans z.1))
  case m4 => exact D.fr.2.2.2.2.2
  case m5 => exact D.fr.2.2.2.2.1
  case m6 => exact ne_cls D.f_ds.1 D.f_dd.1 no_ref_dict
  intro h6 tk6 sg2 sd2 t2 u2 ob6 k6 n6 n7 e6 e7 e8 e9 hPat14
  obtain ⟨kvs6, hk6, hl6⟩ := hPat14
  have z6 := NA.ofNew FA n6 e6
  have z7 := NA.ofNew FA n7 e7
  have K6 := KK.thru k6 (fCm ⟨D.fr.2.2.1, fCm ⟨D.fr.2.2.2.1, fNm _⟩⟩)
  have F := led_kept k6 FA (fCm ⟨⟨D.f_sl.2.2, D.f_sl.2.1⟩, fCm ⟨⟨bp5.2.2, bp5.2.1⟩, fNm _⟩⟩)
  clear FA NA4
  try dsimp only
  replace D := D.add (ts := t2) (us := u2) (k6.mono fun b m => by rcases List.mem_cons.mp m with e | m; exact e ▸ .head _; exact (List.mem_singleton.mp m) ▸ .tail _ (.head _)) n6 n7 z6 z7 KK e8 e9 hk6 (Nat.le_trans hl6 (Nat.succ_le_succ hlen5))
  clear KK
  have KK := K6
  clear K6 e6 e7 e8 e9 k6
  -- signal 3
  obtain ⟨rest, N, H⟩ := see F [(ds, _), (dd, _)] (fCm ⟨D.f_ds, fCm ⟨D.f_dd, fNm _⟩⟩)
  try dsimp only [List.nil_append, List.cons_append] at N
  k_steps
  rename Fr _ _ _ _ => F4
  rename News _ _ _ _ => N4
  have k4 := seen H F4 (fun q m => (N4 q (by repeat (first | exact m | refine List.Mem.tail _ ?_))).1)
  replace D := D.kept k4
  replace KK := KK.thru k4 hLn
  walk_at "q0"
  refine' wpAny_call (paths_spec (B'.push F4) XB TB ?z1 ?_)
  case z1 => exact roomD hroom (by decide)
  intro hA tkA pa kA pa0 hpa
  refine hold fun gP kont => ?_
  obtain ⟨arr, pn, hpl, hsz, hat⟩ := hpa
  obtain ⟨tp, hx⟩ := hat 3 (by lia)
  refine kont ?_
  clear kont gP
  replace D := D.kept kA.one
  replace KK := KK.thru kA (fNm _)
  have FA := led_kept kA F4 (fNm _)
  have NA4 := led_grow N4 fun b o q => kA.get q
  clear F4 N4
  try dsimp only
  k_steps
  have hlA := listAt hpl
  walk_at "q0"
  refine' sub_any ?ht slot_list_getitem.lookup (wpAny_getItem_list hlA (by decide) (by decide) hx ?_) (by with_unfolding_all rfl)
  case ht => exact hlA.typeIs
  try dsimp only
  k_steps
  refine hold fun gP kont => ?_
  obtain ⟨ob, kvs, bp5, hob5, hlen5⟩ := D.f_bp
  refine kont ?_
  clear kont gP
  walk_at "q0"
  refine' wpAny_call (addsig_spec (B'.push FA) XB TB ?z1 D.f_ds.1 D.f_dd.1 D.f_sl.1 D.hb bp5.1 hob5 ?zl ?zi (D.f_ds.own B') (D.f_dd.own B') (D.f_sl.own B') (bp5.own B') ?m1 ?m2 ?m3 ?m4 ?m5 ?m6 ?_)
  case z1 => exact roomD hroom (by decide)
  case zl => exact Nat.le_trans hlen5 (by rw [sizeLine_eq]; simp only [Array.size_push, List.size_toArray, List.length_nil]; decide)
  case zi => (simp [Array.size_push])
  case m1 => exact ne_cls D.f_ds.1 D.f_sl.1 no_ref_list
  case m2 => exact ne_cls D.f_dd.1 D.f_sl.1 no_dict_list
  case m3 => exact ne_cls D.f_ds.1 bp5.1 (fun q => by obtain ⟨_, _, z, _⟩ := hob5; exact no_ref_dict (q.trans z.1))
  case m4 => exact D.fr.2.2.2.2.2
  case m5 => exact D.fr.2.2.2.2.1
  case m6 => exact ne_cls D.f_ds.1 D.f_dd.1 no_ref_dict
  intro h6 tk6 sg3 sd3 t3 u3 ob6 k6 n6 n7 e6 e7 e8 e9 hPat14
  obtain ⟨kvs6, hk6, hl6⟩ := hPat14
  have z6 := NA.ofNew FA n6 e6
  have z7 := NA.ofNew FA n7 e7
  have K6 := KK.thru k6 (fCm ⟨D.fr.2.2.1, fCm ⟨D.fr.2.2.2.1, fNm _⟩⟩)
  have F := led_kept k6 FA (fCm ⟨⟨D.f_sl.2.2, D.f_sl.2.1⟩, fCm ⟨⟨bp5.2.2, bp5.2.1⟩, fNm _⟩⟩)
  clear FA NA4
  try dsimp only
  replace D := D.add (ts := t3) (us := u3) (k6.mono fun b m => by rcases List.mem_cons.mp m with e | m; exact e ▸ .head _; exact (List.mem_singleton.mp m) ▸ .tail _ (.head _)) n6 n7 z6 z7 KK e8 e9 hk6 (Nat.le_trans hl6 (Nat.succ_le_succ hlen5))
  clear KK
  have KK := K6
  clear K6 e6 e7 e8 e9 k6
  -- signal 4
  obtain ⟨rest, N, H⟩ := see F [(ds, _), (dd, _)] (fCm ⟨D.f_ds, fCm ⟨D.f_dd, fNm _⟩⟩)
  try dsimp only [List.nil_append, List.cons_append] at N
  k_steps
  rename Fr _ _ _ _ => F4
  rename News _ _ _ _ => N4
  have k4 := seen H F4 (fun q m => (N4 q (by repeat (first | exact m | refine List.Mem.tail _ ?_))).1)
  replace D := D.kept k4
  replace KK := KK.thru k4 hLn
  walk_at "q0"
  refine' wpAny_call (paths_spec (B'.push F4) XB TB ?z1 ?_)
  case z1 => exact roomD hroom (by decide)
  intro hA tkA pa kA pa0 hpa
  refine hold fun gP kont => ?_
  obtain ⟨arr, pn, hpl, hsz, hat⟩ := hpa
  obtain ⟨tp, hx⟩ := hat 4 (by lia)
  refine kont ?_
  clear kont gP
  replace D := D.kept kA.one
  replace KK := KK.thru kA (fNm _)
  have FA := led_kept kA F4 (fNm _)
  have NA4 := led_grow N4 fun b o q => kA.get q
  clear F4 N4
  try dsimp only
  k_steps
  have hlA := listAt hpl
  walk_at "q0"
  refine' sub_any ?ht slot_list_getitem.lookup (wpAny_getItem_list hlA (by decide) (by decide) hx ?_) (by with_unfolding_all rfl)
  case ht => exact hlA.typeIs
  try dsimp only
  k_steps
  refine hold fun gP kont => ?_
  obtain ⟨ob, kvs, bp5, hob5, hlen5⟩ := D.f_bp
  refine kont ?_
  clear kont gP
  walk_at "q0"
  refine' wpAny_call (addsig_spec (B'.push FA) XB TB ?z1 D.f_ds.1 D.f_dd.1 D.f_sl.1 D.hb bp5.1 hob5 ?zl ?zi (D.f_ds.own B') (D.f_dd.own B') (D.f_sl.own B') (bp5.own B') ?m1 ?m2 ?m3 ?m4 ?m5 ?m6 ?_)
  case z1 => exact roomD hroom (by decide)
  case zl => exact Nat.le_trans hlen5 (by rw [sizeLine_eq]; simp only [Array.size_push, List.size_toArray, List.length_nil]; decide)
  case zi => (simp [Array.size_push])
  case m1 => exact ne_cls D.f_ds.1 D.f_sl.1 no_ref_list
  case m2 => exact ne_cls D.f_dd.1 D.f_sl.1 no_dict_list
  case m3 => exact ne_cls D.f_ds.1 bp5.1 (fun q => by obtain ⟨_, _, z, _⟩ := hob5; exact no_ref_dict (q.trans z.1))
  case m4 => exact D.fr.2.2.2.2.2
  case m5 => exact D.fr.2.2.2.2.1
  case m6 => exact ne_cls D.f_ds.1 D.f_dd.1 no_ref_dict
  intro h6 tk6 sg4 sd4 t4 u4 ob6 k6 n6 n7 e6 e7 e8 e9 hPat14
  obtain ⟨kvs6, hk6, hl6⟩ := hPat14
  have z6 := NA.ofNew FA n6 e6
  have z7 := NA.ofNew FA n7 e7
  have K6 := KK.thru k6 (fCm ⟨D.fr.2.2.1, fCm ⟨D.fr.2.2.2.1, fNm _⟩⟩)
  have F := led_kept k6 FA (fCm ⟨⟨D.f_sl.2.2, D.f_sl.2.1⟩, fCm ⟨⟨bp5.2.2, bp5.2.1⟩, fNm _⟩⟩)
  clear FA NA4
  try dsimp only
  replace D := D.add (ts := t4) (us := u4) (k6.mono fun b m => by rcases List.mem_cons.mp m with e | m; exact e ▸ .head _; exact (List.mem_singleton.mp m) ▸ .tail _ (.head _)) n6 n7 z6 z7 KK e8 e9 hk6 (Nat.le_trans hl6 (Nat.succ_le_succ hlen5))
  clear KK
  have KK := K6
  clear K6 e6 e7 e8 e9 k6
  obtain ⟨rest, N, H⟩ := see F [(ds, _), (dd, _)] (fCm ⟨D.f_ds, fCm ⟨D.f_dd, fNm _⟩⟩)
  try dsimp only [List.nil_append, List.cons_append] at N
  k_steps
  rename Fr _ _ _ _ => F4
  rename News _ _ _ _ => N4
  refine hR _ _ _ KK ⟨dd, sl, td, vd, _, _, D.f_ds.1, D.f_dd.1, D.f_sl.1, D.fr.1, D.fr.2.1, D.fr.2.2.1, fun r hr => ?_⟩
  refine hold fun gP kont => ?_
  obtain ⟨sg, sd, ts, us, a, b, c, d, e, _⟩ := D.sigs r hr
  refine kont ?_
  clear kont gP
  exact ⟨sg, sd, ts, us, a, b.1, c.1, d, e⟩
end
structure SP (m : Str → Option Value) (wr nl ds rl stl : Addr) : Prop where
  wires : m (Str.ofString "wires") = some (.ref wr)
  netlist : m (Str.ofString "netlist") = some (.ref nl)
  design : m (Str.ofString "design") = some (.ref ds)
  rows : m (Str.ofString "rows") = some (.ref rl)
  starts : m (Str.ofString "starts") = some (.ref stl)

noncomputable def Off (a : Adr) (x : Addr) : Prop := x ∉ [a.D, a.M, a.nd, a.nc]
structure Mid (w : World) (gg : Heap) (L : Addr) (h : Heap) (a : Adr) (stl : Addr) (sits : Array Value) : Prop where
  wr : NA gg L h a.wr (instObj 85 a.wd)
  wd : NA gg L h a.wd (wdOf w.params a.tw a.vw a.D a.I a.M)
  nl : NA gg L h a.nl (instObj 316 a.nd)
  nd : ∃ tc, NA gg L h a.nd (ndOf w.params a.tn a.vn 8 tc a.nc)
  nc : ∃ n, NA gg L h a.nc (PySem.W.listOf #[] n)
  ds : NA gg L h a.ds (instObj 239 a.dd)
  dd : NA gg L h a.dd (ddOf w.params a.td a.vd a.sl)
  sl : NA gg L h a.sl (PySem.W.listOf a.its a.sn)
  sigs : ∀ r : Nat, r < 5 → ∃ sg sd ts us, a.its[r]? = some (.ref sg) ∧ NA gg L h sg (instObj 176 sd) ∧ NA gg L h sd (sdAt r w.params ts us) ∧ Off a sd
  D : ∃ oD, NA gg L h a.D oD ∧ TabObj w h oD []
  M : ∃ oM, NA gg L h a.M oM ∧ DObj (SK w) oM []
  ini : ∃ oi kvs, NA gg L h a.I oi ∧ DObj (IK w) oi kvs ∧ ∀ r : Nat, r < 5 → ∃ il ins m, valueAt kvs (r : Int) = some (.ref il) ∧ NA gg L h il (PySem.W.listOf ins m) ∧ PyProof.Rows.IntsAre ins.toList (a.st r) ∧ (a.st r).length = widthAt r ∧ il ≠ a.nc
  stl_ : ∃ n, NA gg L h stl (PySem.W.listOf sits n)
  starts : ∀ r : Nat, r < 5 → ∃ il ins m, sits[r]? = some (.ref il) ∧ NA gg L h il (PySem.W.listOf ins m) ∧ PyProof.Rows.IntsAre ins.toList (a.st r) ∧ (a.st r).length = widthAt r ∧ il ≠ a.nc
  nod : [a.D, a.M, a.nd, a.nc].Nodup
  o_wd : Off a a.wd
  o_dd : Off a a.dd
  o_I : Off a a.I
  o_sl : a.sl ≠ a.nc
  o_stl : stl ≠ a.nc
  sys : (a.D == sysModules) = false ∧ (a.M == sysModules) = false ∧ (a.I == sysModules) = false

theorem Mid.kept {w : World} {gg : Heap} {L : Addr} {h h' : Heap} {a : Adr} {stl : Addr} {sits : Array Value} (M : Mid w gg L h a stl sits) (k : Kept [L] h h') (nt : NonTup h L) : Mid w gg L h' a stl sits := by
  have nts : ∀ s ∈ [L], NonTup h s := fCm ⟨nt, fNm _⟩
  exact ⟨M.wr.kept k, M.wd.kept k, M.nl.kept k, let ⟨t, e⟩ := M.nd; ⟨t, e.kept k⟩, let ⟨t, e⟩ := M.nc; ⟨t, e.kept k⟩, M.ds.kept k, M.dd.kept k, M.sl.kept k, fun r hr => let ⟨sg, sd, ts, us, e, x, y, z⟩ := M.sigs r hr; ⟨sg, sd, ts, us, e, x.kept k, y.kept k, z⟩, let ⟨o, e, t⟩ := M.D; ⟨o, e.kept k, tab_but t k nts⟩, let ⟨o, e, t⟩ := M.M; ⟨o, e.kept k, t⟩, let ⟨oi, kvs, e, d, t⟩ := M.ini; ⟨oi, kvs, e.kept k, d, fun r hr => let ⟨il, ins, m, e1, e2, e3⟩ := t r hr; ⟨il, ins, m, e1, e2.kept k, e3⟩⟩, let ⟨t, e⟩ := M.stl_; ⟨t, e.kept k⟩, fun r hr => let ⟨il, ins, m, e1, e2, e3⟩ := M.starts r hr; ⟨il, ins, m, e1, e2.kept k, e3⟩, M.nod, M.o_wd, M.o_dd, M.o_I, M.o_sl, M.o_stl, M.sys⟩
theorem off_inst {w : World} {gg h : Heap} {L stl x : Addr} {a : Adr} {sits : Array Value} {o : Obj} (M : Mid w gg L h a stl sits) (e : h.get? x = some o) (c1 : o.cls ≠ .type "dict") (c2 : x = a.nc → o.cls = .type "list" → False) : Off a x := by
  refine hold fun gP kont => ?_
  obtain ⟨oD, eD, tD⟩ := M.D
  obtain ⟨oM, eM, dM⟩ := M.M
  obtain ⟨t, en⟩ := M.nd
  obtain ⟨n, ec⟩ := M.nc
  refine kont ?_
  clear kont gP
  have cM : oM.cls = .type "dict" := by obtain ⟨_, _, z, _⟩ := dM; exact z.1
  intro m
  rcases List.mem_cons.mp m with q | m
  · exact ne_cls e eD.1 (fun q => c1 (q.trans tD.exact_.1)) q
  rcases List.mem_cons.mp m with q | m
  · exact ne_cls e eM.1 (fun q => c1 (q.trans cM)) q
  rcases List.mem_cons.mp m with q | m
  · exact ne_cls e en.1 (fun q => c1 q) q
  rcases List.mem_cons.mp m with q | m
  · rw [q, ec.1] at e
    exact c2 q (by injection e with e; rw [← e])
  · cases m

theorem case_go {w : World} {A : Around} {h h3 : Heap} {g : Array GenState} {d : Drawn} {tk : Nat} {os : OsState} {base gg : Heap} {outer : List Env} {mean : ExcName → Option Value} {mg mb : Str → Option Value} {L rl stl tv dv cv : Addr} {m : Str → Option Value} {Q : Flow → Shared → Prop} {E : Value → Shared → Prop}
    {a : Adr} {sits rits : Array Value} {rn : Nat} {odv : Obj}
    (XB : (Mine.hd.heap_39 w.params).In base) (TB : Top Mine.hd.view_39 (looseW Mine.hd.view_39 [Str.ofString "GateloomError"]) mean mg mb base)
    (Gd : Ground w A base outer mean mg mb gg) (hroom : A.depth < 500) (hh : A.handled = none) (hun : A.units < 600) (hE : PassesOwn (model PySem.Challenge.rw_sj0046_01.row.prog w) (A.deeper (caseEnv L)) (caseEnv L) E)
    (Md : Mid w gg L h a stl sits) (k3 : Kept [L] h h3) (ntL : NonTup h L) (nL : gg.get? L = none) (F : Fr gg L h3 m)
    (hrl : NA gg L h rl (PySem.W.listOf rits rn)) (hr8 : rits.size ≤ 8) (hrW : rl ≠ a.nc) (hrows : ∀ (i : Nat) v, rits[i]? = some v → RowAt h gg L v)
    (vtv : NA gg L h3 tv (PySem.W.listOf #[] 0)) (vdv : NA gg L h3 dv odv) (vcv : NA gg L h3 cv (PySem.W.listOf #[] 0)) (ftv : h.get? tv = none) (fdv : h.get? dv = none) (fcv : h.get? cv = none)
    (n_tc : tv ≠ cv) (n_td : tv ≠ dv) (n_dc : dv ≠ cv) (tdv : TabObj w h3 odv []) (los : (dv == sysModules) = false) (mp : MPins m a dv tv cv stl) (mr : m (Str.ofString "rows") = some (.ref rl))
    (hQ : ∀ h' tk', (∀ b o, h.get? b = some o → b ∉ outer.filterMap (·.frame) → b ∉ [L, a.D, a.M, a.nd, a.nc] → h'.get? b = some o) → (∀ b ∈ outer.filterMap (·.frame), ∀ o, h.get? b = some o → ∃ sl, h'.get? b = some { o with slots := sl }) → Q (.ret (.bool true)) { heap := h', gens := g, drawn := d, toks := tk', os := os }) :
    wpAny (model PySem.Challenge.rw_sj0046_01.row.prog w) (A.deeper (caseEnv L)) (execs ((hd.fB (hd.sN 26)).drop 8) (caseEnv L)) Q E { heap := h3, gens := g, drawn := d, toks := tk, os := os } := by
  have M3 := Md.kept k3 ntL
  refine hold fun gP kont => ?_
  obtain ⟨oD, eD, tD⟩ := M3.D
  obtain ⟨oM, eM, dM⟩ := M3.M
  obtain ⟨tc, en⟩ := M3.nd
  obtain ⟨nn, ec⟩ := M3.nc
  refine kont ?_
  clear kont gP
  have noF := ground_noF Gd
  have old : ∀ {x : Addr} {o : Obj}, h.get? x = some o → x ≠ dv ∧ x ≠ tv ∧ x ≠ cv := fun e => ⟨(ne_none fdv e).symm, (ne_none ftv e).symm, (ne_none fcv e).symm⟩
  have offW : ∀ {x : Addr} {o : Obj}, NA gg L h x o → Off a x → x ∉ W0 L a dv tv cv := fun {x o} v n mm => by
    obtain ⟨o1, o2, o3⟩ := old v.1
    rcases List.mem_cons.mp mm with q | mm
    · exact v.2.1 q
    rcases List.mem_cons.mp mm with q | mm
    · exact n (q ▸ .head _)
    rcases List.mem_cons.mp mm with q | mm
    · exact n (q ▸ .tail _ (.head _))
    rcases List.mem_cons.mp mm with q | mm
    · exact n (q ▸ .tail _ (.tail _ (.head _)))
    rcases List.mem_cons.mp mm with q | mm
    · exact n (q ▸ .tail _ (.tail _ (.tail _ (.head _))))
    rcases List.mem_cons.mp mm with q | mm
    · exact o1 q
    rcases List.mem_cons.mp mm with q | mm
    · exact o2 q
    rcases List.mem_cons.mp mm with q | mm
    · exact o3 q
    · cases mm
  have thru : ∀ {h' : Heap}, (∀ b o, h3.get? b = some o → b ∉ outer.filterMap (·.frame) → b ∉ L :: W0 L a dv tv cv → h'.get? b = some o) → ∀ {x : Addr} {o : Obj}, NA gg L h x o → Off a x → h'.get? x = some o := fun k x o v n => k _ _ (v.kept k3).1 (noF _ v.2.2) fun q => (List.mem_cons.mp q).elim v.2.1 (offW v n)
  have oLs : ∀ {x : Addr} {its : Array Value} {n : Nat}, NA gg L h x (PySem.W.listOf its n) → x ≠ a.nc → Off a x := fun v n => off_inst Md v.1 (by intro q; injection q with q; exact absurd q (by decide)) fun q _ => n q
  have oIn : ∀ {x d : Addr} {c : Nat}, NA gg L h x (instObj c d) → Off a x := fun v => off_inst Md v.1 (fun q => by injection q) fun _ q => by injection q
  have own : ∀ {x : Addr} {o : Obj}, NA gg L h x o → Own base (caseEnv L :: outer) x := fun v => NA.own v Gd.B
  have own3 : ∀ {x : Addr} {o : Obj}, NA gg L h3 x o → Own base (caseEnv L :: outer) x := fun v => NA.own v Gd.B
  have nodW : (W0 L a dv tv cv).Nodup := by
    have hnod := Md.nod
    obtain ⟨tc', en'⟩ := Md.nd
    obtain ⟨oD', eD', _⟩ := Md.D
    obtain ⟨oM', eM', _⟩ := Md.M
    obtain ⟨nn', ec'⟩ := Md.nc
    have hL : ∀ {x : Addr} {o : Obj}, NA gg L h x o → x ≠ L := fun v => v.2.1
    unfold W0
    simp only [List.nodup_cons, List.mem_cons, List.not_mem_nil, not_or, or_false, List.nodup_nil, and_true, not_false_eq_true] at hnod ⊢
    exact ⟨⟨eD'.2.1.symm, eM'.2.1.symm, en'.2.1.symm, ec'.2.1.symm, vdv.2.1.symm, vtv.2.1.symm, vcv.2.1.symm⟩, ⟨hnod.1.1, hnod.1.2.1, hnod.1.2.2, (old eD'.1).1, (old eD'.1).2.1, (old eD'.1).2.2⟩, ⟨hnod.2.1.1, hnod.2.1.2, (old eM'.1).1, (old eM'.1).2.1, (old eM'.1).2.2⟩, ⟨hnod.2.2, (old en'.1).1, (old en'.1).2.1, (old en'.1).2.2⟩, ⟨(old ec'.1).1, (old ec'.1).2.1, (old ec'.1).2.2⟩, ⟨n_td.symm, n_dc⟩, n_tc⟩
  have gear : ∀ h', (∀ b o, h3.get? b = some o → b ∉ outer.filterMap (·.frame) → b ∉ L :: W0 L a dv tv cv → h'.get? b = some o) → Gear w base (caseEnv L :: outer) h' a := fun h' k => by
    have hnod := Md.nod
    simp only [List.nodup_cons, List.mem_cons, List.not_mem_nil, not_or, or_false, List.nodup_nil, and_true, not_false_eq_true] at hnod
    have fld : ∀ {x : Addr}, Off a x → x ≠ a.D ∧ x ≠ a.M ∧ x ≠ a.nd ∧ x ≠ a.nc := fun n => ⟨fun q => n (q ▸ .head _), fun q => n (q ▸ .tail _ (.head _)), fun q => n (q ▸ .tail _ (.tail _ (.head _))), fun q => n (q ▸ .tail _ (.tail _ (.tail _ (.head _))))⟩
    have f1 := fld (oIn Md.wr)
    have f2 := fld Md.o_wd
    have f3 := fld (oIn Md.nl)
    have f4 := fld Md.o_dd
    exact
      { wr := thru k Md.wr (oIn Md.wr), wd := thru k Md.wd Md.o_wd, nl := thru k Md.nl (oIn Md.nl), ds := thru k Md.ds (oIn Md.ds), dd := thru k Md.dd Md.o_dd, sl := thru k Md.sl (oLs Md.sl Md.o_sl)
        sigs := fun r hr => let ⟨sg, sd, ts, us, e, x, y, z⟩ := Md.sigs r hr; ⟨sg, sd, ts, us, e, thru k x (oIn x), thru k y z, own x, own y⟩
        ini := let ⟨oi, kvs, e, dd, t⟩ := Md.ini; ⟨oi, kvs, thru k e Md.o_I, dd, fun r hr => let ⟨il, ins, m, e1, e2, e3, e4, e5⟩ := t r hr; ⟨il, ins, m, e1, thru k e2 (oLs e2 e5), e3, e4⟩⟩
        o_wr := own Md.wr, o_wd := own Md.wd, o_nl := own Md.nl, o_ds := own Md.ds, o_dd := own Md.dd, o_D := own3 eD, o_M := own3 eM, o_nd := own3 en, o_nc := own3 ec
        n_wr_wd := ne_cls Md.wr.1 Md.wd.1 no_ref_dict
        n_wr_nl := ne_cls Md.wr.1 Md.nl.1 (fun q => by injection q with q; exact absurd q (by decide))
        n_wr_D := f1.1, n_wr_M := f1.2.1, n_wr_nd := f1.2.2.1, n_wr_nc := f1.2.2.2
        n_wd_nl := (ne_cls Md.nl.1 Md.wd.1 no_ref_dict).symm
        n_wd_D := f2.1, n_wd_M := f2.2.1, n_wd_nd := f2.2.2.1, n_wd_nc := f2.2.2.2
        n_nl_D := f3.1, n_nl_M := f3.2.1, n_nl_nd := f3.2.2.1, n_nl_nc := f3.2.2.2
        n_D_M := hnod.1.1, n_D_nd := hnod.1.2.1, n_D_nc := hnod.1.2.2, n_M_nd := hnod.2.1.1, n_M_nc := hnod.2.1.2, n_nd_nc := hnod.2.2
        n_I_M := (fld Md.o_I).2.1, n_dd_D := f4.1, n_dd_M := f4.2.1, n_dd_nd := f4.2.2.1, sys := Md.sys }
  refine case_rest (sits := sits) XB TB Gd hroom hh hun hE ⟨gear, ?c2, ?c3, nodW, ?c5, los, ?c7, ⟨_, M3.wr.1⟩, ⟨_, M3.wd.1⟩, nL⟩ ⟨⟨⟨_, eD, tD⟩, fNm _, List.nodup_nil⟩, ⟨⟨_, vdv, tdv⟩, fNm _, List.nodup_nil⟩, ⟨⟨_, _, eM, dM, rfl⟩, ⟨_, _, vtv, .nil⟩, ⟨_, en⟩, ⟨_, _, ec, ?c11⟩, ⟨_, _, vcv, ?c12⟩⟩, ?c13⟩ F mp mr (hrl.kept k3) hr8 (offW hrl (oLs hrl hrW)) ?c16 ?c17
  case c2 => exact fun h' k => let ⟨n, e⟩ := Md.stl_; ⟨n, ⟨thru k e (oLs e Md.o_stl), e.2⟩, fun r hr => let ⟨il, ins, m, e1, e2, e3, e4, e5⟩ := Md.starts r hr; ⟨il, ins, m, e1, thru k e2 (oLs e2 e5), e3, e4⟩⟩
  case c3 => exact fCm ⟨Md.wr.2, fCm ⟨Md.wd.2, fCm ⟨Md.nl.2, fCm ⟨Md.ds.2, fCm ⟨Md.dd.2, fNm _⟩⟩⟩⟩⟩
  case c5 => exact fCm ⟨(let ⟨o, _, _, e, _⟩ := F.ns; ⟨o, e⟩), fCm ⟨⟨_, eD.1⟩, fCm ⟨⟨_, eM.1⟩, fCm ⟨⟨_, en.1⟩, fCm ⟨⟨_, ec.1⟩, fCm ⟨⟨_, vdv.1⟩, fCm ⟨⟨_, vtv.1⟩, fCm ⟨⟨_, vcv.1⟩, fNm _⟩⟩⟩⟩⟩⟩⟩⟩
  case c7 => (obtain ⟨_, _, e, _⟩ := Md.ini; exact e.2.1)
  case c11 => exact .nil
  case c12 => exact .nil
  case c13 =>
    intro b hb mm
    have all : ∀ x ∈ W0 L a dv tv cv, gg.get? x = none := fCm ⟨nL, fCm ⟨eD.2.2, fCm ⟨eM.2.2, fCm ⟨en.2.2, fCm ⟨ec.2.2, fCm ⟨vdv.2.2, fCm ⟨vtv.2.2, fCm ⟨vcv.2.2, fNm _⟩⟩⟩⟩⟩⟩⟩⟩
    exact noF _ (all b mm) hb
  case c16 => exact fun i v hv => (hrows i v hv).but (fun b o e nL _ _ _ _ _ => k3 _ _ e (nm1 nL)) fun _ e => e
  case c17 =>
    intro h' tk' k fu
    have nLf : ∀ b ∈ outer.filterMap (·.frame), b ≠ L := fun b hb q => noF _ (q ▸ nL) hb
    refine hQ h' tk' (fun b o e nf nb => k _ _ (k3 _ _ e (nm1 fun q => nb (q ▸ .head _))) nf fun mm => ?_) (fun b hb o e => fu b hb o (k3 _ _ e (nm1 (nLf b hb))))
    obtain ⟨o1, o2, o3⟩ := old e
    rcases List.mem_cons.mp mm with q | mm
    · exact nb (q ▸ .head _)
    rcases List.mem_cons.mp mm with q | mm
    · exact nb (q ▸ .tail _ (.head _))
    rcases List.mem_cons.mp mm with q | mm
    · exact nb (q ▸ .tail _ (.tail _ (.head _)))
    rcases List.mem_cons.mp mm with q | mm
    · exact nb (q ▸ .tail _ (.tail _ (.tail _ (.head _))))
    rcases List.mem_cons.mp mm with q | mm
    · exact nb (q ▸ .tail _ (.tail _ (.tail _ (.tail _ (.head _)))))
    rcases List.mem_cons.mp mm with q | mm
    · exact o1 q
    rcases List.mem_cons.mp mm with q | mm
    · exact o2 q
    rcases List.mem_cons.mp mm with q | mm
    · exact o3 q
    · cases mm

set_option maxHeartbeats 16000000 in
theorem case_mid {w : World} {A : Around} {s : Shared} {base gg : Heap} {outer : List Env} {mean : ExcName → Option Value} {mg mb : Str → Option Value} {L rl stl : Addr} {m : Str → Option Value} {Q : Flow → Shared → Prop} {E : Value → Shared → Prop}
    {a : Adr} {sits rits : Array Value} {rn : Nat}
    (XB : (Mine.hd.heap_39 w.params).In base) (TB : Top Mine.hd.view_39 (looseW Mine.hd.view_39 [Str.ofString "GateloomError"]) mean mg mb base)
    (Gd : Ground w A base outer mean mg mb gg) (hroom : A.depth < 500) (hh : A.handled = none) (hun : A.units < 600) (hE : PassesOwn (model PySem.Challenge.rw_sj0046_01.row.prog w) (A.deeper (caseEnv L)) (caseEnv L) E)
    (Md : Mid w gg L s.heap a stl sits) (nL : gg.get? L = none) (F : Fr gg L s.heap m) (mp : SP m a.wr a.nl a.ds rl stl)
    (hrl : NA gg L s.heap rl (PySem.W.listOf rits rn)) (hr8 : rits.size ≤ 8) (hrW : rl ≠ a.nc) (hrows : ∀ (i : Nat) v, rits[i]? = some v → RowAt s.heap gg L v)
    (hQ : ∀ h' tk', (∀ b o, s.heap.get? b = some o → b ∉ outer.filterMap (·.frame) → b ∉ [L, a.D, a.M, a.nd, a.nc] → h'.get? b = some o) → (∀ b ∈ outer.filterMap (·.frame), ∀ o, s.heap.get? b = some o → ∃ sl, h'.get? b = some { o with slots := sl }) → Q (.ret (.bool true)) { s with heap := h', toks := tk' }) :
    wpAny (model PySem.Challenge.rw_sj0046_01.row.prog w) (A.deeper (caseEnv L)) (execs ((hd.fB (hd.sN 26)).drop 5) (caseEnv L)) Q E s := by
  refine hold fun gP kont => ?_
  obtain ⟨h, g, d, tt, os⟩ := s
  refine kont ?_
  clear kont gP
  unfold caseEnv
  have B' := Gd.B
  have X' := Gd.X
  have T' := Gd.T
  have hF := Hid.mk F
  have F2 := pin (x := Str.ofString "design") (pin (x := Str.ofString "netlist") (pin (x := Str.ofString "wires") (pin (x := Str.ofString "starts") (pin (x := Str.ofString "rows") (F) mp.rows) ((if_neg (by decide)).trans mp.starts)) ((if_neg (by decide)).trans ((if_neg (by decide)).trans mp.wires))) ((if_neg (by decide)).trans ((if_neg (by decide)).trans ((if_neg (by decide)).trans mp.netlist)))) ((if_neg (by decide)).trans ((if_neg (by decide)).trans ((if_neg (by decide)).trans ((if_neg (by decide)).trans mp.design))))
  obtain ⟨rest, N, H⟩ := see F2 [] (fNm _)
  try dsimp only [List.nil_append, List.cons_append] at N
  try dsimp only
  walk_at "q0"
  repeat ((fail_if_success (with_reducible show wpAny _ _ (execs (Stmt.For _ _ _ _ _ :: _) _) _ _ _)); (fail_if_success (with_reducible show wpAny _ _ (subscriptTail _ _ (Value.ref _) (Value.int (Nat.cast _) _)) _ _ _)); (fail_if_success (with_reducible show wpAny _ _ (compareOp CmpOp.In _ (Value.ref _)) _ _ _)); (fail_if_success (with_reducible show wpAny _ _ (call (Value.ref _) _) _ _ _)); walk_at "q2")
  rename Fr _ _ _ _ => F3
  rename News _ _ _ _ => N3
  have k3 : Kept [L] h _ := seen H F3 (fun q m => (N3 q (by repeat (first | exact m | refine List.Mem.tail _ ?_))).1)
  have vtv := NA.of N3 (.head _)
  have vdv := NA.of N3 (.tail _ (.head _))
  have vcv := NA.of N3 (.tail _ (.tail _ (.head _)))
  have lv2 := (by assumption : _ ∧ _ ∧ AllLt _ rest)
  have lv1 := (by assumption : _ ∧ AllLt _ rest)
  have lv0 := (by assumption : ∀ p ∈ rest, @LT.lt Nat _ p.1 _)
  have ftv : h.get? _ = none := fresh_mut H List.not_mem_nil vtv lv2.2.2
  have fdv : h.get? _ = none := fresh_mut H List.not_mem_nil vdv lv1.2
  have fcv : h.get? _ = none := fresh_mut H List.not_mem_nil vcv (allLt_of lv0)
  have n_tc := (Nat.ne_of_lt lv2.2.1).symm
  have n_td := (Nat.ne_of_lt lv2.1).symm
  have n_dc := (Nat.ne_of_lt lv1.1).symm
  have los := (by assumption : (_ == sysModules) = false)
  clear N3
  exact case_go XB TB Gd hroom hh hun hE Md k3 (.fr hF.get) nL F3 hrl hr8 hrW hrows vtv vdv vcv ftv fdv fcv n_tc n_td n_dc (tab_empty (by assumption)) los ⟨rfl, rfl, rfl, rfl, rfl, rfl, rfl⟩ rfl hQ
theorem loop_rangeE {prog : Program} {w : World} {A : Around} {E : Value → Shared → Prop} {s : Shared} {env : Env} {Q : Flow → Shared → Prop} {body : List Stmt} {r : Addr} {n : Nat} {t u v : Tok} {x : Str} {px : Pos} (hh : A.handled = none) (hr : IsRange s.heap r 0 n 1 t u v) (hn : n < 1000) (J : Addr → Nat → Heap → Prop) (h0 : ∀ o, J s.heap.objs.size 0 (s.heap.push o))
    (step : ∀ (i : Nat) t h h₁ tk₁, i < n → J s.heap.objs.size i h → (∃ o, h₁.get? s.heap.objs.size = some o) → Kept [s.heap.objs.size] h h₁ → Turn prog w A env (.Name x px) body Q E [s.heap.objs.size] s (J s.heap.objs.size (i + 1)) (.int i t) h₁ tk₁)
    (done : ∀ h h₁ tk₁, J s.heap.objs.size n h → Kept [s.heap.objs.size] h h₁ → Q .next { s with heap := h₁, toks := tk₁ }) :
    wpAny (model prog w) A (pyIter (.ref r)) (fun it s₂ => LoopOwn prog w A env (.Name x px) body Q E it s₂) E s := by
  have hz : Builtin.Range.rangeSize 0 n 1 = (n : Int) := by rw [rangeSize_nat]; lia
  refine wpAny_pyIter_range hr (small_one (by lia) (by lia) (by lia) (by lia)) ⟨_, _, _, _, _, _, J s.heap.objs.size, rfl, Walks.range hh s.heap.objs.size 0 1 n, ?_, h0 _, fun i v s E' Q' st hq => go_name v s E' Q' hq, fun i v h h₁ tk₁ hi hP hJ hst k => ?_, fun h h₁ tk₁ hJ k => done h h₁ tk₁ hJ k⟩
  · rw [hz]
    show Heap.get? _ _ = _
    rw [Heap.get?_push_size _ rfl]
    simp [rawInt]
  · obtain ⟨t, rfl⟩ := hP
    have e : (0 : Int) + (i : Int) * 1 = i := by lia
    rw [e]
    exact Turn.run (s := s) (fp := [s.heap.objs.size]) (fun _ _ => rfl) (fun h' kk => kk _ (.head _) _ hst) (step i t h h₁ tk₁ hi hJ ⟨_, hst⟩ k)
structure Ini (w : World) (gg : Heap) (L : Addr) (hW : Heap) (I it : Addr) (st : Nat → List Int) (i : Nat) (h : Heap) : Prop where
  kept : Kept [L, I] hW h
  ex : ∃ oi kvs, NA gg L h I oi ∧ DObj (IK w) oi kvs ∧ kvs.length ≤ i ∧ ∀ r : Nat, r < i → ∃ il ins n, valueAt kvs (r : Int) = some (.ref il) ∧ NA gg L h il (PySem.W.listOf ins n) ∧ PyProof.Rows.IntsAre ins.toList (st r) ∧ (st r).length = widthAt r ∧ hW.get? il = none ∧ il ≠ it
theorem valueAt_self {K : Type} [DecidableEq K] {k : K} {v : Value} : ∀ {kvs : List (K × Value)}, valueAt (stored kvs k v) k = some v := by
  intro kvs
  unfold stored
  by_cases hc : (kvs.any fun kv => decide (kv.1 = k)) = true
  · rw [if_pos hc]
    induction kvs with
    | nil => cases hc
    | cons p r ih =>
      rw [List.map_cons]
      unfold valueAt
      by_cases e : p.1 = k
      · simp [e]
      · rw [if_neg e, List.find?_cons, decide_eq_false e]
        rw [List.any_cons, decide_eq_false e, Bool.false_or] at hc
        exact ih hc
  · rw [if_neg hc]
    unfold valueAt
    have : kvs.find? (fun kv => decide (kv.1 = k)) = none := List.find?_eq_none.mpr fun x hx h => hc (List.any_eq_true.mpr ⟨x, hx, h⟩)
    rw [List.find?_append, this]; simp
theorem valueAt_ne {K : Type} [DecidableEq K] {k k' : K} {v : Value} (n : k' ≠ k) : ∀ {kvs : List (K × Value)}, valueAt (stored kvs k v) k' = valueAt kvs k' := by
  intro kvs
  have n' : ¬ k = k' := fun q => n q.symm
  unfold stored
  by_cases hc : (kvs.any fun kv => decide (kv.1 = k)) = true
  · rw [if_pos hc]
    clear hc
    induction kvs with
    | nil => rfl
    | cons p r ih =>
      unfold valueAt at ih ⊢
      rw [List.map_cons, List.find?_cons, List.find?_cons]
      by_cases e : p.1 = k
      · rw [if_pos e]
        have e2 : ¬ p.1 = k' := fun q => n (q.symm.trans e)
        rw [decide_eq_false e2]; exact ih
      · rw [if_neg e]
        by_cases e2 : p.1 = k'
        · rw [decide_eq_true e2]
        · rw [decide_eq_false e2]; exact ih
  · rw [if_neg hc]
    unfold valueAt
    rw [List.find?_append]
    have : [(k, v)].find? (fun kv => decide (kv.1 = k')) = none := by simp [n']
    rw [this, Option.or_none]
theorem hilL {g h : Heap} {L : Addr} {m : Str → Option Value} (F : Fr g L h m) : L ≠ h.objs.size := by
  refine hold fun gP kont => ?_
  obtain ⟨o, _, _, e, _⟩ := F.ns
  refine kont ?_
  clear kont gP
  exact Nat.ne_of_lt (Heap.lt_size e)
theorem iniW {g hW hx hc : Heap} {L I : Addr} {oi : Obj} {m : Str → Option Value} (k4 : Kept [L, I] hW hx) (F : Fr g L hc m) (k6 : Kept [L] hx hc) (vI : NA g L hx I oi) : hW.get? hc.objs.size = none := by
  cases q : hW.get? hc.objs.size with
  | none => rfl
  | some o =>
    have n1 : hc.objs.size ≠ L := (hilL F).symm
    have n2 : hc.objs.size ≠ I := (Nat.ne_of_lt (Heap.lt_size (k6 _ _ vI.1 (nm1 vI.2.1)))).symm
    exact absurd (Heap.lt_size (k6 _ _ (k4 _ _ q (nm2 n1 n2)) (nm1 n1))) (Nat.lt_irrefl _)
theorem stored_len {kvs : List (Int × Value)} {k : Int} {v : Value} : (stored kvs k v).length ≤ kvs.length + 1 := by
  unfold stored
  split
  · rw [List.length_map]; exact Nat.le_succ _
  · rw [List.length_append]; exact Nat.le_refl _

set_option maxHeartbeats 16000000 in
theorem case_spec {w : World} {A : Around} {s : Shared} {base : Heap} {outer : List Env} {mean : ExcName → Option Value} {mg mb : Str → Option Value} {R : Result → Shared → Prop}
    {rl stl : Addr} {rits sits : Array Value} {rn sn : Nat} {st : Nat → List Int}
    (B : Below A base outer s.heap) (XB : (Mine.hd.heap_39 w.params).In base) (TB : Top Mine.hd.view_39 (looseW Mine.hd.view_39 [Str.ofString "GateloomError"]) mean mg mb base) (hroom : A.depth < 500) (hh : A.handled = none) (hun : A.units < 600)
    (hrl : s.heap.get? rl = some (PySem.W.listOf rits rn)) (orl : Own base outer rl) (hr8 : rits.size ≤ 8) (hrows : ∀ g L, (∀ b, Own base outer b → g.get? b = none) → (∀ b o, s.heap.get? b = some o → b ≠ L) → ∀ (i : Nat) v, rits[i]? = some v → RowAt s.heap g L v)
    (hstl : s.heap.get? stl = some (PySem.W.listOf sits sn)) (ostl : Own base outer stl) (hst : ∀ r : Nat, r < 5 → ∃ il ins m, sits[r]? = some (.ref il) ∧ s.heap.get? il = some (PySem.W.listOf ins m) ∧ PyProof.Rows.IntsAre ins.toList (st r) ∧ (st r).length = widthAt r ∧ Own base outer il)
    (hR : ∀ h' tk', (∀ b o, s.heap.get? b = some o → b ∉ outer.filterMap (·.frame) → h'.get? b = some o) → (∀ b ∈ outer.filterMap (·.frame), ∀ o, s.heap.get? b = some o → ∃ sl, h'.get? b = some { o with slots := sl }) → R (.ok (.ret (.bool true))) { s with heap := h', toks := tk' }) :
    codeAny (model PySem.Challenge.rw_sj0046_01.row.prog w) A (.call (.ref 383) ⟨[.ref rl, .ref stl], []⟩) R s := by
  refine hold fun gP kont => ?_
  obtain ⟨h, g, d, tt, os⟩ := s
  refine kont ?_
  clear kont gP
  refine' enter_all (binds := [(Str.ofString "rows", .ref rl), (Str.ofString "starts", .ref stl)]) B XB TB ?k6 ?k7 ?k8 ?k9 ?kB ?_ ?c2 ?c3 ?c4 ?c5
  case k8 => exact Nat.lt_of_lt_of_le hroom (by decide)
  tb_start
  intro gg L h₁ hg1 hg2 hL k1 F B' X' T'
  try dsimp only
  have hLn : ∀ a ∈ [L], h.get? a = none := fun a m => by rw [List.mem_singleton.mp m, hL]; exact Heap.get?_none_of_le (Nat.le_refl _)
  have neL : ∀ {a : Addr} {o : Obj}, h.get? a = some o → a ≠ L := fun e q => by rw [hLn _ (List.mem_singleton.mpr q)] at e; cases e
  have ggn : ∀ {b : Addr}, h.get? b = none → gg.get? b = none := fun {b} n => by
    cases q : gg.get? b with
    | none => rfl
    | some o => rw [hg1 _ _ q] at n; cases n
  obtain ⟨rest, N, H⟩ := see F [] (fNm _)
  try dsimp only [List.nil_append, List.cons_append] at N
  k_steps
  rename Fr _ _ _ _ => F2
  rename News _ _ _ _ => N2
  have K2 : Kept [] h _ := k1.thru (seen H F2 (fun q m => (N2 q (by repeat (first | exact m | refine List.Mem.tail _ ?_))).1)) hLn
  walk_at "q0"
  refine' wpAny_call (design_spec (B'.push F2) XB TB ?z1 ?_)
  case z1 => exact roomD hroom (by decide)
  intro hA tkA ds kA DA
  have KA : Kept [] h hA := K2.thru kA (fNm _)
  have FA := led_kept kA F2 (fNm _)
  refine hold fun gP kont => ?_
  obtain ⟨dd, sl, td, vd, its, dn, eds, edd, esl, nds, ndd, nsl, sigs⟩ := DA.ex
  have vds : NA gg L hA ds _ := NA.ofNew F2 nds eds
  have vdd : NA gg L hA dd _ := NA.ofNew F2 ndd edd
  have vsl : NA gg L hA sl _ := NA.ofNew F2 nsl esl
  have vsg : ∀ r : Nat, r < 5 → ∃ sg sd ts us, its[r]? = some (.ref sg) ∧ NA gg L hA sg (instObj 176 sd) ∧ NA gg L hA sd (sdAt r w.params ts us) := fun r hr => by
    obtain ⟨sg, sd, ts, us, a, b, c, d, e⟩ := sigs r hr
    exact ⟨sg, sd, ts, us, a, NA.ofNew F2 d b, NA.ofNew F2 e c⟩
  have nA : ∀ {x : Addr}, hA.get? x = none → h.get? x = none := fun n => KA.none_ n
  clear F2 N2
  obtain ⟨rest, N, H⟩ := see FA [] (fNm _)
  refine kont ?_
  clear kont gP
  try dsimp only [List.nil_append, List.cons_append] at N
  try dsimp only
  k_steps
  -- Netlist
  walk_at "q0"
  refine' call_cls ?k1 ?k2 ?k3 ?k4 ?k5 ?k6 ?_
  case k1 => k_asm
  case k2 => k_asm
  case k3 => k_asm
  case k4 => k_is
  case k5 => k_is
  case k6 => k_is
  k_whole
  intro nl nd hB FB NB l1 l2
  have kB : Kept [L] hA hB := seen H FB (fun q m => (NB q (.tail _ (.tail _ m))).1)
  have vnl := NA.of NB (.head _)
  have vnd := NA.of NB (.tail _ (.head _))
  have nndA : hA.get? nd = none := fresh_mut H List.not_mem_nil vnd (allLt_of l1)
  have nnlA : hA.get? nl = none := fresh_mut H List.not_mem_nil vnl (allLt_of fun q m => Nat.lt_trans (l1 q m) l2)
  have ne1 : nl ≠ nd := ne_cls vnl.1 vnd.1 no_ref_dict
  refine' ninit_spec (below_under (B'.push FB) rfl) XB TB ?z1 vnl.1 vnd.1 ?z2 ?z3 ne1 ?_
  case z1 => (simp only [depth_under_make, depth_deeper]; lia)
  case z2 => exact vnl.own B'
  case z3 => exact vnd.own B'
  intro hC tkC tn vn tc nc kC endC nncB encC
  refine ⟨rfl, ?_⟩
  try dsimp only
  have FC := led_kept kC FB (fCm ⟨⟨vnd.2.2, vnd.2.1⟩, fNm _⟩)
  have vnlC := vnl.but kC (nm1 ne1)
  have vndC : NA gg L hC nd _ := ⟨endC, vnd.2⟩
  have vncC : NA gg L hC nc _ := NA.ofNew FB nncB encC
  clear FB NB
  obtain ⟨rest, N, H⟩ := see FC [(nl, _), (nd, _)] (fCm ⟨vnlC, fCm ⟨vndC, fNm _⟩⟩)
  try dsimp only [List.nil_append, List.cons_append] at N
  k_steps
  rename Fr _ _ _ _ => FD
  rename News _ _ _ _ => ND
  have kD : Kept [L] hC _ := seen H FD (fun q m => (ND q (by repeat (first | exact m | refine List.Mem.tail _ ?_))).1)
  walk_at "q0"
  refine' wpAny_call (nets_spec (B'.push FD) XB TB ?z1 ?z0 (vnlC.kept kD).1 (vndC.kept kD).1 ((vnlC.kept kD).own B') ((vndC.kept kD).own B') ne1 ?_)
  case z1 => exact roomD hroom (by decide)
  case z0 => exact hh
  intro hE tkE tcE xE kE endE
  have FE := led_kept kE FD (fCm ⟨⟨vnd.2.2, vnd.2.1⟩, fNm _⟩)
  have ncnd : nc ≠ nd := ne_none nncB vnd.1
  have vnlE := (vnlC.kept kD).but kE (nm1 ne1)
  have vndE : NA gg L hE nd _ := ⟨endE, vnd.2⟩
  have vncE := (vncC.kept kD).but kE (nm1 ncnd)
  have hEn := Hid.mk FE
  clear FD ND
  obtain ⟨rest, N, H⟩ := see FE [] (fNm _)
  try dsimp only [List.nil_append, List.cons_append] at N
  try dsimp only
  k_steps
  -- Wires
  walk_at "q0"
  refine' call_cls ?k1 ?k2 ?k3 ?k4 ?k5 ?k6 ?_
  case k1 => k_asm
  case k2 => k_asm
  case k3 => k_asm
  case k4 => k_is
  case k5 => k_is
  case k6 => k_is
  k_whole
  intro wr wd hG FG NG l1 l2
  have kG : Kept [L] hE hG := seen H FG (fun q m => (NG q (.tail _ (.tail _ m))).1)
  have vwr := NA.of NG (.head _)
  have vwd := NA.of NG (.tail _ (.head _))
  have nwdE : hE.get? wd = none := fresh_mut H List.not_mem_nil vwd (allLt_of l1)
  have nwrE : hE.get? wr = none := fresh_mut H List.not_mem_nil vwr (allLt_of fun q m => Nat.lt_trans (l1 q m) l2)
  have ne2 : wr ≠ wd := ne_cls vwr.1 vwd.1 no_ref_dict
  refine' winit_spec (below_under (B'.push FG) rfl) XB TB ?z1 vwr.1 vwd.1 ?z2 ?z3 ne2 ?_
  case z1 => (simp only [depth_under_make, depth_deeper]; lia)
  case z2 => exact vwr.own B'
  case z3 => exact vwd.own B'
  intro hW tkW tw vw D I M oD oI oM kW ewdW nD0 eD tD nI0 eI dI nM0 eM dM dist sys
  refine ⟨rfl, ?_⟩
  try dsimp only
  have FW := led_kept kW FG (fCm ⟨⟨vwd.2.2, vwd.2.1⟩, fNm _⟩)
  have hFG := Hid.mk FG
  have vwrW := vwr.but kW (nm1 ne2)
  have vwdW : NA gg L hW wd _ := ⟨ewdW, vwd.2⟩
  have vDW : NA gg L hW D _ := NA.ofNew FG nD0 eD
  have vIW : NA gg L hW I _ := NA.ofNew FG nI0 eI
  have vMW : NA gg L hW M _ := NA.ofNew FG nM0 eM
  clear FG NG
  obtain ⟨rest, N, H⟩ := see FW [] (fNm _)
  try dsimp only [List.nil_append, List.cons_append] at N
  walk_at "q0"
  repeat ((fail_if_success (with_reducible show wpAny _ _ (execs (Stmt.For _ _ _ _ _ :: _) _) _ _ _)); (fail_if_success (with_reducible show wpAny _ _ (subscriptTail _ _ (Value.ref _) (Value.int (Nat.cast _) _)) _ _ _)); (fail_if_success (with_reducible show wpAny _ _ (compareOp CmpOp.In _ (Value.ref _)) _ _ _)); (fail_if_success (with_reducible show wpAny _ _ (call (Value.ref _) _) _ _ _)); walk_at "q2")
  rename Fr _ _ _ _ => FX
  rename News _ _ _ _ => NX
  have kX : Kept [L] hW _ := seen H FX (fun q m => (NX q (by repeat (first | exact m | refine List.Mem.tail _ ?_))).1)
  have KB : Kept [] h hB := KA.thru kB hLn
  have KC : Kept [] h hC := KB.thru kC (fCm ⟨nA nndA, fNm _⟩)
  have KE : Kept [] h hE := (KC.thru kD hLn).thru kE (fCm ⟨nA nndA, fNm _⟩)
  have KG : Kept [] h hG := KE.thru kG hLn
  have KW : Kept [] h hW := KG.thru kW (fCm ⟨KE.none_ nwdE, fNm _⟩)
  have nIh : ∀ a ∈ [L, I], h.get? a = none := fCm ⟨hLn _ (.head _), fCm ⟨KG.none_ nI0, fNm _⟩⟩
  have nLW : ∀ {b : Addr} {o : Obj}, NA gg L hW b o → b ≠ L := fun x => x.2.1
  walk_at "q0"
  repeat ((fail_if_success (with_reducible show wpAny _ _ (exec (Stmt.For _ _ _ _ _) _) _ _ _)); (fail_if_success (with_reducible show wpAny _ _ (subscriptTail _ _ (Value.ref _) (Value.int (Nat.cast _) _)) _ _ _)); (fail_if_success (with_reducible show wpAny _ _ (compareOp CmpOp.In _ (Value.ref _)) _ _ _)); (fail_if_success (with_reducible show wpAny _ _ (call (Value.ref _) _) _ _ _)); walk_at "q2")
  refine' For_own ?_ ?hs ?hE
  case hs => intro _; rfl
  case hE => passes_own
  k_steps
  have hrg := (by assumption : IsRange _ _ _ _ _ _ _ _)
  rename Fr _ _ _ _ => FY
  rename News _ _ _ _ => NY
  have kY : Kept [L] hW _ := seen H FY (fun q m => (NY q (by repeat (first | exact m | refine List.Mem.tail _ ?_))).1)
  have hFY := Hid.mk FY
  refine' loop_rangeE (n := 5) (show (A.deeper _).handled = none from hh) hrg (by decide) (fun it i hx => ∃ m, Fr gg L hx m ∧ SP m wr nl ds rl stl ∧ Ini w gg L hW I it st i hx) ?h0 ?step ?done
  case h0 => exact fun o => ⟨_, FY.push o, ⟨rfl, rfl, rfl, rfl, rfl⟩, ⟨fun b o' e n => Heap.get?_push_of_some _ (kY b o' e (nm1 fun q => n (q ▸ .head _))), ⟨_, _, ⟨Heap.get?_push_of_some _ (kY _ _ vIW.1 (nm1 vIW.2.1)), vIW.2⟩, dI, Nat.le_refl _, fun r hr => absurd hr (Nat.not_lt_zero _)⟩⟩⟩
  case done =>
    intro hx hx1 tkx hPat3 kI2
    obtain ⟨m, Fx, mx, Ix⟩ := hPat3
    have F4 := turn_fr hFY.get Fx kI2
    have hIL := turn_ne hFY.get
    have oldI : ∀ {b : Addr} {o : Obj}, hW.get? b = some o → b ≠ L → b ≠ (Heap.objs _).size := fun e n => Nat.ne_of_lt (Heap.lt_size (kY _ _ e (nm1 n)))
    have k4 : Kept [L, I] hW hx1 := fun b o e n => kI2 b o (Ix.kept b o e n) (nm1 (oldI e fun q => n (q ▸ .head _)))
    refine hold fun gP kont => ?_
    obtain ⟨oi, kvs, vI, dIx, hkl, hils⟩ := Ix.ex
    refine kont ?_
    clear kont gP
    have vI4 := vI.but kI2 (nm1 (oldI vIW.1 vIW.2.1))
    have Kx : Kept [] h hx1 := KW.thru k4 nIh
    have vncW : NA gg L hW nc _ := (vncE.kept kG).but kW (nm1 (ne_none nwdE vncE.1).symm)
    have vndG := vndE.kept kG
    have vncG := vncE.kept kG
    have toX : ∀ {b : Addr} {o : Obj}, NA gg L hG b o → b ≠ wd → NA gg L hx1 b o := fun v n => (v.but kW (nm1 n)).but k4 (nm2 v.2.1 (ne_none nI0 v.1).symm)
    have toX2 : ∀ {b : Addr} {o : Obj}, NA gg L hE b o → NA gg L hx1 b o := fun v => toX (v.kept kG) (ne_none nwdE v.1).symm
    have toE : ∀ {b : Addr} {o : Obj}, NA gg L hA b o → NA gg L hE b o := fun v => (((v.kept kB).but kC (nm1 (ne_none nndA v.1).symm)).kept kD).but kE (nm1 (ne_none nndA v.1).symm)
    have offE : ∀ {b : Addr} {o : Obj}, NA gg L hE b o → b ≠ D ∧ b ≠ M := fun v => ⟨(ne_none nD0 (v.kept kG).1).symm, (ne_none nM0 (v.kept kG).1).symm⟩
    have in4 : ∀ {b : Addr}, b ≠ D ∧ b ≠ M → b ≠ nd → b ≠ nc → b ∉ [D, M, nd, nc] := fun n1 n2 n3 m => by
      rcases List.mem_cons.mp m with q | m
      · exact n1.1 q
      rcases List.mem_cons.mp m with q | m
      · exact n1.2 q
      rcases List.mem_cons.mp m with q | m
      · exact n2 q
      rcases List.mem_cons.mp m with q | m
      · exact n3 q
      · cases m
    have offA : ∀ {b : Addr} {o : Obj}, NA gg L hA b o → b ∉ [D, M, nd, nc] := fun v => in4 (offE (toE v)) (ne_none nndA v.1).symm (ne_none nncB (v.kept kB).1).symm
    have oldc : ∀ {b : Addr} {o : Obj}, h.get? b = some o → b ≠ nc := fun e => (ne_none nncB (KB.get e)).symm
    have nLL : gg.get? L = none := ggn (hLn _ (.head _))
    have hnod : [D, M, nd, nc].Nodup := by
      simp only [List.nodup_cons, List.mem_cons, List.not_mem_nil, not_or, or_false, List.nodup_nil, and_true, not_false_eq_true]
      exact ⟨⟨dist.2.1, ne_none nD0 vndG.1, ne_none nD0 vncG.1⟩, ⟨ne_none nM0 vndG.1, ne_none nM0 vncG.1⟩, ncnd.symm⟩
    have Md : Mid w gg L hx1 ⟨wr, wd, D, I, M, nl, nd, nc, ds, dd, sl, tw, tn, td, vw, vn, vd, its, dn, st⟩ stl sits :=
      { wr := (vwrW.but k4 (nm2 vwrW.2.1 (ne_none nI0 vwr.1).symm)), wd := vwdW.but k4 (nm2 vwdW.2.1 (ne_none nI0 vwd.1).symm), nl := toX2 vnlE, nd := ⟨_, toX2 vndE⟩, nc := ⟨_, toX2 vncE⟩
        ds := toX2 (toE vds), dd := toX2 (toE vdd), sl := toX2 (toE vsl)
        sigs := fun r hr => let ⟨sg, sd, ts, us, a, b, c⟩ := vsg r hr; ⟨sg, sd, ts, us, a, toX2 (toE b), toX2 (toE c), offA c⟩
        D := ⟨_, vDW.but k4 (nm2 vDW.2.1 dist.1), ⟨tD.exact_, tD.data, fNm _, List.nodup_nil⟩⟩
        M := ⟨_, vMW.but k4 (nm2 vMW.2.1 dist.2.2.symm), dM⟩
        ini := ⟨oi, kvs, vI4, dIx, fun r' hr' => let ⟨il, ins, n, a, b, c, d, e, f⟩ := hils r' hr'; ⟨il, ins, n, a, b.but kI2 (nm1 f), c, d, ne_none e vncW.1⟩⟩
        stl_ := ⟨_, Kx.get hstl, neL hstl, hg2 _ ostl⟩
        starts := fun r hr => let ⟨il, ins, m, a, b, c, d, e⟩ := hst r hr; ⟨il, ins, m, a, ⟨Kx.get b, neL b, hg2 _ e⟩, c, d, oldc b⟩
        nod := hnod
        o_wd := in4 ⟨(ne_none nD0 vwd.1).symm, (ne_none nM0 vwd.1).symm⟩ (ne_none nwdE vndE.1) (ne_none nwdE vncE.1)
        o_dd := offA vdd
        o_I := in4 ⟨dist.1.symm, dist.2.2⟩ (ne_none nI0 vndG.1) (ne_none nI0 vncG.1)
        o_sl := fun q => offA vsl (by rw [show sl = nc from q]; exact .tail _ (.tail _ (.tail _ (.head _))))
        o_stl := oldc hstl
        sys := ⟨sys.1, sys.2.1, sys.2.2⟩ }
    clear FY NY
    try dsimp only
    refine' case_mid (a := ⟨wr, wd, D, I, M, nl, nd, nc, ds, dd, sl, tw, tn, td, vw, vn, vd, its, dn, st⟩) (rits := rits) (rn := rn) (sits := sits) (rl := rl) XB TB ⟨B', X', T'⟩ hroom hh hun ?hE Md nLL F4 mx ⟨Kx.get hrl, neL hrl, hg2 _ orl⟩ hr8 (oldc hrl) (fun i v hv => (hrows gg L hg2 (fun b o e => neL e) i v hv).but (fun b o e _ _ _ _ _ _ => Kx.get e) (fun _ e => e)) ?hQ
    case hE => passes_own
    case hQ =>
      intro h' tk' k fu
      refine hR h' tk' (fun b o e nf => k b o (Kx.get e) nf fun m => ?_) (fun b hb o e => fu b hb o (Kx.get e))
      have eG := KG.get e
      rcases List.mem_cons.mp m with q | m
      · exact neL e q
      rcases List.mem_cons.mp m with q | m
      · exact (ne_none nD0 eG).symm q
      rcases List.mem_cons.mp m with q | m
      · exact (ne_none nM0 eG).symm q
      rcases List.mem_cons.mp m with q | m
      · exact (ne_none nndA (KA.get e)).symm q
      rcases List.mem_cons.mp m with q | m
      · exact oldc e q
      · cases m
  case step =>
    intro r tr hx hx1 tkx hr5 hPat6 hPat7 kI2
    obtain ⟨m, Fx, mx, Ix⟩ := hPat6
    obtain ⟨ito, hito⟩ := hPat7
    have F4 := turn_fr hFY.get Fx kI2
    have hIL := turn_ne hFY.get
    have oldI : ∀ {b : Addr} {o : Obj}, hW.get? b = some o → b ≠ L → b ≠ (Heap.objs _).size := fun e n => Nat.ne_of_lt (Heap.lt_size (kY _ _ e (nm1 n)))
    have k4 : Kept [L, I] hW hx1 := fun b o e n => kI2 b o (Ix.kept b o e n) (nm1 (oldI e fun q => n (q ▸ .head _)))
    refine hold fun gP kont => ?_
    obtain ⟨oi, kvs, vI, dIx, hkl, hils⟩ := Ix.ex
    refine kont ?_
    clear kont gP
    have vI4 := vI.but kI2 (nm1 (oldI vIW.1 vIW.2.1))
    have hils4 : ∀ r' : Nat, r' < r → ∃ il ins n, valueAt kvs (r' : Int) = some (.ref il) ∧ NA gg L hx1 il (PySem.W.listOf ins n) ∧ PyProof.Rows.IntsAre ins.toList (st r') ∧ (st r').length = widthAt r' ∧ hW.get? il = none ∧ il ≠ _ := fun r' hr' => by
      obtain ⟨il, ins, n, a, b, c, d, e, f⟩ := hils r' hr'
      exact ⟨il, ins, n, a, b.but kI2 (nm1 f), c, d, e, f⟩
    have F5 := pin (x := Str.ofString "wires") (pin (x := Str.ofString "starts") (pin (x := Str.ofString "rows") (pin (x := Str.ofString "design") (pin (x := Str.ofString "netlist") (F4) mx.netlist) ((if_neg (by decide)).trans mx.design)) ((if_neg (by decide)).trans ((if_neg (by decide)).trans mx.rows))) ((if_neg (by decide)).trans ((if_neg (by decide)).trans ((if_neg (by decide)).trans mx.starts)))) ((if_neg (by decide)).trans ((if_neg (by decide)).trans ((if_neg (by decide)).trans ((if_neg (by decide)).trans mx.wires))))
    unfold Turn
    clear Fx F4 FY NY
    have vwr4 := vwrW.but k4 (nm2 vwrW.2.1 (ne_cls vwrW.1 vIW.1 (fun q => by obtain ⟨_, _, z, _⟩ := dI; exact no_ref_dict (q.trans z.1))))
    have vwd4 := vwdW.but k4 (nm2 vwdW.2.1 (ne_none nI0 vwd.1).symm)
    obtain ⟨rest, N, H⟩ := see F5 [(wr, _), (wd, _)] (fCm ⟨vwr4, fCm ⟨vwd4, fNm _⟩⟩)
    try dsimp only [List.nil_append, List.cons_append] at N
    k_steps
    rename Fr _ _ _ _ => F6
    rename News _ _ _ _ => N6
    have k6 : Kept [L] hx1 _ := seen H F6 (fun q m => (N6 q (by repeat (first | exact m | refine List.Mem.tail _ ?_))).1)
    have K6 : Kept [] h _ := (KW.thru k4 nIh).thru k6 hLn
    refine hold fun gP kont => ?_
    obtain ⟨il0, ins0, m0, hix, hil0, hii, hlen, _⟩ := hst r hr5
    refine kont ?_
    clear kont gP
    have hlS := listAt (K6.get hstl)
    walk_at "q0"
    refine' sub_any ?ht slot_list_getitem.lookup (wpAny_getItem_list hlS (Int.natCast_nonneg _) (by first | exact i63 (by with_reducible assumption) (Nat.le_of_ble_eq_true rfl) | exact i63 (Nat.lt_of_lt_of_le (by with_reducible assumption) (widthAt_le _)) (Nat.le_of_ble_eq_true rfl) | lia) (idx_nat hix) ?_) (by with_unfolding_all rfl)
    case ht => exact hlS.typeIs
    try dsimp only
    k_steps
    have hsz0 : ins0.size ≤ sizeLine := by
      have z : ins0.toList.length = (st r).length := PyProof.Rows.IntsAre.length hii
      rw [Array.length_toList, hlen] at z
      have := widthAt_le r
      rw [sizeLine_eq]; lia
    refine' call_list_seq il0 (o := PySem.W.listOf ins0 m0) (.inl rfl) ?hoL rfl rfl ?_ hsz0
    case hoL => exact K6.get hil0
    intro h7 c7 k7 e7
    have k7q : Kept [] _ h7 := fun b o e _ => k7 b o e
    have F7 := led_kept k7q F6 (fNm _)
    have vil := NA.ofNew F6 (Heap.get?_none_of_le (Nat.le_refl _)) e7
    have hilt : ∀ {b : Addr} {o : Obj}, hx1.get? b = some o → b ≠ L → b ≠ _ := fun e n => Nat.ne_of_lt (Heap.lt_size (k6 _ _ e (nm1 n)))
    have k17 : Kept [L] hx1 h7 := k6.trans k7q.one
    have hexL : L ≠ _ := (hilL F6)
    have itne : _ ≠ _ := (hilt hito hIL).symm
    have ilW : hW.get? _ = none := iniW k4 F6 k6 vI4
    clear F6 N6
    obtain ⟨rest, N, H⟩ := see F7 [(wr, _), (wd, _)] (fCm ⟨vwr4.kept k17, fCm ⟨vwd4.kept k17, fNm _⟩⟩)
    try dsimp only [List.nil_append, List.cons_append] at N
    try dsimp only
    k_steps
    rename Fr _ _ _ _ => F8
    rename News _ _ _ _ => N8
    have k8 : Kept [L] h7 _ := seen H F8 (fun q m => (N8 q (by repeat (first | exact m | refine List.Mem.tail _ ?_))).1)
    have k18 : Kept [L] hx1 _ := k17.trans k8
    have vI8 := vI4.kept k18
    walk_at "q0"
    refine' wpAny_setItem_pairs (knd := IK w) (k := (r : Int)) (intKind_is _ _ _ _) (dIx.at vI8.1) ?_ (by rw [sizeLine_eq]; lia)
    intro h9 hm9 hs9
    obtain ⟨oi9, eI9, dI9⟩ := DObj.of hm9
    have k9 : Kept [I] _ h9 := fun b o e n => (hs9.2 b (fun q => n (List.mem_singleton.mpr q))).trans e
    have F9 := led_kept k9 F8 (fCm ⟨⟨vIW.2.2, vIW.2.1⟩, fNm _⟩)
    clear F8 N8
    try dsimp only
    k_steps
    have hIr : ∃ o, hW.get? I = some o := ⟨_, vIW.1⟩
    refine ⟨_, _, rfl, ⟨_, F9, ⟨rfl, rfl, rfl, rfl, rfl⟩, ⟨fun b o e n => k9 _ _ (k18 _ _ (k4 b o e n) (nm1 fun q => n (q ▸ .head _))) (nm1 fun q => n (q ▸ .tail _ (.head _))), ⟨oi9, _, ⟨eI9, vIW.2⟩, dI9, Nat.le_trans stored_len (Nat.succ_le_succ hkl), fun r' hr' => ?_⟩⟩⟩, fCm ⟨fun o e => k9 _ _ (k18 _ _ e (nm1 hIL)) (nm1 (oldI vIW.1 vIW.2.1).symm), fNm _⟩⟩
    have off : ∀ {x : Addr}, hW.get? x = none → x ≠ I := fun n q => by rw [q] at n; rw [vIW.1] at n; cases n
    rcases Nat.lt_succ_iff_lt_or_eq.mp hr' with q | q
    · obtain ⟨il, ins, n, a, b, c, d, e, f⟩ := hils4 r' q
      exact ⟨il, ins, n, by rw [valueAt_ne (by lia)]; exact a, (b.kept k18).but k9 (nm1 (off e)), c, d, e, f⟩
    · subst q
      exact ⟨_, ins0, c7, valueAt_self, (vil.kept k8).but k9 (nm1 (off ilW)), hii, hlen, ilW, itne⟩
noncomputable abbrev lawEnv (L fa : Addr) (cd : Value) : Env := envOfC hd.dLaw.name hd.dLaw.scope L fa cd
theorem pushC {A : Around} {base h₀ h : Heap} {outer : List Env} {L a : Addr} {m : Str → Option Value} {name : Str} {scope : Scope} {cd : Value}
    (K : Below A base outer h₀) (F : Fr h₀ L h m) (hk : scope.kind = .function := by rfl) : Below (A.deeper (envOfC name scope L a cd)) base (envOfC name scope L a cd :: outer) h := by
  have hnew : base.get? L = none := by
    cases hq : base.get? L with
    | none => rfl
    | some o => exact absurd (Nat.lt_of_lt_of_le (Heap.lt_size (K.stays L o hq)) F.above) (Nat.lt_irrefl _)
  refine ⟨Around.frames_deeper K.stack, fun b o e => F.keep b o (K.stays b o e), ?_⟩
  exact .cons (by show scope.kind ≠ .module; rw [hk]; decide) rfl F.ns hnew (K.frames.of_keeps fun b o e _ => ⟨o, F.keep b o e, rfl⟩)
theorem NA.ownC {A : Around} {base g h : Heap} {outer : List Env} {L a f : Addr} {o : Obj} {name : Str} {scope : Scope} {cd : Value} (x : NA g L h a o) (B : Below A base outer g) : Own base (envOfC name scope L f cd :: outer) a :=
  ⟨(Own.fresh B x.2.2).1, fun env he => by
    rcases List.mem_cons.mp he with rfl | he
    · exact fun q => x.2.1 (Option.some.inj q).symm
    · exact (Own.fresh B x.2.2).2 env he⟩

theorem at6 {P : Value → Prop} {a b c d e f : Value} (ha : P a) (hb : P b) (hc : P c) (hd : P d) (he : P e) (hf : P f) : ∀ (i : Nat) v, (#[a, b, c, d, e, f] : Array Value)[i]? = some v → P v
  | 0, _, h => by cases h; exact ha
  | 1, _, h => by cases h; exact hb
  | 2, _, h => by cases h; exact hc
  | 3, _, h => by cases h; exact hd
  | 4, _, h => by cases h; exact he
  | 5, _, h => by cases h; exact hf
  | i + 6, _, h => by rw [Array.getElem?_eq_none (by simp)] at h; cases h
section
variable {A : Around} {base h0 h g' : Heap} {outer : List Env} {L L' fa : Addr} {cd : Value}
theorem row_net (K0 : Below A base outer h0) (hg : ∀ b, Own base (lawEnv L fa cd :: outer) b → g'.get? b = none) (hL : ∀ b o, h.get? b = some o → b ≠ L') {row rn r bit : Nat} {net : Int} {tr0 tr1 tr2 tr3 : Tok}
    (x : NA h0 L h row { cls := .type "tuple", data := .seq #[.str (Str.ofString "net") tr0, .int r tr1, .int bit tr2, .int net tr3] rn }) (hr : r < 5) (hb : bit < widthAt r) : RowAt h g' L' (.ref row) :=
  .net x.1 ⟨hL _ _ x.1, hg _ (NA.ownC x K0)⟩ hr hb
theorem row_flop (K0 : Below A base outer h0) (hg : ∀ b, Own base (lawEnv L fa cd :: outer) b → g'.get? b = none) (hL : ∀ b o, h.get? b = some o → b ≠ L') {row pins rn pn r bit : Nat} {inv : Int} {tr0 tr1 tr2 tr3 : Tok} {pis : Array Value} {pl : List Int}
    (x : NA h0 L h row { cls := .type "tuple", data := .seq #[.str (Str.ofString "flop") tr0, .int r tr1, .int bit tr2, .ref pins, .int inv tr3] rn }) (y : NA h0 L h pins { cls := .type "tuple", data := .seq pis pn }) (hp : PyProof.Rows.IntsAre pis.toList pl) (hr : r < 4) (hb : bit < widthAt r) : RowAt h g' L' (.ref row) :=
  .flop x.1 ⟨hL _ _ x.1, hg _ (NA.ownC x K0)⟩ y.1 ⟨hL _ _ y.1, hg _ (NA.ownC y K0)⟩ hp hr hb
theorem row_latch (K0 : Below A base outer h0) (hg : ∀ b, Own base (lawEnv L fa cd :: outer) b → g'.get? b = none) (hL : ∀ b o, h.get? b = some o → b ≠ L') {row pins rn pn r bit : Nat} {tr0 tr1 tr2 : Tok} {pis : Array Value} {pl : List Int}
    (x : NA h0 L h row { cls := .type "tuple", data := .seq #[.str (Str.ofString "latch") tr0, .int r tr1, .int bit tr2, .ref pins] rn }) (y : NA h0 L h pins { cls := .type "tuple", data := .seq pis pn }) (hp : PyProof.Rows.IntsAre pis.toList pl) (hr : r < 4) (hb : bit < widthAt r) : RowAt h g' L' (.ref row) :=
  .latch x.1 ⟨hL _ _ x.1, hg _ (NA.ownC x K0)⟩ y.1 ⟨hL _ _ y.1, hg _ (NA.ownC y K0)⟩ hp hr hb
end

structure Pur (h0 : Heap) (L : Addr) (h : Heap) (pa ca : Addr) (K : Int) : Prop where
  ex : ∃ k t n, NA h0 L h pa (PySem.W.listOf #[.ref ca, .int k t] n) ∧ -1 ≤ k ∧ k ≤ K
  coins : ∃ cs cn l, NA h0 L h ca (PySem.W.listOf cs cn) ∧ PyProof.Rows.IntsAre cs.toList l ∧ l.length ≤ 60
  cell : ∃ oc, NA h0 L h (L + 1) oc ∧ oc.data = .cell (some (.ref pa))
  ne : pa ≠ ca ∧ pa ≠ L + 1 ∧ ca ≠ L + 1
theorem Pur.but {h0 h h' : Heap} {L pa ca : Addr} {K : Int} {S : List Addr} (P : Pur h0 L h pa ca K) (k : Kept S h h') (hS : pa ∉ S ∧ ca ∉ S ∧ L + 1 ∉ S) : Pur h0 L h' pa ca K :=
  ⟨let ⟨k', t, n, e, r⟩ := P.ex; ⟨k', t, n, e.but k hS.1, r⟩, let ⟨cs, cn, l, e, r⟩ := P.coins; ⟨cs, cn, l, e.but k hS.2.1, r⟩, let ⟨oc, e, r⟩ := P.cell; ⟨oc, e.but k hS.2.2, r⟩, P.ne⟩
theorem Pur.kept {h0 h h' : Heap} {L pa ca : Addr} {K : Int} (P : Pur h0 L h pa ca K) (k : Kept [L] h h') : Pur h0 L h' pa ca K :=
  P.but k ⟨(let ⟨_, _, _, e, _⟩ := P.ex; nm1 e.2.1), (let ⟨_, _, _, e, _⟩ := P.coins; nm1 e.2.1), (let ⟨_, e, _⟩ := P.cell; nm1 e.2.1)⟩
theorem Pur.le {h0 h : Heap} {L pa ca : Addr} {K K' : Int} (P : Pur h0 L h pa ca K) (l : K ≤ K') : Pur h0 L h pa ca K' :=
  ⟨let ⟨k', t, n, e, r⟩ := P.ex; ⟨k', t, n, e, r.1, Int.le_trans r.2 l⟩, P.coins, P.cell, P.ne⟩
theorem coin_pur {w : World} {A : Around} {s : Shared} {h0 : Heap} {base : Heap} {outer : List Env} {mean : ExcName → Option Value} {mg mb : Str → Option Value} {R : Result → Shared → Prop} {L fa pa ca : Addr} {cd : Value} {many K : Int} {tm : Tok}
    (B : Below A base (envOfC hd.dLaw.name hd.dLaw.scope L fa cd :: outer) s.heap) (B0 : ∃ A0, Below A0 base outer h0) (XB : (Mine.hd.heap_39 w.params).In base) (TB : Top Mine.hd.view_39 (looseW Mine.hd.view_39 [Str.ofString "GateloomError"]) mean mg mb base) (hroom : A.depth < 650)
    (P : Pur h0 L s.heap pa ca K) (hK : K < 1000) (hm : 0 < many)
    (hR : ∀ h' tk' r t, Kept [pa] s.heap h' → Pur h0 L h' pa ca (K + 1) → 0 ≤ r → r < many → R (.ok (.ret (.int r t))) { s with heap := h', toks := tk' }) :
    codeAny (model PySem.Challenge.rw_sj0046_01.row.prog w) A (.call (.ref 334) ⟨[.ref pa, .int many tm], []⟩) R s := by
  obtain ⟨A0, B0⟩ := B0
  obtain ⟨k, t, n, e1, e2, e3⟩ := P.ex
  obtain ⟨cs, cn, l, f1, f2, f3⟩ := P.coins
  obtain ⟨oc, g1, g2⟩ := P.cell
  refine coin_spec B XB TB hroom e1.1 f1.1 f2 f3 ⟨e2, by lia⟩ hm P.ne.1 (NA.ownC e1 B0) (NA.ownC f1 B0) fun h' tk' r t t' k' e' r0 r1 => hR h' tk' r t k' ⟨⟨_, t', n, ⟨e', e1.2⟩, by lia, by lia⟩, ⟨cs, cn, l, f1.but k' (nm1 P.ne.1.symm), f2, f3⟩, ⟨oc, g1.but k' (nm1 P.ne.2.1.symm), g2⟩, P.ne⟩ r0 r1
noncomputable abbrev bitScope : Scope := { kind := ScopeKind.function, names := [(Str.ofString ".0", NameKind.local), (Str.ofString "bit", NameKind.local), (Str.ofString "_law_coin", NameKind.globalImplicit), (Str.ofString "purse", NameKind.free)], isGenerator := false, isCoroutine := false }
set_option maxHeartbeats 8000000 in
theorem coins_rest {w : World} {A : Around} {h0 : Heap} {s : Shared} {mean : ExcName → Option Value} {mg mb : Str → Option Value} {L fa : Addr} {cd : Value} {m : Str → Option Value} {oc : Obj} {pa ca ax : Addr} {cs its : Array Value} {cn an : Nat} {lc : List Int} {rest : List (Addr × Obj)} {p1 p2 p3 p4 : Pos} {P : Nat → Value → Prop} {Fin : List Value → List (Addr × Obj) → Prop} {tot : Nat} {K : Int}
    (K0 : Below A h0 [] h0) (hroom : A.depth < 450) (hh : A.handled = none) (hun : A.units < 500) (KX : (Mine.hd.heap_39 w.params).In h0) (T : Top Mine.hd.view_39 (looseW Mine.hd.view_39 [Str.ofString "GateloomError"]) mean mg mb h0) (hoc : oc.data = .cell (some (.ref pa))) (hci : PyProof.Rows.IntsAre cs.toList lc) (hcl : lc.length ≤ 60) (hne : pa ≠ ca ∧ pa ≠ L + 1 ∧ ca ≠ L + 1) (hop : ∀ q ∈ (L + 1, oc) :: (ca, PySem.W.listOf cs cn) :: (ax, PySem.W.listOf its an) :: rest, q.1 ≠ pa) (hK : K < 1000)
    (hFin : ∀ ys l k t n, ys.length = tot → PyProof.Rows.IntsAre ys l → -1 ≤ k → k ≤ K → Fin ys ((pa, PySem.W.listOf #[.ref ca, .int k t] n) :: (L + 1, oc) :: (ca, PySem.W.listOf cs cn) :: (ax, PySem.W.listOf its an) :: rest)) :
    ∀ (j i : Nat) ys l k t n, ys.length + j = tot → PyProof.Rows.IntsAre ys l → -1 ≤ k → k + j ≤ K →
      LCg.CompRest PySem.Challenge.rw_sj0046_01.row.prog w (A.deeper (lawEnv L fa cd)) h0 L m (lawEnv L fa cd) (.Call (.Name (Str.ofString "_law_coin") p1) [.Name (Str.ofString "purse") p2, .Constant (.int 2) 0 p3] [] p4) (Str.ofString "bit") bitScope [(Str.ofString "purse", L + 1)] s (LCg.SrcAt h0 ax its) P Fin j i ys ((pa, PySem.W.listOf #[.ref ca, .int k t] n) :: (L + 1, oc) :: (ca, PySem.W.listOf cs cn) :: (ax, PySem.W.listOf its an) :: rest) := by
  intro j
  induction j with
  | zero => intro i ys l k t n e hi hk1 hk2; exact hFin ys l k t n e hi hk1 (by lia)
  | succ j ih =>
    intro i ys l k t n e hi hk1 hk2
    refine LCg.CompRest.succ fun v I oI C oC D m₂ h tk E' hP hC hx F N off ne3 => ?_
    refine hold fun gP kont => ?_
    obtain ⟨hh0, g, d, tt, os⟩ := s
    refine kont ?_
    clear kont gP
    have Pu : Pur h0 L h pa ca k := ⟨⟨k, t, n, NA.of N (.tail _ (.tail _ (.tail _ (.head _)))), hk1, Int.le_refl _⟩, ⟨cs, cn, lc, NA.of N (.tail _ (.tail _ (.tail _ (.tail _ (.tail _ (.head _)))))), hci, hcl⟩, ⟨oc, NA.of N (.tail _ (.tail _ (.tail _ (.tail _ (.head _))))), hoc⟩, hne⟩
    have X' := KX
    have T' := T
    have hF := Hid.mk F
    have hN := Hid.mk N
    have hOff := Hid.mk off
    try dsimp only
    k_steps
    walk_at "q0"
    refine' wpAny_call (coin_pur (K := k) (pushC K0 hF.get) ⟨_, K0⟩ KX T ?z1 Pu ?z2 (by decide) ?_)
    case z1 => exact roomD hroom (by decide)
    case z2 => lia
    intro h' tk' r t' k' P' r0 r1
    refine hold fun gP kont => ?_
    obtain ⟨k2, t2, n2, e2, l2, u2⟩ := P'.ex
    refine kont ?_
    clear kont gP
    have off' := hOff.get
    have opa : (I ≠ pa ∧ C ≠ pa ∧ D ≠ pa) := ⟨fun q => off'.1.1 q.symm, fun q => off'.1.2.1 q.symm, fun q => off'.1.2.2 q.symm⟩
    have N := hN.get
    have F' := led_kept k' hF.get (fCm ⟨⟨e2.2.2, e2.2.1⟩, fNm _⟩)
    have kp : ∀ {q : Addr × Obj}, q ∈ _ → q.1 ≠ pa → NA h0 L h' q.1 q.2 := fun m n => (NA.of (a := _) (o := _) N m).but k' (nm1 n)
    have N' : News h0 L h' ((I, oI) :: (C, oC) :: (D, LCg.lst ys) :: (pa, PySem.W.listOf #[.ref ca, .int k2 t2] n2) :: (L + 1, oc) :: (ca, PySem.W.listOf cs cn) :: (ax, PySem.W.listOf its an) :: rest) := fCm ⟨kp (.head _) opa.1, fCm ⟨kp (.tail _ (.head _)) opa.2.1, fCm ⟨kp (.tail _ (.tail _ (.head _))) opa.2.2, fCm ⟨e2, fun q hq => kp (.tail _ (.tail _ (.tail _ (.tail _ hq)))) (hop q hq)⟩⟩⟩⟩
    exact LCg.CompEnd.intro F' N' _ (fun p hp => hp) off' (.inr ⟨_, .tail _ (.tail _ (.tail _ (.head _))), rfl, _, rfl⟩) (ih (i + 1) (ys ++ [.int r t']) (l ++ [r]) k2 t2 n2 (by rw [List.length_append, List.length_singleton]; lia) (hi.append (.cons _ _ .nil)) l2 (by lia))
section
local macro_rules | `(tactic| k_all) => `(tactic| assumption)
inductive RowN (h0 : Heap) (L : Addr) (h : Heap) : Value → Prop
  | net {row : Addr} {rn r bit : Nat} {net : Int} {tr0 tr1 tr2 tr3 : Tok} (x : NA h0 L h row { cls := .type "tuple", data := .seq #[.str (Str.ofString "net") tr0, .int r tr1, .int bit tr2, .int net tr3] rn }) (hr : r < 5) (hb : bit < widthAt r) : RowN h0 L h (.ref row)
  | flop {row pins : Addr} {rn pn r bit : Nat} {inv : Int} {tr0 tr1 tr2 tr3 : Tok} {pis : Array Value} {pl : List Int} (x : NA h0 L h row { cls := .type "tuple", data := .seq #[.str (Str.ofString "flop") tr0, .int r tr1, .int bit tr2, .ref pins, .int inv tr3] rn }) (y : NA h0 L h pins { cls := .type "tuple", data := .seq pis pn }) (hp : PyProof.Rows.IntsAre pis.toList pl) (hr : r < 4) (hb : bit < widthAt r) : RowN h0 L h (.ref row)
  | latch {row pins : Addr} {rn pn r bit : Nat} {tr0 tr1 tr2 : Tok} {pis : Array Value} {pl : List Int} (x : NA h0 L h row { cls := .type "tuple", data := .seq #[.str (Str.ofString "latch") tr0, .int r tr1, .int bit tr2, .ref pins] rn }) (y : NA h0 L h pins { cls := .type "tuple", data := .seq pis pn }) (hp : PyProof.Rows.IntsAre pis.toList pl) (hr : r < 4) (hb : bit < widthAt r) : RowN h0 L h (.ref row)
theorem RowN.but {h0 h h' : Heap} {L : Addr} {v : Value} {S : List Addr} (R : RowN h0 L h v) (k : Kept S h h') (hS : ∀ a ∈ S, a = L ∨ ∃ o, h.get? a = some o ∧ o.cls ≠ .type "tuple") : RowN h0 L h' v := by
  have z : ∀ {a : Addr} {its : Array Value} {n : Nat}, NA h0 L h a { cls := .type "tuple", data := .seq its n } → a ∉ S := fun x m => by
    rcases hS _ m with q | ⟨o, e, c⟩
    · exact x.2.1 q
    · rw [x.1] at e; cases e; exact c rfl
  cases R with
  | net x hr hb => exact .net (x.but k (z x)) hr hb
  | flop x y hp hr hb => exact .flop (x.but k (z x)) (y.but k (z y)) hp hr hb
  | latch x y hp hr hb => exact .latch (x.but k (z x)) (y.but k (z y)) hp hr hb
theorem RowN.at {A : Around} {base h0 h g' : Heap} {outer : List Env} {L L' fa : Addr} {cd v : Value} (R : RowN h0 L h v) (K0 : Below A base outer h0) (hg : ∀ b, Own base (lawEnv L fa cd :: outer) b → g'.get? b = none) (hL : ∀ b o, h.get? b = some o → b ≠ L') : RowAt h g' L' v := by
  cases R with
  | net x hr hb => exact row_net K0 hg hL x hr hb
  | flop x y hp hr hb => exact row_flop K0 hg hL x y hp hr hb
  | latch x y hp hr hb => exact row_latch K0 hg hL x y hp hr hb
noncomputable def rowBody : List PySem.Stmt := match hd.dLaw.body[6]? with
  | some (PySem.Stmt.For _ _ b _ _) => b
  | _ => []

set_option maxHeartbeats 16000000 in
theorem law_tail {w : World} {A : Around} {h0 : Heap} {s : Shared} {mean : ExcName → Option Value} {mg mb : Str → Option Value} {L fa : Addr} {cd : Value} {Q : Flow → Shared → Prop} {E : Value → Shared → Prop} {m : Str → Option Value} {pa ca sl rl : Addr} {rits : Array Value} {rn : Nat} {r bit : Nat} {f K : Int} {tr tb tf : Tok}
    (K0 : Below A h0 [] h0) (hroom : A.depth < 450) (hh : A.handled = none) (hun : A.units < 500) (KX : (Mine.hd.heap_39 w.params).In h0) (T : Top Mine.hd.view_39 (looseW Mine.hd.view_39 [Str.ofString "GateloomError"]) mean mg mb h0) (F : Fr h0 L s.heap m) (ms : m (Str.ofString "starts") = some (.ref sl)) (mr : m (Str.ofString "rows") = some (.ref rl)) (mref : m (Str.ofString "ref") = some (.int r tr)) (mbit : m (Str.ofString "bit") = some (.int bit tb)) (mform : m (Str.ofString "form") = some (.int f tf)) (hf : 0 ≤ f ∧ f < 3) (hr : r < 5) (hrf : f ≠ 0 → r < 4) (hb : bit < widthAt r)
    (vrl : NA h0 L s.heap rl (PySem.W.listOf rits rn)) (hsz : rits.size < 100) (nrl : pa ≠ rl ∧ ca ≠ rl ∧ L + 1 ≠ rl) (P : Pur h0 L s.heap pa ca K) (hK : K < 900)
    (hQ : ∀ h' tk' m' row, Fr h0 L h' m' → m' (Str.ofString "starts") = some (.ref sl) → m' (Str.ofString "rows") = some (.ref rl) → Kept [L, pa, rl] s.heap h' → NA h0 L h' rl (PySem.W.listOf (rits.push row) (rn + 1)) → Pur h0 L h' pa ca (K + 3) → RowN h0 L h' row → Q .next { s with heap := h', toks := tk' }) :
    wpAny (model PySem.Challenge.rw_sj0046_01.row.prog w) (A.deeper (lawEnv L fa cd)) (execs (rowBody.drop 3) (lawEnv L fa cd)) Q E s := by
  refine hold fun gP kont => ?_
  obtain ⟨h, g, d, tt, os⟩ := s
  refine kont ?_
  clear kont gP
  have X' := KX
  have T' := T
  delta lawEnv
  have P0 := P.le (show K ≤ K + 0 by lia)
  have F0 := pin (x := Str.ofString "form") (pin (x := Str.ofString "bit") (pin (x := Str.ofString "ref") (pin (x := Str.ofString "rows") (pin (x := Str.ofString "starts") (F) ms) ((if_neg (by decide)).trans mr)) ((if_neg (by decide)).trans ((if_neg (by decide)).trans mref))) ((if_neg (by decide)).trans ((if_neg (by decide)).trans ((if_neg (by decide)).trans mbit)))) ((if_neg (by decide)).trans ((if_neg (by decide)).trans ((if_neg (by decide)).trans ((if_neg (by decide)).trans mform))))
  clear F
  refine hold fun gP kont => ?_
  obtain ⟨oc0, vc0, hoc0⟩ := P0.cell
  obtain ⟨rest, N, H⟩ := see F0 [(L + 1, _)] (fCm ⟨vc0, fNm _⟩)
  refine kont ?_
  clear kont gP
  try dsimp only [List.nil_append, List.cons_append] at N
  try dsimp only
  k_steps
  rename Fr _ _ _ _ => G0
  rename News _ _ _ _ => N0
  have ka0 : Kept [L] _ _ := seen H G0 (fun q m => (N0 q (by repeat (first | exact m | refine List.Mem.tail _ ?_))).1)
  walk_at "q0"
  refine' wpAny_call (coin_pur (K := K + 0) (pushC K0 G0) ⟨_, K0⟩ KX T ?z1 (P0.kept ka0) ?z2 (show (0 : Int) < 8 by decide) ?_)
  case z1 => exact roomD hroom (by decide)
  case z2 => lia
  intro h1 tk1 r1 t1 kb1 P1 r1a r1b
  replace P1 := P1.le (show K + 0 + 1 ≤ K + 1 by lia)
  have F1 := led_kept kb1 G0 (fCm ⟨(let ⟨_, _, _, e, _⟩ := P1.ex; ⟨e.2.2, e.2.1⟩), fNm _⟩)
  have kc1 : Kept [L, pa] _ h1 := (ka0.mono fun b hb => (List.mem_singleton.mp hb) ▸ .head _).trans (kb1.mono fun b hb => (List.mem_singleton.mp hb) ▸ .tail _ (.head _))
  clear G0 N0
  try clear F0
  try dsimp only
  refine hold fun gP kont => ?_
  obtain ⟨oc1, vc1, hoc1⟩ := P1.cell
  obtain ⟨rest, N, H⟩ := see F1 [(L + 1, _)] (fCm ⟨vc1, fNm _⟩)
  refine kont ?_
  clear kont gP
  try dsimp only [List.nil_append, List.cons_append] at N
  try dsimp only
  k_steps
  rename Fr _ _ _ _ => G1
  rename News _ _ _ _ => N1
  have ka1 : Kept [L] _ _ := seen H G1 (fun q m => (N1 q (by repeat (first | exact m | refine List.Mem.tail _ ?_))).1)
  walk_at "q0"
  refine' wpAny_call (coin_pur (K := K + 1) (pushC K0 G1) ⟨_, K0⟩ KX T ?z1 (P1.kept ka1) ?z2 (show (0 : Int) < 8 by decide) ?_)
  case z1 => exact roomD hroom (by decide)
  case z2 => lia
  intro h2 tk2 r2 t2 kb2 P2 r2a r2b
  replace P2 := P2.le (show K + 1 + 1 ≤ K + 2 by lia)
  have F2 := led_kept kb2 G1 (fCm ⟨(let ⟨_, _, _, e, _⟩ := P2.ex; ⟨e.2.2, e.2.1⟩), fNm _⟩)
  have kc2 : Kept [L, pa] _ h2 := (ka1.mono fun b hb => (List.mem_singleton.mp hb) ▸ .head _).trans (kb2.mono fun b hb => (List.mem_singleton.mp hb) ▸ .tail _ (.head _))
  clear G1 N1
  try clear F1
  try dsimp only
  refine hold fun gP kont => ?_
  obtain ⟨oc2, vc2, hoc2⟩ := P2.cell
  obtain ⟨rest, N, H⟩ := see F2 [(L + 1, _)] (fCm ⟨vc2, fNm _⟩)
  refine kont ?_
  clear kont gP
  try dsimp only [List.nil_append, List.cons_append] at N
  try dsimp only
  k_steps
  rename Fr _ _ _ _ => G2
  rename News _ _ _ _ => N2
  have ka2 : Kept [L] _ _ := seen H G2 (fun q m => (N2 q (by repeat (first | exact m | refine List.Mem.tail _ ?_))).1)
  walk_at "q0"
  refine' wpAny_call (coin_pur (K := K + 2) (pushC K0 G2) ⟨_, K0⟩ KX T ?z1 (P2.kept ka2) ?z2 (show (0 : Int) < 8 by decide) ?_)
  case z1 => exact roomD hroom (by decide)
  case z2 => lia
  intro h3 tk3 r3 t3 kb3 P3 r3a r3b
  replace P3 := P3.le (show K + 2 + 1 ≤ K + 3 by lia)
  have F3 := led_kept kb3 G2 (fCm ⟨(let ⟨_, _, _, e, _⟩ := P3.ex; ⟨e.2.2, e.2.1⟩), fNm _⟩)
  have kc3 : Kept [L, pa] _ h3 := (ka2.mono fun b hb => (List.mem_singleton.mp hb) ▸ .head _).trans (kb3.mono fun b hb => (List.mem_singleton.mp hb) ▸ .tail _ (.head _))
  clear G2 N2
  try clear F2
  try dsimp only
  have k3 : Kept [L, pa] h h3 := (kc1.trans kc2).trans kc3
  have vrl3 := vrl.but k3 (nm2 vrl.2.1 nrl.1.symm)
  refine hold fun gP kont => ?_
  obtain ⟨oc3, vc3, hoc3⟩ := P3.cell
  have npL : pa ≠ L := let ⟨_, _, _, e, _⟩ := P3.ex; e.2.1
  have ncL : ca ≠ L := let ⟨_, _, _, e, _⟩ := P3.coins; e.2.1
  have nlL : L + 1 ≠ L := vc3.2.1
  obtain ⟨rest, N, hrx, H⟩ := see_mut F3 [] [(rl, _)] (fNm _) (fCm ⟨vrl3, fNm _⟩)
  refine kont ?_
  clear kont gP
  try dsimp only [List.nil_append, List.cons_append] at N
  have hrl : ∀ q ∈ rest, q.1 ≠ rl := hrx _ (.head _)
  clear hrx
  k_steps
  all_goals
    rename Fr _ _ _ _ => F9
    rename News _ _ _ _ => N9
    have k9 : Kept [L, rl] h3 _ := seen_mut H F9 (fun q m => (N9 q (by repeat (first | exact m | refine List.Mem.tail _ ?_))).1)
    refine' hQ _ _ _ _ F9 rfl rfl ((k3.mono (fCm ⟨.head _, fCm ⟨.tail _ (.head _), fNm _⟩⟩)).trans (k9.mono (fCm ⟨.head _, fCm ⟨.tail _ (.tail _ (.head _)), fNm _⟩⟩))) (N9 _ (.tail _ (.tail _ (.head _)))) (P3.but k9 ⟨nm2 npL nrl.1, nm2 ncL nrl.2.1, nm2 nlL nrl.2.2⟩) ?row
    case row => first
      | exact .net (N9 _ (.head _)) hr hb
      | exact .flop (pl := [r1, r2, r3, 0]) (N9 _ (.head _)) (N9 _ (.tail _ (.head _))) (.cons _ _ (.cons _ _ (.cons _ _ (.cons _ _ .nil)))) (hrf (by assumption)) hb
      | exact .latch (pl := [r1, r2, r3, 0]) (N9 _ (.head _)) (N9 _ (.tail _ (.head _))) (.cons _ _ (.cons _ _ (.cons _ _ (.cons _ _ .nil)))) (hrf (by assumption)) hb
end
structure Sts (h0 : Heap) (L : Addr) (h : Heap) (sits : Array Value) (n : Nat) (S : List Addr) : Prop where
  sz : sits.size = n
  at_ : ∀ r : Nat, r < n → ∃ il ins mm lv, sits[r]? = some (.ref il) ∧ NA h0 L h il (PySem.W.listOf ins mm) ∧ PyProof.Rows.IntsAre ins.toList lv ∧ lv.length = widthAt r ∧ il ∉ S
theorem Sts.but {h0 h h' : Heap} {L : Addr} {sits : Array Value} {n : Nat} {S K : List Addr} (T : Sts h0 L h sits n S) (k : Kept K h h') (hK : ∀ x ∈ K, x = L ∨ x ∈ S) : Sts h0 L h' sits n S :=
  ⟨T.sz, fun r hr => let ⟨il, ins, mm, lv, a, b, c, d, e⟩ := T.at_ r hr; ⟨il, ins, mm, lv, a, b.but k (fun q => (hK _ q).elim b.2.1 e), c, d, e⟩⟩
section
local macro_rules | `(tactic| k_all) => `(tactic| assumption)
theorem widthAt_pos : ∀ r, 0 < widthAt r
  | 0 => by decide
  | 1 => by decide
  | 2 => by decide
  | 3 => by decide
  | _ + 4 => by show 0 < 2; decide
structure RJ (h0 : Heap) (L pa ca sl rl it : Addr) (sits : Array Value) (sn i : Nat) (h : Heap) : Prop where
  ex : ∃ m rits rn, Fr h0 L h m ∧ m (Str.ofString "starts") = some (.ref sl) ∧ m (Str.ofString "rows") = some (.ref rl) ∧ NA h0 L h rl (PySem.W.listOf rits rn) ∧ rits.size = i ∧ ∀ (j : Nat) v, rits[j]? = some v → RowN h0 L h v
  sl_ : NA h0 L h sl (PySem.W.listOf sits sn)
  sts : Sts h0 L h sits 5 [rl, pa, it]
  pur : Pur h0 L h pa ca (20 + 6 * i)

set_option maxHeartbeats 16000000 in
theorem law_turn {w : World} {A : Around} {h0 : Heap} {s : Shared} {mean : ExcName → Option Value} {mg mb : Str → Option Value} {L fa : Addr} {cd : Value} {Q : Flow → Shared → Prop} {E : Value → Shared → Prop} {m : Str → Option Value} {pa ca sl rl it : Addr} {sits : Array Value} {sn i : Nat} {v : Value} {h₁ : Heap} {tk₁ : Nat} {px : Pos} {rits : Array Value} {rn : Nat}
    (K0 : Below A h0 [] h0) (hroom : A.depth < 450) (hh : A.handled = none) (hun : A.units < 500) (KX : (Mine.hd.heap_39 w.params).In h0) (T : Top Mine.hd.view_39 (looseW Mine.hd.view_39 [Str.ofString "GateloomError"]) mean mg mb h0) (F : Fr h0 L h₁ m) (ms : m (Str.ofString "starts") = some (.ref sl)) (mr : m (Str.ofString "rows") = some (.ref rl)) (vrl : NA h0 L h₁ rl (PySem.W.listOf rits rn)) (hsz : rits.size = i) (hi : i < 8) (hrows : ∀ (j : Nat) v, rits[j]? = some v → RowN h0 L h₁ v)
    (vsl : NA h0 L h₁ sl (PySem.W.listOf sits sn)) (Ts : Sts h0 L h₁ sits 5 [rl, pa, it]) (P : Pur h0 L h₁ pa ca (20 + 6 * i)) (nrl : pa ≠ rl ∧ ca ≠ rl ∧ L + 1 ≠ rl) (nsl : sl ≠ pa ∧ sl ≠ rl) (nit : it ≠ L ∧ it ≠ pa ∧ it ≠ rl) :
    Turn PySem.Challenge.rw_sj0046_01.row.prog w (A.deeper (lawEnv L fa cd)) (lawEnv L fa cd) (.Name (Str.ofString "lap") px) rowBody Q E [it] s (RJ h0 L pa ca sl rl it sits sn (i + 1)) v h₁ tk₁ := by
  refine hold fun gP kont => ?_
  obtain ⟨h, g, d, tt, os⟩ := s
  refine kont ?_
  clear kont gP
  have X' := KX
  have T' := T
  unfold Turn
  delta lawEnv
  have hKi : (20 + 6 * (i : Int)) < 900 := by lia
  generalize hK : (20 + 6 * (i : Int)) = K at P hKi
  have P0 := P.le (show K ≤ K + 0 by lia)
  have F0 := pin (x := Str.ofString "rows") (pin (x := Str.ofString "starts") (F) ms) ((if_neg (by decide)).trans mr)
  clear F
  refine hold fun gP kont => ?_
  obtain ⟨oc0, vc0, hoc0⟩ := P0.cell
  obtain ⟨rest, N, H⟩ := see F0 [(L + 1, _)] (fCm ⟨vc0, fNm _⟩)
  refine kont ?_
  clear kont gP
  try dsimp only [List.nil_append, List.cons_append] at N
  try dsimp only
  k_steps
  rename Fr _ _ _ _ => G0
  rename News _ _ _ _ => N0
  have ka0 : Kept [L] _ _ := seen H G0 (fun q m => (N0 q (by repeat (first | exact m | refine List.Mem.tail _ ?_))).1)
  walk_at "q0"
  refine' wpAny_call (coin_pur (K := K + 0) (pushC K0 G0) ⟨_, K0⟩ KX T ?z1 (P0.kept ka0) ?z2 (show (0 : Int) < 5 by decide) ?_)
  case z1 => exact roomD hroom (by decide)
  case z2 => lia
  intro h1 tk1 r1 t1 kb1 P1 r1a r1b
  replace P1 := P1.le (show K + 0 + 1 ≤ K + 1 by lia)
  have F1 := led_kept kb1 G0 (fCm ⟨(let ⟨_, _, _, e, _⟩ := P1.ex; ⟨e.2.2, e.2.1⟩), fNm _⟩)
  have kc1 : Kept [L, pa] _ h1 := (ka0.mono fun b hb => (List.mem_singleton.mp hb) ▸ .head _).trans (kb1.mono fun b hb => (List.mem_singleton.mp hb) ▸ .tail _ (.head _))
  clear G0 N0
  try clear F0
  try dsimp only
  refine hold fun gP kont => ?_
  obtain ⟨r, rfl⟩ := Int.eq_ofNat_of_zero_le r1a
  have hr : r < 5 := by lia
  have T1 := Ts.but kc1 (fCm ⟨.inl rfl, fCm ⟨.inr (.tail _ (.head _)), fNm _⟩⟩)
  have vsl1 := vsl.but kc1 (nm2 vsl.2.1 nsl.1)
  obtain ⟨il, ins, mm, lv, esl, vil, hii, hlv, nil_⟩ := T1.at_ r hr
  have hlen : ins.size = widthAt r := by
    have z := PyProof.Rows.IntsAre.length hii
    rw [Array.length_toList] at z; lia
  have hwp := widthAt_pos r
  have hw4 := widthAt_le r
  have hcp : (0 : Int) < (widthAt r : Int) := by lia
  have hi1 : ins.size < 1000 := by lia
  obtain ⟨oc1, vc1, hoc1⟩ := P1.cell
  obtain ⟨rest, N, H⟩ := see F1 [(L + 1, _), (sl, _), (il, _)] (fCm ⟨vc1, fCm ⟨vsl1, fCm ⟨vil, fNm _⟩⟩⟩)
  refine kont ?_
  clear kont gP
  try dsimp only [List.nil_append, List.cons_append] at N
  try dsimp only
  k_steps
  have hlA := listAt (NA.of (by assumption : News h0 L _ _) (.tail _ (.head _)) : NA h0 L _ sl (PySem.W.listOf sits sn)).1
  walk_at "q0"
  refine' sub_any ?ht slot_list_getitem.lookup (wpAny_getItem_list hlA (Int.natCast_nonneg _) (by first | exact i63 (by with_reducible assumption) (Nat.le_of_ble_eq_true rfl) | exact i63 (Nat.lt_of_lt_of_le (by with_reducible assumption) (widthAt_le _)) (Nat.le_of_ble_eq_true rfl) | lia) (idx_nat esl) ?_) (by with_unfolding_all rfl)
  case ht => exact hlA.typeIs
  try dsimp only
  k_steps
  rename Fr _ _ _ _ => G1
  rename News _ _ _ _ => N1
  have ka1 : Kept [L] _ _ := seen H G1 (fun q m => (N1 q (by repeat (first | exact m | refine List.Mem.tail _ ?_))).1)
  walk_at "q0"
  refine' wpAny_call (coin_pur (K := K + 1) (pushC K0 G1) ⟨_, K0⟩ KX T ?z1 (P1.kept ka1) ?z2 hcp ?_)
  case z1 => exact roomD hroom (by decide)
  case z2 => lia
  intro h2 tk2 r2 t2 kb2 P2 r2a r2b
  replace P2 := P2.le (show K + 1 + 1 ≤ K + 2 by lia)
  have F2 := led_kept kb2 G1 (fCm ⟨(let ⟨_, _, _, e, _⟩ := P2.ex; ⟨e.2.2, e.2.1⟩), fNm _⟩)
  have kc2 : Kept [L, pa] _ h2 := (ka1.mono fun b hb => (List.mem_singleton.mp hb) ▸ .head _).trans (kb2.mono fun b hb => (List.mem_singleton.mp hb) ▸ .tail _ (.head _))
  clear G1 N1
  obtain ⟨bit, rfl⟩ := Int.eq_ofNat_of_zero_le r2a
  have hb : bit < widthAt r := by lia
  have k2 : Kept [L, pa] h₁ h2 := kc1.trans kc2
  rcases Nat.lt_or_ge r 4 with hr4 | hr4
  · obtain ⟨oc2, vc2, hoc2⟩ := P2.cell
    obtain ⟨rest, N, H⟩ := see F2 [(L + 1, _)] (fCm ⟨vc2, fNm _⟩)
    try dsimp only [List.nil_append, List.cons_append] at N
    try dsimp only
    k_steps
    rename Fr _ _ _ _ => G2
    rename News _ _ _ _ => N2
    have ka2 : Kept [L] _ _ := seen H G2 (fun q m => (N2 q (by repeat (first | exact m | refine List.Mem.tail _ ?_))).1)
    walk_at "q0"
    refine' wpAny_call (coin_pur (K := K + 2) (pushC K0 G2) ⟨_, K0⟩ KX T ?z1 (P2.kept ka2) ?z2 (show (0 : Int) < 3 by decide) ?_)
    case z1 => exact roomD hroom (by decide)
    case z2 => lia
    intro h3 tk3 f tf kb3 P3 f3a f3b
    replace P3 := P3.le (show K + 2 + 1 ≤ K + 3 by lia)
    have F3 := led_kept kb3 G2 (fCm ⟨(let ⟨_, _, _, e, _⟩ := P3.ex; ⟨e.2.2, e.2.1⟩), fNm _⟩)
    have kc3 : Kept [L, pa] _ h3 := (ka2.mono fun b hb => (List.mem_singleton.mp hb) ▸ .head _).trans (kb3.mono fun b hb => (List.mem_singleton.mp hb) ▸ .tail _ (.head _))
    clear G2 N2
    have kq : Kept [L, pa] h₁ h3 := k2.trans kc3
    try dsimp only
    obtain ⟨rest, N, H⟩ := see F3 [] (fNm _)
    try dsimp only [List.nil_append, List.cons_append] at N
    walk_at "q0"
    repeat ((fail_if_success (with_reducible show wpAny _ _ (execs (Stmt.Assign [Expr.Name _ _] (Expr.Tuple _ _ _) _ :: _) _) _ _ _)); (fail_if_success (with_reducible show wpAny _ _ (subscriptTail _ _ (Value.ref _) (Value.int (Nat.cast _) _)) _ _ _)); (fail_if_success (with_reducible show wpAny _ _ (compareOp CmpOp.In _ (Value.ref _)) _ _ _)); (fail_if_success (with_reducible show wpAny _ _ (call (Value.ref _) _) _ _ _)); walk_at "q2")
    rename Fr _ _ _ _ => G3
    rename News _ _ _ _ => N3
    have ka3 : Kept [L] _ _ := seen H G3 (fun q m => (N3 q (by repeat (first | exact m | refine List.Mem.tail _ ?_))).1)
    have kz : Kept [L, pa] h₁ _ := kq.trans (ka3.mono fun b hb => (List.mem_singleton.mp hb) ▸ .head _)
    refine' law_tail (r := r) (bit := bit) (rits := rits) (rn := rn) K0 hroom hh hun KX T G3 rfl rfl rfl rfl rfl ⟨f3a, f3b⟩ hr (fun _ => hr4) hb (vrl.but kz (nm2 vrl.2.1 nrl.1.symm)) (by lia) nrl (P3.kept ka3) (by lia) ?_
    intro hZ tkZ mZ row FZ msZ mrZ kZ vrZ PZ RZ
    try dsimp only
    have k3 : Kept [L, pa, rl] h₁ hZ := (kz.mono (fCm ⟨.head _, fCm ⟨.tail _ (.head _), fNm _⟩⟩)).trans kZ
    have hLp : ∃ o, h₁.get? pa = some o ∧ o.cls ≠ .type "tuple" := let ⟨_, _, _, e, _⟩ := P.ex; ⟨_, e.1, fun q => by injection q with q; exact absurd q (by decide)⟩
    have hLr : ∃ o, h₁.get? rl = some o ∧ o.cls ≠ .type "tuple" := ⟨_, vrl.1, fun q => by injection q with q; exact absurd q (by decide)⟩
    refine ⟨_, _, rfl, ⟨⟨mZ, _, _, FZ, msZ, mrZ, vrZ, by rw [Array.size_push, hsz], fun j v hv => ?_⟩, vsl.but k3 (nm3 vsl.2.1 nsl.1 nsl.2), Ts.but k3 (fCm ⟨.inl rfl, fCm ⟨.inr (.tail _ (.head _)), fCm ⟨.inr (.head _), fNm _⟩⟩⟩), PZ.le (by lia)⟩, fCm ⟨fun o e => k3 _ _ e (nm3 nit.1 nit.2.1 nit.2.2), fNm _⟩⟩
    rw [Array.getElem?_push] at hv
    by_cases q : j = rits.size
    · rw [if_pos q] at hv
      cases hv
      exact RZ
    · rw [if_neg q] at hv
      exact (hrows j v hv).but k3 (fCm ⟨.inl rfl, fCm ⟨.inr hLp, fCm ⟨.inr hLr, fNm _⟩⟩⟩)
  · skip
    obtain ⟨rest, N, H⟩ := see F2 [] (fNm _)
    try dsimp only [List.nil_append, List.cons_append] at N
    walk_at "q0"
    repeat ((fail_if_success (with_reducible show wpAny _ _ (execs (Stmt.Assign [Expr.Name _ _] (Expr.Tuple _ _ _) _ :: _) _) _ _ _)); (fail_if_success (with_reducible show wpAny _ _ (subscriptTail _ _ (Value.ref _) (Value.int (Nat.cast _) _)) _ _ _)); (fail_if_success (with_reducible show wpAny _ _ (compareOp CmpOp.In _ (Value.ref _)) _ _ _)); (fail_if_success (with_reducible show wpAny _ _ (call (Value.ref _) _) _ _ _)); walk_at "q2")
    rename Fr _ _ _ _ => G4
    rename News _ _ _ _ => N4
    have ka4 : Kept [L] _ _ := seen H G4 (fun q m => (N4 q (by repeat (first | exact m | refine List.Mem.tail _ ?_))).1)
    have kz : Kept [L, pa] h₁ _ := k2.trans (ka4.mono fun b hb => (List.mem_singleton.mp hb) ▸ .head _)
    refine' law_tail (r := r) (bit := bit) (rits := rits) (rn := rn) K0 hroom hh hun KX T G4 rfl rfl rfl rfl rfl (by decide) hr (fun q => absurd rfl q) hb (vrl.but kz (nm2 vrl.2.1 nrl.1.symm)) (by lia) nrl (P2.kept ka4) (by lia) ?_
    intro hZ tkZ mZ row FZ msZ mrZ kZ vrZ PZ RZ
    try dsimp only
    have k3 : Kept [L, pa, rl] h₁ hZ := (kz.mono (fCm ⟨.head _, fCm ⟨.tail _ (.head _), fNm _⟩⟩)).trans kZ
    have hLp : ∃ o, h₁.get? pa = some o ∧ o.cls ≠ .type "tuple" := let ⟨_, _, _, e, _⟩ := P.ex; ⟨_, e.1, fun q => by injection q with q; exact absurd q (by decide)⟩
    have hLr : ∃ o, h₁.get? rl = some o ∧ o.cls ≠ .type "tuple" := ⟨_, vrl.1, fun q => by injection q with q; exact absurd q (by decide)⟩
    refine ⟨_, _, rfl, ⟨⟨mZ, _, _, FZ, msZ, mrZ, vrZ, by rw [Array.size_push, hsz], fun j v hv => ?_⟩, vsl.but k3 (nm3 vsl.2.1 nsl.1 nsl.2), Ts.but k3 (fCm ⟨.inl rfl, fCm ⟨.inr (.tail _ (.head _)), fCm ⟨.inr (.head _), fNm _⟩⟩⟩), PZ.le (by lia)⟩, fCm ⟨fun o e => k3 _ _ e (nm3 nit.1 nit.2.1 nit.2.2), fNm _⟩⟩
    rw [Array.getElem?_push] at hv
    by_cases q : j = rits.size
    · rw [if_pos q] at hv
      cases hv
      exact RZ
    · rw [if_neg q] at hv
      exact (hrows j v hv).but k3 (fCm ⟨.inl rfl, fCm ⟨.inr hLp, fCm ⟨.inr hLr, fNm _⟩⟩⟩)
end
section
local macro_rules | `(tactic| k_all) => `(tactic| assumption)
noncomputable def NoTup (h : Heap) (a : Addr) : Prop := ∃ o, h.get? a = some o ∧ o.cls ≠ .type "tuple"
theorem loop_rangeF {prog : Program} {w : World} {A : Around} {E : Value → Shared → Prop} {s : Shared} {env : Env} {Q : Flow → Shared → Prop} {body : List Stmt} {r : Addr} {n : Nat} {t u v : Tok} {x : Str} {px : Pos} (hh : A.handled = none) (hr : IsRange s.heap r 0 n 1 t u v) (hn : n < 1000) (J : Nat → Heap → Prop) (h0 : ∀ o, J 0 (s.heap.push o))
    (step : ∀ (i : Nat) t h h₁ tk₁, i < n → J i h → NoTup h s.heap.objs.size → Kept [s.heap.objs.size] h h₁ → Turn prog w A env (.Name x px) body Q E [s.heap.objs.size] s (J (i + 1)) (.int i t) h₁ tk₁)
    (done : ∀ h h₁ tk₁, J n h → NoTup h s.heap.objs.size → Kept [s.heap.objs.size] h h₁ → Q .next { s with heap := h₁, toks := tk₁ }) :
    wpAny (model prog w) A (pyIter (.ref r)) (fun it s₂ => LoopOwn prog w A env (.Name x px) body Q E it s₂) E s := by
  have hz : Builtin.Range.rangeSize 0 n 1 = (n : Int) := by rw [rangeSize_nat]; lia
  have nt : ∀ {h : Heap} {a b c : Int}, IsRangeIter h s.heap.objs.size a b c → NoTup h s.heap.objs.size := fun e => ⟨_, e, fun q => by injection q with q; exact absurd q (by decide)⟩
  refine wpAny_pyIter_range hr (small_one (by lia) (by lia) (by lia) (by lia)) ⟨_, _, _, _, _, _, fun i h => J i h ∧ NoTup h s.heap.objs.size, rfl, Walks.range hh s.heap.objs.size 0 1 n, ?_, ⟨h0 _, ⟨_, Heap.get?_push_size _ rfl, fun q => by injection q with q; exact absurd q (by decide)⟩⟩, fun i v s E' Q' st hq => go_name v s E' Q' hq, fun i v h h₁ tk₁ hi hP hJ hst k => ?_, fun h h₁ tk₁ hJ k => done h h₁ tk₁ hJ.1 hJ.2 k⟩
  · rw [hz]
    show Heap.get? _ _ = _
    rw [Heap.get?_push_size _ rfl]
    simp [rawInt]
  · obtain ⟨t, rfl⟩ := hP
    have e : (0 : Int) + (i : Int) * 1 = i := by lia
    rw [e]
    have tn := Turn.run (s := s) (s₂ := { s with heap := s.heap.push { cls := .type "range_iterator", data := .fields #[rawInt 0, rawInt (Builtin.Range.rangeSize 0 n 1), rawInt 1] } }) (fp := [s.heap.objs.size]) (St := fun h => NoTup h s.heap.objs.size ∧ IsRangeIter h s.heap.objs.size (0 + ((i + 1 : Nat) : Int) * 1) ((n : Int) - ((i + 1 : Nat) : Int)) 1) (fun _ _ => rfl) (fun h' kk => ⟨nt (kk _ (.head _) _ hst), kk _ (.head _) _ hst⟩) (step i t h h₁ tk₁ hi hJ.1 hJ.2 k)
    refine wpAny_mono tn (fun _ s₃ h₃ => wpAny_mono h₃ (fun f s₄ h₄ => ?_) fun _ _ e => e) fun _ _ e => e
    cases f with
    | ret v => exact h₄
    | brk => exact h₄
    | cont => obtain ⟨h'', tk'', e, j1, j2⟩ := h₄; exact ⟨h'', tk'', e, ⟨j1, j2.1⟩, j2.2⟩
    | next => obtain ⟨h'', tk'', e, j1, j2⟩ := h₄; exact ⟨h'', tk'', e, ⟨j1, j2.1⟩, j2.2⟩
theorem kept_push {h : Heap} {o : Obj} : Kept [] h (h.push o) := fun _ _ e _ => Heap.get?_push_of_some _ e
theorem RJ.move {h0 hc hc1 : Heap} {L pa ca sl rl it : Addr} {sits : Array Value} {sn i : Nat} (J : RJ h0 L pa ca sl rl it sits sn i hc) (k : Kept [it] hc hc1) (nt : NoTup hc it) (n1 : it ≠ L) (hn : h0.get? it = none) (n : pa ≠ it ∧ ca ≠ it ∧ L + 1 ≠ it ∧ rl ≠ it ∧ sl ≠ it) : RJ h0 L pa ca sl rl it sits sn i hc1 :=
  ⟨let ⟨m, rits, rn, F, a, b, c, d, e⟩ := J.ex; ⟨m, rits, rn, led_kept k F (fCm ⟨⟨hn, n1⟩, fNm _⟩), a, b, c.but k (nm1 n.2.2.2.1), d, fun j v hv => (e j v hv).but k (fCm ⟨.inr nt, fNm _⟩)⟩, J.sl_.but k (nm1 n.2.2.2.2), J.sts.but k (fCm ⟨.inr (.tail _ (.tail _ (.head _))), fNm _⟩), J.pur.but k ⟨nm1 n.1, nm1 n.2.1, nm1 n.2.2.1⟩⟩
theorem Sts.fn {h0 h : Heap} {L : Addr} {sits : Array Value} {S : List Addr} (T : Sts h0 L h sits 5 S) : ∃ st : Nat → List Int, ∀ r : Nat, r < 5 → ∃ il ins m, sits[r]? = some (.ref il) ∧ NA h0 L h il (PySem.W.listOf ins m) ∧ PyProof.Rows.IntsAre ins.toList (st r) ∧ (st r).length = widthAt r := by
  have z : ∀ r : Nat, ∃ lv : List Int, r < 5 → ∃ il ins m, sits[r]? = some (.ref il) ∧ NA h0 L h il (PySem.W.listOf ins m) ∧ PyProof.Rows.IntsAre ins.toList lv ∧ lv.length = widthAt r := fun r => by
    by_cases hr : r < 5
    · obtain ⟨il, ins, mm, lv, a, b, c, d, e⟩ := T.at_ r hr
      exact ⟨lv, fun _ => ⟨il, ins, mm, a, b, c, d⟩⟩
    · exact ⟨[], fun q => absurd q hr⟩
  exact ⟨fun r => (z r).choose, fun r => (z r).choose_spec⟩

set_option maxHeartbeats 16000000 in
theorem law_rows {w : World} {A : Around} {h0 : Heap} {s : Shared} {mean : ExcName → Option Value} {mg mb : Str → Option Value} {L fa : Addr} {cd : Value} {Q : Flow → Shared → Prop} {E : Value → Shared → Prop} {m : Str → Option Value} {pa ca sl : Addr} {sits : Array Value} {sn : Nat}
    (K0 : Below A h0 [] h0) (hroom : A.depth < 450) (hh : A.handled = none) (hun : A.units < 500) (KX : (Mine.hd.heap_39 w.params).In h0) (T : Top Mine.hd.view_39 (looseW Mine.hd.view_39 [Str.ofString "GateloomError"]) mean mg mb h0) (F : Fr h0 L s.heap m) (ms : m (Str.ofString "starts") = some (.ref sl)) (vsl : NA h0 L s.heap sl (PySem.W.listOf sits sn)) (Ts : Sts h0 L s.heap sits 5 [sl, pa]) (P0 : Pur h0 L s.heap pa ca 19) (nsl : pa ≠ sl ∧ ca ≠ sl ∧ L + 1 ≠ sl) (hE : PassesOwn (model PySem.Challenge.rw_sj0046_01.row.prog w) (A.deeper (lawEnv L fa cd)) (lawEnv L fa cd) E) (hQ : ∀ h' tk' m', Fr h0 L h' m' → Q (.ret (.bool true)) { s with heap := h', toks := tk' }) :
    wpAny (model PySem.Challenge.rw_sj0046_01.row.prog w) (A.deeper (lawEnv L fa cd)) (execs (hd.dLaw.body.drop 5) (lawEnv L fa cd)) Q E s := by
  refine hold fun gP kont => ?_
  obtain ⟨h, g, d, tt, os⟩ := s
  refine kont ?_
  clear kont gP
  have X' := KX
  have T' := T
  delta lawEnv
  have F0 := pin (x := Str.ofString "starts") (F) ms
  clear F
  refine hold fun gP kont => ?_
  obtain ⟨oc0, vc0, hoc0⟩ := P0.cell
  obtain ⟨kP, tP, nP, vP, _⟩ := P0.ex
  obtain ⟨cs, cn, lc, vC, _⟩ := P0.coins
  have eP : h.get? pa = some _ := vP.1
  have eC : h.get? ca = some _ := vC.1
  have e1 : h.get? (L + 1) = some _ := vc0.1
  have eS : h.get? sl = some _ := vsl.1
  obtain ⟨rest, N, H⟩ := see F0 [(L + 1, _)] (fCm ⟨vc0, fNm _⟩)
  refine kont ?_
  clear kont gP
  try dsimp only [List.nil_append, List.cons_append] at N
  try dsimp only
  walk_at "q0"
  repeat ((fail_if_success (with_reducible show wpAny _ _ (exec (Stmt.For _ _ _ _ _) _) _ _ _)); (fail_if_success (with_reducible show wpAny _ _ (subscriptTail _ _ (Value.ref _) (Value.int (Nat.cast _) _)) _ _ _)); (fail_if_success (with_reducible show wpAny _ _ (compareOp CmpOp.In _ (Value.ref _)) _ _ _)); (fail_if_success (with_reducible show wpAny _ _ (call (Value.ref _) _) _ _ _)); walk_at "q2")
  refine' For_own ?_ ?hs ?hE
  case hs => intro _; rfl
  case hE => exact hE
  k_steps
  rename Fr _ _ _ _ => G1
  rename News _ _ _ _ => N1
  rename_i rl hq1 l1q hq2
  have ka1 : Kept [L] _ _ := seen H G1 (fun q m => (N1 q (by repeat (first | exact m | refine List.Mem.tail _ ?_))).1)
  walk_at "q0"
  refine' wpAny_call (coin_pur (K := 19) (pushC K0 G1) ⟨_, K0⟩ KX T ?z1 (P0.kept ka1) ?z2 (show (0 : Int) < 8 by decide) ?_)
  case z1 => exact roomD hroom (by decide)
  case z2 => lia
  have l1 := (by assumption : _ ∧ AllLt _ rest)
  have vrl := NA.of N1 (.head _)
  have frl : h.get? _ = none := fresh_mut H List.not_mem_nil vrl l1.2
  intro h2 tk2 r1 t1 kb2 P2 r1a r1b
  have F2 := led_kept kb2 G1 (fCm ⟨(let ⟨_, _, _, e, _⟩ := P2.ex; ⟨e.2.2, e.2.1⟩), fNm _⟩)
  have kc2 : Kept [L, pa] h h2 := (ka1.mono fun b hb => (List.mem_singleton.mp hb) ▸ .head _).trans (kb2.mono fun b hb => (List.mem_singleton.mp hb) ▸ .tail _ (.head _))
  have npr : pa ≠ _ := (ne_none frl eP).symm
  have vrl2 := vrl.but kb2 (nm1 npr.symm)
  clear G1 N1
  refine hold fun gP kont => ?_
  obtain ⟨r, rfl⟩ := Int.eq_ofNat_of_zero_le r1a
  obtain ⟨rest, N, H⟩ := see F2 [] (fNm _)
  refine kont ?_
  clear kont gP
  try dsimp only [List.nil_append, List.cons_append] at N
  try dsimp only
  k_steps
  have hrg := (by assumption : IsRange _ _ _ _ _ _ _ _)
  rename Fr _ _ _ _ => FY
  rename News _ _ _ _ => NY
  rename Heap => hY
  have kY : Kept [L] h2 hY := seen H FY (fun q m => (NY q (by repeat (first | exact m | refine List.Mem.tail _ ?_))).1)
  have hFY := Hid.mk FY
  have PY := P2.kept kY
  have vrlY := vrl2.kept kY
  have kaY : Kept [L, pa] h _ := kc2.trans (kY.mono fun b hb => (List.mem_singleton.mp hb) ▸ .head _)
  have vslY := vsl.but kaY (nm2 vsl.2.1 nsl.1.symm)
  have nrl_ : (pa ≠ _ ∧ ca ≠ _ ∧ L + 1 ≠ _) := ⟨npr, (ne_none frl eC).symm, (ne_none frl e1).symm⟩
  have nslr : sl ≠ _ := (ne_none frl eS).symm
  have e9 : (1 : Int) + (r : Int) = ((1 + r : Nat) : Int) := by lia
  rw [e9] at hrg
  have hr8 : r < 8 := by lia
  have T5 : ∀ it : Addr, (∀ b o, h.get? b = some o → b ≠ L → b ≠ pa → b ≠ it) → Sts h0 L hY sits 5 [rl, pa, it] := fun it off => ⟨Ts.sz, fun r hr => let ⟨il, ins, mm, lv, a, b, c, d, e⟩ := Ts.at_ r hr; ⟨il, ins, mm, lv, a, b.but kaY (nm2 b.2.1 fun q => e (q ▸ .tail _ (.head _))), c, d, nm3 (ne_none frl b.1).symm (fun q => e (q ▸ .tail _ (.head _))) (off _ _ b.1 b.2.1 fun q => e (q ▸ .tail _ (.head _)))⟩⟩
  have oldY : ∀ b o, h.get? b = some o → b ≠ L → b ≠ pa → b ≠ hY.objs.size := fun b o e n1 n2 => Nat.ne_of_lt (Heap.lt_size (kaY b o e (nm2 n1 n2)))
  have itL : hY.objs.size ≠ L := turn_ne hFY.get
  have itN : h0.get? hY.objs.size = none := next_is_new hFY.get
  have itO : pa ≠ hY.objs.size ∧ ca ≠ hY.objs.size ∧ L + 1 ≠ hY.objs.size ∧ rl ≠ hY.objs.size ∧ sl ≠ hY.objs.size := ⟨(let ⟨_, _, _, e, _⟩ := PY.ex; Nat.ne_of_lt (Heap.lt_size e.1)), (let ⟨_, _, _, e, _⟩ := PY.coins; Nat.ne_of_lt (Heap.lt_size e.1)), (let ⟨_, e, _⟩ := PY.cell; Nat.ne_of_lt (Heap.lt_size e.1)), Nat.ne_of_lt (Heap.lt_size vrlY.1), Nat.ne_of_lt (Heap.lt_size vslY.1)⟩
  clear FY NY
  refine' loop_rangeF (n := 1 + r) (show (A.deeper _).handled = none from hh) hrg (by lia) (fun i hx => RJ h0 L pa ca sl rl hY.objs.size sits sn i hx) ?h0 ?step ?done
  case h0 =>
    intro o
    exact ⟨⟨_, _, _, hFY.get.push o, rfl, rfl, vrlY.but kept_push List.not_mem_nil, rfl, fun j v hv => absurd hv (by simp)⟩, vslY.but kept_push List.not_mem_nil, (T5 _ oldY).but kept_push (fNm _), (PY.but kept_push ⟨List.not_mem_nil, List.not_mem_nil, List.not_mem_nil⟩).le (by lia)⟩
  case step =>
    intro i t hc hc1 tkc hi J hnt kI
    refine hold fun gP kont => ?_
    obtain ⟨⟨m', rits, rn, Fc, a, b, c, dd, e⟩, vs, Ts', P'⟩ := J.move kI hnt itL itN itO
    refine kont ?_
    clear kont gP
    exact law_turn K0 hroom hh hun KX T Fc a b c dd (by lia) e vs Ts' P' nrl_ ⟨nsl.1.symm, nslr⟩ ⟨itL, itO.1.symm, itO.2.2.2.1.symm⟩
  case done =>
    intro hc hc1 tkc J hnt kI
    refine hold fun gP kont => ?_
    obtain ⟨⟨m', rits, rn, Fc, a, b, c, dd, e⟩, vs, Ts', P'⟩ := J.move kI hnt itL itN itO
    refine kont ?_
    clear kont gP
    try dsimp only
    have Fd := pin (x := Str.ofString "rows") (pin (x := Str.ofString "starts") (Fc) a) ((if_neg (by decide)).trans b)
    clear Fc
    obtain ⟨rest, N, H⟩ := see Fd [] (fNm _)
    try dsimp only [List.nil_append, List.cons_append] at N
    k_steps
    rename Fr _ _ _ _ => G5
    rename News _ _ _ _ => N5
    have k5 : Kept [L] hc1 _ := seen H G5 (fun q m => (N5 q (by repeat (first | exact m | refine List.Mem.tail _ ?_))).1)
    have T6 := Ts'.but k5 (fCm ⟨.inl rfl, fNm _⟩)
    obtain ⟨st, hst⟩ := T6.fn
    have vrl5 := c.kept k5
    have vsl5 := vs.kept k5
    walk_at "q0"
    refine' wpAny_call (case_spec (st := st) (pushC K0 G5) KX T ?z1 ?z2 ?z3 vrl5.1 (NA.ownC vrl5 K0) (by lia) ?hrows vsl5.1 (NA.ownC vsl5 K0) ?hst ?_)
    case z1 => exact roomD hroom (by decide)
    case z2 => exact hh
    case z3 => exact roomU hun (by decide)
    case hrows => exact fun g' L' hg' hL' j v hv => ((e j v hv).but k5 (fCm ⟨.inl rfl, fNm _⟩)).at K0 hg' hL'
    case hst => exact fun r hr => let ⟨il, ins, mm, q1, q2, q3, q4⟩ := hst r hr; ⟨il, ins, mm, q1, q2.1, q3, q4, NA.ownC q2 K0⟩
    intro h7 tk7 k7 fu7
    try dsimp only
    exact hQ _ _ _ ⟨let ⟨o, es, ep, ho, r⟩ := G5.ns; let ⟨sl, e⟩ := fu7 L (.head _) o ho; ⟨_, es, ep, e, r⟩, fun b o e => k7 b o (G5.keep b o e) (nm1 fun q => by rw [q, Heap.get?_none_of_le G5.above] at e; cases e), G5.above⟩
end
section
local macro_rules | `(tactic| k_all) => `(tactic| assumption)
theorem off1_mem {D : Addr} : ∀ {l : List (Addr × Obj)}, LCg.Off1 D l → ∀ p ∈ l, p.1 ≠ D
  | [], _, _, m => absurd m List.not_mem_nil
  | _ :: _, h, _, m => by
    rcases List.mem_cons.mp m with rfl | m
    · exact h.1
    · exact off1_mem h.2 _ m
noncomputable def NamesN (hb h : Heap) (a : Addr) : Prop := ∃ arr n, h.get? a = some (PySem.W.listOf arr n) ∧ arr.size = 5 ∧ ∀ r : Nat, r < 5 → ∃ l its m, arr[r]? = some (.ref l) ∧ h.get? l = some (PySem.W.listOf its m) ∧ its.size = widthAt r ∧ hb.get? l = none
set_option maxHeartbeats 4000000 in
theorem names_new {w : World} {A : Around} {s : Shared} {base : Heap} {outer : List Env} {mean : ExcName → Option Value} {mg mb : Str → Option Value} {R : Result → Shared → Prop}
    (B : Below A base outer s.heap) (XB : (Mine.hd.heap_39 w.params).In base) (TB : Top Mine.hd.view_39 (looseW Mine.hd.view_39 [Str.ofString "GateloomError"]) mean mg mb base) (hroom : A.depth < 650)
    (hR : ∀ h' tk a, Kept [] s.heap h' → s.heap.get? a = none → NamesN s.heap h' a → R (.ok (.ret (.ref a))) { s with heap := h', toks := tk }) :
    codeAny (model PySem.Challenge.rw_sj0046_01.row.prog w) A (.call (.ref 341) ⟨[], []⟩) R s := by
  refine hold fun gP kont => ?_
  obtain ⟨h, g, d, tt, os⟩ := s
  refine kont ?_
  clear kont gP
  refine' enter (binds := []) [] B XB TB ?q1 ?q2 ?q3 ?k6 ?k7 ?k8 ?k9 ?kB ?_ ?c2 ?c3 ?c4 ?c5
  case k8 => exact Nat.lt_of_lt_of_le hroom (by decide)
  tb_start
  case q1 => exact fNm _
  case q2 => exact fNm _
  case q3 => exact fun _ _ => fNm _
  intro gg L h₁ hg1 hg2 hL F N B' X' T'
  try dsimp only
  k_steps
  rename Fr _ _ _ _ => F4
  rename News _ _ _ _ => N4
  have fr : ∀ {q : Addr × Obj}, q ∈ _ → h.get? q.1 = none := fun m => fresh_end hg1 (N4 _ m).2.2 (fNm _)
  refine hR _ _ _ (kept_end hg1 F4.keep (fNm _)) (fr (.head _)) ⟨_, _, (N4 _ (.head _)).1, rfl, lt5 ?_ ?_ ?_ ?_ ?_⟩
  · exact ⟨_, _, _, rfl, (N4 _ (.tail _ (.tail _ (.tail _ (.tail _ (.tail _ (.head _))))))).1, rfl, fr (.tail _ (.tail _ (.tail _ (.tail _ (.tail _ (.head _))))))⟩
  · exact ⟨_, _, _, rfl, (N4 _ (.tail _ (.tail _ (.tail _ (.tail _ (.head _)))))).1, rfl, fr (.tail _ (.tail _ (.tail _ (.tail _ (.head _)))))⟩
  · exact ⟨_, _, _, rfl, (N4 _ (.tail _ (.tail _ (.tail _ (.head _))))).1, rfl, fr (.tail _ (.tail _ (.tail _ (.head _))))⟩
  · exact ⟨_, _, _, rfl, (N4 _ (.tail _ (.tail _ (.head _)))).1, rfl, fr (.tail _ (.tail _ (.head _)))⟩
  · exact ⟨_, _, _, rfl, (N4 _ (.tail _ (.head _))).1, rfl, fr (.tail _ (.head _))⟩

set_option maxHeartbeats 16000000 in
theorem law_starts {w : World} {A : Around} {h0 : Heap} {s : Shared} {mean : ExcName → Option Value} {mg mb : Str → Option Value} {L fa : Addr} {cd : Value} {Q : Flow → Shared → Prop} {E : Value → Shared → Prop} {m : Str → Option Value} {pa ca sl : Addr}
    (K0 : Below A h0 [] h0) (hroom : A.depth < 450) (hh : A.handled = none) (hun : A.units < 500) (KX : (Mine.hd.heap_39 w.params).In h0) (T : Top Mine.hd.view_39 (looseW Mine.hd.view_39 [Str.ofString "GateloomError"]) mean mg mb h0) (F : Fr h0 L s.heap m) (ms : m (Str.ofString "starts") = some (.ref sl)) (vsl : NA h0 L s.heap sl (PySem.W.listOf #[] 0)) (nsl : pa ≠ sl ∧ ca ≠ sl ∧ L + 1 ≠ sl) (P : Pur h0 L s.heap pa ca (-1)) (hE : PassesOwn (model PySem.Challenge.rw_sj0046_01.row.prog w) (A.deeper (lawEnv L fa cd)) (lawEnv L fa cd) E) (hQ : ∀ h' tk' m', Fr h0 L h' m' → Q (.ret (.bool true)) { s with heap := h', toks := tk' }) :
    wpAny (model PySem.Challenge.rw_sj0046_01.row.prog w) (A.deeper (lawEnv L fa cd)) (execs (hd.dLaw.body.drop 4) (lawEnv L fa cd)) Q E s := by
  refine hold fun gP kont => ?_
  obtain ⟨h, g, d, tt, os⟩ := s
  refine kont ?_
  clear kont gP
  have X' := KX
  have T' := T
  delta lawEnv
  have hF := Hid.mk F
  obtain ⟨rest, N, H⟩ := see F [] (fNm _)
  try dsimp only [List.nil_append, List.cons_append] at N
  try dsimp only
  walk_at "q0"
  repeat ((fail_if_success (with_reducible show wpAny _ _ (exec (Stmt.For _ _ _ _ _) _) _ _ _)); (fail_if_success (with_reducible show wpAny _ _ (subscriptTail _ _ (Value.ref _) (Value.int (Nat.cast _) _)) _ _ _)); (fail_if_success (with_reducible show wpAny _ _ (compareOp CmpOp.In _ (Value.ref _)) _ _ _)); (fail_if_success (with_reducible show wpAny _ _ (call (Value.ref _) _) _ _ _)); walk_at "q2")
  refine' For_own ?_ ?hs ?hE
  case hs => intro _; rfl
  case hE => exact hE
  k_steps
  walk_at "q0"
  refine' wpAny_call (names_new (pushC K0 F) KX T ?z1 ?_)
  case z1 => exact roomD hroom (by decide)
  intro h3 tk3 na k3 fna hPat5
  obtain ⟨arr, an, ena, asz, hnm⟩ := hPat5
  have F3 := led_kept k3 F (fNm _)
  have vna : NA h0 L h3 na _ := NA.ofNew F fna ena
  have hF3 := Hid.mk F3
  obtain ⟨oc, vc, hoc⟩ := P.cell
  have ec : ∃ o, h.get? (L + 1) = some o := ⟨_, vc.1⟩
  have ep : ∃ o, h.get? pa = some o := let ⟨_, _, _, e, _⟩ := P.ex; ⟨_, e.1⟩
  have ea : ∃ o, h.get? ca = some o := let ⟨_, _, _, e, _⟩ := P.coins; ⟨_, e.1⟩
  have new_ : ∀ {x y : Addr}, h.get? x = none → (∃ o, h.get? y = some o) → x ≠ y := fun n ⟨_, e⟩ => ne_none n e
  have old3 : ∀ {y : Addr}, (∃ o, h.get? y = some o) → y ≠ h3.objs.size := fun ⟨_, e⟩ => Nat.ne_of_lt (Heap.lt_size (k3.get e))
  clear N F
  try dsimp only
  refine' loop_listE (show (A.deeper _).handled = none from hh) (listAt vna.1) (fun i hc => ∃ m sits sn, Fr h0 L hc m ∧ m (Str.ofString "starts") = some (.ref sl) ∧ NA h0 L hc sl (PySem.W.listOf sits sn) ∧ Sts h0 L hc sits i [sl, pa, h3.objs.size] ∧ Pur h0 L hc pa ca (-1 + 4 * i) ∧ ∀ r : Nat, r < 5 → ∃ l its mm, arr[r]? = some (.ref l) ∧ NA h0 L hc l (PySem.W.listOf its mm) ∧ its.size = widthAt r ∧ h.get? l = none ∧ l ≠ h3.objs.size) ?h0 ?step ?done
  case h0 =>
    have kp : Kept [] h3 (h3.push (itObj na)) := fun b x e _ => Heap.get?_push_of_some _ e
    exact ⟨_, _, _, hF3.get.push _, ms, ⟨kp.get (k3.get vsl.1), vsl.2⟩, ⟨rfl, fun r hr => absurd hr (Nat.not_lt_zero _)⟩, (P.but k3 ⟨List.not_mem_nil, List.not_mem_nil, List.not_mem_nil⟩).but kp ⟨List.not_mem_nil, List.not_mem_nil, List.not_mem_nil⟩, fun r hr => let ⟨l, its, mm, a, b, c, d⟩ := hnm r hr; ⟨l, its, mm, a, (NA.ofNew hF.get d b).but kp List.not_mem_nil, c, d, Nat.ne_of_lt (Heap.lt_size b)⟩⟩
  case done =>
    intro hc hc1 tkc hPat3 hit kI
    obtain ⟨m', sits, sn, Fc, mc, vs, Ts, Pc, nmc⟩ := hPat3
    rw [asz] at Ts Pc
    have FD := turn_fr hF3.get Fc kI
    have vsD := vs.but kI (nm1 (old3 ⟨_, vsl.1⟩))
    have PD := Pc.but kI ⟨nm1 (old3 ep), nm1 (old3 ea), nm1 (old3 ec)⟩
    have TD := Ts.but kI (fun x hx => .inr (by rw [List.mem_singleton.mp hx]; exact .tail _ (.tail _ (.head _))))
    have TE : Sts h0 L hc1 sits 5 [sl, pa] := ⟨TD.sz, fun r hr => let ⟨il, ins, mm, lv, a, b, c, d, e⟩ := TD.at_ r hr; ⟨il, ins, mm, lv, a, b, c, d, fun q => e (by rcases List.mem_cons.mp q with q | q; exact q ▸ .head _; exact (List.mem_singleton.mp q) ▸ .tail _ (.head _))⟩⟩
    try dsimp only
    exact law_rows K0 hroom hh hun KX T FD mc vsD TE (PD.le (by lia)) nsl hE hQ
  case step =>
    intro i v hc hc1 tkc hv hPat6 hit hit1 kI
    obtain ⟨m', sits, sn, Fc, mc, vs, Ts, Pc, nmc⟩ := hPat6
    have hi : i < 5 := by
      rcases Nat.lt_or_ge i 5 with q | q
      · exact q
      · rw [Array.getElem?_eq_none (by lia)] at hv; cases hv
    refine hold fun gP kont => ?_
    obtain ⟨ln, nits, nn, enl, vln, nsz, fln, nlit⟩ := nmc i hi
    rw [enl] at hv
    obtain rfl := Option.some.inj hv
    have F4 := turn_fr hF3.get Fc kI
    have hIL := turn_ne hF3.get
    have vs4 := vs.but kI (nm1 (old3 ⟨_, vsl.1⟩))
    have P4 := Pc.but kI ⟨nm1 (old3 ep), nm1 (old3 ea), nm1 (old3 ec)⟩
    have vln4 := vln.but kI (nm1 nlit)
    have T4 := Ts.but kI (fun x hx => .inr (by rw [List.mem_singleton.mp hx]; exact .tail _ (.tail _ (.head _))))
    have nm4 : ∀ r : Nat, r < 5 → ∃ l its mm, arr[r]? = some (.ref l) ∧ NA h0 L hc1 l (PySem.W.listOf its mm) ∧ its.size = widthAt r ∧ h.get? l = none ∧ l ≠ _ := fun r hr => let ⟨l, its, mm, a, b, c, d, e⟩ := nmc r hr; ⟨l, its, mm, a, b.but kI (nm1 e), c, d, e⟩
    obtain ⟨k, tk0, pn, vp, hk1, hk2⟩ := P4.ex
    obtain ⟨cs, cn, lc, va, hci, hcl⟩ := P4.coins
    obtain ⟨oc4, vc4, hoc4⟩ := P4.cell
    refine kont ?_
    clear kont gP
    have hF4 := Hid.mk F4
    clear Fc
    replace F4 := pin F4 mc
    unfold Turn
    have nPS : @Ne Nat pa sl := nsl.1
    have nAS : @Ne Nat ca sl := nsl.2.1
    have nCS : @Ne Nat (L + 1) sl := nsl.2.2
    have nLP : @Ne Nat ln pa := new_ fln ep
    have nLS : @Ne Nat ln sl := new_ fln ⟨_, vsl.1⟩
    have nPC : @Ne Nat pa ca := P4.ne.1
    have nP1 : @Ne Nat pa (L + 1) := P4.ne.2.1
    have nC1 : @Ne Nat ca (L + 1) := P4.ne.2.2
    have sz5 : sits.size < 1000 := by (have := Ts.sz; lia)
    refine hold fun gP kont => ?_
    obtain ⟨rest, N, hrx, H⟩ := see_mut F4 [(L + 1, _), (ca, _), (ln, _)] [(pa, _), (sl, _)] (fCm ⟨vc4, fCm ⟨va, fCm ⟨vln4, fNm _⟩⟩⟩) (fCm ⟨vp, fCm ⟨vs4, fNm _⟩⟩)
    refine kont ?_
    clear kont gP
    try dsimp only [List.nil_append, List.cons_append] at N
    have hrp : ∀ q ∈ rest, q.1 ≠ pa := hrx _ (.head _)
    have hrs : ∀ q ∈ rest, q.1 ≠ sl := hrx _ (.tail _ (.head _))
    clear hrx
    walk_at "q0"
    repeat ((fail_if_success (with_reducible show LCg.CompSrc _ _ _ _ _ _ _ _ _ _ _ _ _ _)); (fail_if_success (with_reducible show wpAny _ _ (subscriptTail _ _ (Value.ref _) (Value.int (Nat.cast _) _)) _ _ _)); (fail_if_success (with_reducible show wpAny _ _ (compareOp CmpOp.In _ (Value.ref _)) _ _ _)); (fail_if_success (with_reducible show wpAny _ _ (call (Value.ref _) _) _ _ _)); walk_at "q2")
    rename Fr _ _ _ _ => F5
    rename News _ _ _ _ => N5
    have N6 : News h0 L _ ((pa, _) :: (L + 1, _) :: (ca, _) :: (ln, _) :: (sl, _) :: rest) := fCm ⟨N5 _ (.tail _ (.tail _ (.tail _ (.head _)))), fCm ⟨N5 _ (.head _), fCm ⟨N5 _ (.tail _ (.head _)), fCm ⟨N5 _ (.tail _ (.tail _ (.head _))), fCm ⟨N5 _ (.tail _ (.tail _ (.tail _ (.tail _ (.head _))))), fun q hq => N5 q (.tail _ (.tail _ (.tail _ (.tail _ (.tail _ hq)))))⟩⟩⟩⟩⟩
    have hw4 := widthAt_le i
    refine' LCg.CompSrc.ledger (show (A.deeper _).handled = none from hh) F5 N6 (.tail _ (.tail _ (.tail _ (.head _)))) ?csz ?_
    case csz => exact Nat.le_trans (Nat.le_of_eq nsz) (Nat.le_trans hw4 (Nat.le_of_ble_eq_true rfl))
    intro gC
    refine' coins_rest (K := k + 4) K0 hroom hh hun KX T hoc4 hci hcl P4.ne ?hop ?hK ?hFin nits.size 0 [] [] k tk0 pn (Nat.zero_add _) .nil hk1 ?hk
    case hK => lia
    case hk => lia
    case hop => exact fCm ⟨P4.ne.2.1.symm, fCm ⟨P4.ne.1.symm, fCm ⟨nLP, fCm ⟨nsl.1.symm, hrp⟩⟩⟩⟩
    case hFin =>
      intro ys l k2 t2 n2 hyl hyi hk3 hk4
      unfold LCg.FinE
      intro D h7 tk7 F7 N7 o7
      have off := off1_mem o7
      have nDS : @Ne Nat D sl := Ne.symm (off _ (.tail _ (.tail _ (.tail _ (.tail _ (.head _))))))
      have nDP : D ≠ pa := Ne.symm (off _ (.head _))
      have hF7 := Hid.mk F7
      have hOff := Hid.mk off
      clear F5 N5 N6 off o7
      try dsimp only
      k_steps
      rename Fr _ _ _ _ => F8
      rename News _ _ _ _ => N8
      have kE : Kept [L, pa, sl] hc1 _ := seen_mut H F8 (fun q m => (N8 q (by repeat (first | exact m | refine List.Mem.tail _ ?_))).1)
      have itP : h3.objs.size ≠ pa := (old3 ep).symm
      have itS : h3.objs.size ≠ sl := (old3 ⟨_, vsl.1⟩).symm
      have nDI : D ≠ h3.objs.size := by
        obtain ⟨oi, ei, _⟩ := hit1
        exact (hOff.get _ (.tail _ (.tail _ (.tail _ (.tail _ (.tail _ (H.get.1 _ oi ei hIL (next_is_new hF3.get) (nm2 itP itS)))))))).symm
      try dsimp only
      have z := PyProof.Rows.IntsAre.length hyi
      have tz := T4.sz
      refine ⟨_, _, rfl, ⟨_, _, _, F8, rfl, N8 _ (.tail _ (.tail _ (.tail _ (.tail _ (.tail _ (.head _)))))), ⟨by rw [Array.size_push, tz], fun r hr => ?_⟩, ⟨⟨k2, t2, n2, N8 _ (.tail _ (.head _)), hk3, by lia⟩, ⟨cs, cn, lc, N8 _ (.tail _ (.tail _ (.tail _ (.head _)))), hci, hcl⟩, ⟨oc4, N8 _ (.tail _ (.tail _ (.head _))), hoc4⟩, P4.ne⟩, fun r hr => let ⟨l, its, mm, a, b, c, d, e⟩ := nm4 r hr; ⟨l, its, mm, a, b.but kE (nm3 b.2.1 (new_ d ep) (new_ d ⟨_, vsl.1⟩)), c, d, e⟩⟩, fCm ⟨fun o e => kE _ _ e (nm3 hIL itP itS), fCm ⟨fun o e => kE _ _ e (nm3 vna.2.1 (new_ fna ep) (new_ fna ⟨_, vsl.1⟩)), fNm _⟩⟩⟩
      rcases Nat.lt_succ_iff_lt_or_eq.mp hr with q | q
      · obtain ⟨il, ins, mm, lv, a, b, c, d, e⟩ := (T4.but kE (fCm ⟨.inl rfl, fCm ⟨.inr (.tail _ (.head _)), fCm ⟨.inr (.head _), fNm _⟩⟩⟩)).at_ r q
        exact ⟨il, ins, mm, lv, by rw [Array.getElem?_push, if_neg (by lia)]; exact a, b, c, d, e⟩
      · subst q
        exact ⟨D, ys.toArray, ys.length, l, by rw [Array.getElem?_push, if_pos (by lia)], N8 _ (.head _), hyi, by lia, nm3 nDS nDP nDI⟩
end
theorem gen_toks {M : Model} {α : Type} {A : Around} {t : Sem α} {Q : α → Shared → Prop} {E : Value → Shared → Prop} {hp : Heap} {g : Array GenState} {d : Drawn} {n : Nat} {os : OsState} (h : ∀ n, wpAny M A t Q E { heap := hp, gens := g, drawn := d, toks := n, os := os }) : wpAny M A t Q E { heap := hp, gens := g, drawn := d, toks := n, os := os } := h n
theorem rows_of {g h : Heap} {L a : Addr} {its : Array Value} {n : Nat} {P : Value → Prop} (_v : NA g L h a (PySem.W.listOf its n)) (hh : ∀ (i : Nat) v, its[i]? = some v → P v) : ∀ (i : Nat) v, its[i]? = some v → P v := hh
set_option maxHeartbeats 16000000 in
theorem law_body {w : World} {A : Around} {h0 : Heap} {s : Shared} {mean : ExcName → Option Value} {mg mb : Str → Option Value} {L fa sa : Addr} {cd : Value} {Q : Flow → Shared → Prop} {E : Value → Shared → Prop} {m : Str → Option Value} {oc : Obj} {vs : List Value} {l : List Int}
    (K0 : Below A h0 [] h0) (hroom : A.depth < 450) (hh : A.handled = none) (hun : A.units < 500) (KX : (Mine.hd.heap_39 w.params).In h0) (T : Top Mine.hd.view_39 (looseW Mine.hd.view_39 [Str.ofString "GateloomError"]) mean mg mb h0) (hL : h0.IsList sa vs.toArray) (hI : PyProof.Rows.IntsAre vs l) (hlen : l.length < 64)
    (F : Fr h0 L s.heap m) (hm : m (Str.ofString "script") = some (.ref sa)) (N0 : News h0 L s.heap [(L + 1, oc)]) (d1 : oc.data = .cell none) (hE : PassesOwn (model PySem.Challenge.rw_sj0046_01.row.prog w) (A.deeper (lawEnv L fa cd)) (lawEnv L fa cd) E) (hQ : ∀ h' tk' m', Fr h0 L h' m' → Q (.ret (.bool true)) { s with heap := h', toks := tk' }) :
    wpAny (model PySem.Challenge.rw_sj0046_01.row.prog w) (A.deeper (lawEnv L fa cd)) (execs hd.dLaw.body (lawEnv L fa cd)) Q E s := by
  refine hold fun gP kont => ?_
  obtain ⟨h, g, d, tt, os⟩ := s
  refine kont ?_
  clear kont gP
  have X' := KX
  have T' := T
  replace F := pin F hm
  delta lawEnv
  try dsimp only
  k_steps
  walk_at "q0"
  refine' wpAny_call (purse_spec (pushC K0 F) KX T ?z1 ?z2 ?z3 hL hI hlen ?_)
  case z1 => exact roomD hroom (by decide)
  case z2 => exact roomU hun (by decide)
  case z3 => exact hh
  intro h1 tk1 pa ca cs cn lc n1 t1 k1 fpa fca epa eca hci hcl nac
  have F1 := led_kept k1 F (fNm _)
  have vc1 : NA h0 L h1 (L + 1) oc := ⟨k1.get (N0 _ (.head _)).1, (N0 _ (.head _)).2⟩
  have vp1 : NA h0 L h1 pa _ := NA.ofNew F fpa epa
  have va1 : NA h0 L h1 ca _ := NA.ofNew F fca eca
  have q1 : @Ne Nat pa ca := nac
  have q2 : @Ne Nat pa (L + 1) := ne_none fpa (N0 _ (.head _)).1
  have q3 : @Ne Nat ca (L + 1) := ne_none fca (N0 _ (.head _)).1
  have N1 : News h0 L h1 [(pa, PySem.W.listOf #[.ref ca, .int (-1) t1] n1), (ca, PySem.W.listOf cs cn), (L + 1, oc)] := fCm ⟨vp1, fCm ⟨va1, fCm ⟨vc1, fNm _⟩⟩⟩
  clear F N0
  try dsimp only
  walk_at "q0"
  repeat ((fail_if_success (with_reducible show wpAny _ _ (execs (Stmt.If _ _ _ _ :: _) _) _ _ _)); walk_at "q2")
  rename Fr _ _ _ _ => Fa
  rename News _ _ _ _ => Na
  have dca := (by assumption : Obj.data _ = Data.cell (some (Value.ref pa)))
  have vfix := NA.of Na (.head _)
  have vpa : NA h0 L _ pa (PySem.W.listOf #[.ref ca, .int (-1) t1] n1) := NA.of Na (by repeat (first | exact List.Mem.head _ | refine List.Mem.tail _ ?_))
  have vca : NA h0 L _ ca (PySem.W.listOf cs cn) := NA.of Na (by repeat (first | exact List.Mem.head _ | refine List.Mem.tail _ ?_))
  have vcc : NA h0 L _ (L + 1) _ := NA.of Na (by repeat (first | exact List.Mem.head _ | refine List.Mem.tail _ ?_))
  have hN := rows_of (P := RowN h0 L _) vfix (at6 (.flop (r := 0) (bit := 2) (pl := [2, 3, 0, 0]) (NA.of Na (by repeat (first | exact List.Mem.head _ | refine List.Mem.tail _ ?_))) (NA.of Na (by repeat (first | exact List.Mem.head _ | refine List.Mem.tail _ ?_))) (by repeat (first | exact .nil | refine .cons _ _ ?_)) (by decide) (by decide)) (.latch (r := 2) (bit := 0) (pl := [4, 5, 0, 0]) (NA.of Na (by repeat (first | exact List.Mem.head _ | refine List.Mem.tail _ ?_))) (NA.of Na (by repeat (first | exact List.Mem.head _ | refine List.Mem.tail _ ?_))) (by repeat (first | exact .nil | refine .cons _ _ ?_)) (by decide) (by decide)) (.net (r := 2) (bit := 0) (NA.of Na (by repeat (first | exact List.Mem.head _ | refine List.Mem.tail _ ?_))) (by decide) (by decide)) (.flop (r := 0) (bit := 2) (pl := [2, 7, 0, 0]) (NA.of Na (by repeat (first | exact List.Mem.head _ | refine List.Mem.tail _ ?_))) (NA.of Na (by repeat (first | exact List.Mem.head _ | refine List.Mem.tail _ ?_))) (by repeat (first | exact .nil | refine .cons _ _ ?_)) (by decide) (by decide)) (.latch (r := 3) (bit := 1) (pl := [4, 5, 3, 0]) (NA.of Na (by repeat (first | exact List.Mem.head _ | refine List.Mem.tail _ ?_))) (NA.of Na (by repeat (first | exact List.Mem.head _ | refine List.Mem.tail _ ?_))) (by repeat (first | exact .nil | refine .cons _ _ ?_)) (by decide) (by decide)) (.net (r := 3) (bit := 1) (NA.of Na (by repeat (first | exact List.Mem.head _ | refine List.Mem.tail _ ?_))) (by decide) (by decide)))
  obtain ⟨rest, N, H⟩ := see Fa [(_, PySem.W.listOf _ _), (pa, _), (ca, _), (L + 1, _)] (fCm ⟨vfix, fCm ⟨vpa, fCm ⟨vca, fCm ⟨vcc, fNm _⟩⟩⟩⟩)
  try dsimp only [List.nil_append, List.cons_append] at N
  clear Na
  try dsimp only
  refine gen_toks fun tkN => ?_
  k_steps
  rename Fr _ _ _ _ => F2
  rename News _ _ _ _ => N2
  have k2 : Kept [L] _ _ := seen H F2 (fun q m => (N2 q (by repeat (first | exact m | refine List.Mem.tail _ ?_))).1)
  have dc2 := dca
  have K2 := pushC (name := hd.dLaw.name) (scope := hd.dLaw.scope) (a := fa) (cd := cd) K0 F2
  walk_at "q0"
  refine' wpAny_call (case_spec (st := fun r => [[0, 0, 1, 0], [0, 0], [1], [0, 1, 0], [0, 0]].getD r []) K2 KX T ?z1 ?z2 ?z3 (vfix.kept k2).1 (NA.ownC (vfix.kept k2) K0) ?z4 ?hrows (N2 _ (.head _)).1 (NA.ownC (N2 _ (.head _)) K0) ?hst ?_)
  case z1 => exact roomD hroom (by decide)
  case z2 => exact hh
  case z3 => exact roomU hun (by decide)
  case z4 => exact Nat.le_of_ble_eq_true rfl
  case hrows => exact fun g' L' hg hL' i v hv => ((hN i v hv).but k2 (fCm ⟨.inl rfl, fNm _⟩)).at K0 hg hL'
  case hst =>
    intro r hr
    rcases r with _ | _ | _ | _ | _ | r
    all_goals first
      | exact ⟨_, _, _, rfl, (NA.of N2 (by repeat (first | exact List.Mem.head _ | refine List.Mem.tail _ ?_))).1, (by repeat (first | exact .nil | refine .cons _ _ ?_)), rfl, NA.ownC (NA.of N2 (by repeat (first | exact List.Mem.head _ | refine List.Mem.tail _ ?_))) K0⟩
      | lia
  intro h3 tk3 k3 fu3
  have k3q : Kept [L] _ h3 := fun b o e n => k3 b o e n
  have F3 : Fr h0 L h3 _ := ⟨let ⟨o, es, ep, ho, r⟩ := F2.ns; let ⟨sl, e⟩ := fu3 L (.head _) o ho; ⟨_, es, ep, e, r⟩, fun b o e => k3q b o (F2.keep b o e) (nm1 fun q => by rw [q, Heap.get?_none_of_le F2.above] at e; cases e), F2.above⟩
  have vp3 : NA h0 L h3 pa (PySem.W.listOf #[.ref ca, .int (-1) t1] n1) := (NA.of N2 (by repeat (first | exact List.Mem.head _ | refine List.Mem.tail _ ?_))).kept k3q
  have va3 : NA h0 L h3 ca (PySem.W.listOf cs cn) := (NA.of N2 (by repeat (first | exact List.Mem.head _ | refine List.Mem.tail _ ?_))).kept k3q
  have vc3 : NA h0 L h3 (L + 1) _ := (NA.of N2 (by repeat (first | exact List.Mem.head _ | refine List.Mem.tail _ ?_))).kept k3q
  have P3 : Pur h0 L h3 pa ca (-1) := ⟨⟨-1, t1, n1, vp3, Int.le_refl _, Int.le_refl _⟩, ⟨cs, cn, lc, va3, hci, hcl⟩, ⟨_, vc3, dc2⟩, ⟨q1, q2, q3⟩⟩
  clear F2 N2
  obtain ⟨rest, N, H⟩ := see F3 [(L + 1, _)] (fCm ⟨vc3, fNm _⟩)
  try dsimp only [List.nil_append, List.cons_append] at N
  try dsimp only
  walk_at "q0"
  repeat ((fail_if_success (with_reducible show wpAny _ _ (execs (Stmt.For _ _ _ _ _ :: _) _) _ _ _)); (fail_if_success (with_reducible show wpAny _ _ (subscriptTail _ _ (Value.ref _) (Value.int (Nat.cast _) _)) _ _ _)); (fail_if_success (with_reducible show wpAny _ _ (compareOp CmpOp.In _ (Value.ref _)) _ _ _)); (fail_if_success (with_reducible show wpAny _ _ (call (Value.ref _) _) _ _ _)); walk_at "q2")
  rename Fr _ _ _ _ => F4
  rename News _ _ _ _ => N4
  have k4 : Kept [L] h3 _ := seen H F4 (fun q m => (N4 q (by repeat (first | exact m | refine List.Mem.tail _ ?_))).1)
  have l4 := (by assumption : _ ∧ AllLt _ rest)
  have vsl := NA.of N4 (.head _)
  have fsl : h3.get? _ = none := fresh_mut H List.not_mem_nil vsl l4.2
  exact law_starts K0 hroom hh hun KX T F4 rfl vsl ⟨(ne_none fsl vp3.1).symm, (ne_none fsl va3.1).symm, (ne_none fsl vc3.1).symm⟩ (P3.kept k4) hE hQ
end Mine
local macro_rules | `(tactic| k_qdec) => `(tactic| decide +kernel)
set_option maxHeartbeats 8000000 in
theorem PySem.Challenge.cw_sj0046_01_holds : PySem.Challenge.rw_sj0046_01.Holds := by
  refine Mine.hd ?_
  k_go0
  refine' Mine.law_body ?a1 ?a2 ?a3 ?a4 ?a5 ?a6 ?a7 ?a8 ?a9 ?b1 ?b2 ?b3 ?b4 ?b5 ?b6
  case a1 => assumption
  case a2 => decide
  case a3 => rfl
  case a4 => decide
  case a5 => assumption
  case a6 => assumption
  case a7 => assumption
  case a8 => assumption
  case a9 => omega
  case b1 => assumption
  case b2 => rfl
  case b3 => assumption
  case b4 => first | rfl | (refine Eq.trans (by assumption) ?_; rfl)
  case b5 => passes_own
  case b6 => 
    intro h' tk' m' F'
    try dsimp only
    refine goodW_bool F' (by assumption) (raisesW_false ?_) ?_ rfl
    · wrow_none_raised
    · first | kc_post | wrow_post
