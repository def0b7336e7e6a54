import PyProof.Rows.All
import Wide.All
import OpenK.AllK
import Wide.FinOn
import Lean
import PySem.Challenge.RW_pb0446_01
open PySem PySem.W PyProof.Rows
set_option Elab.async false
set_option rowWalk.seconds 0
set_option compiler.extract_closed false
section
open PySem PySem.W PyProof.Rows
set_option maxRecDepth 100000
namespace Mine

noncomputable def partsOf : Option Stmt → Arguments × List Stmt × Scope
  | some (.FunctionDef _ a b _ _ _ s _ _ _) => (a, b, s)
  | _ => (⟨[], [], none, [], [], none, []⟩, [], ⟨.function, [], false, false, []⟩)
noncomputable def stAt (i : Nat) : Option Stmt := PySem.Challenge.rw_pb0446_01.row.prog.main.body[i]?
noncomputable def inCls : Option Stmt → Option Stmt
  | some (.ClassDef _ _ _ b _ _ _ _ _ _ _) => b.find? fun x => match x with | .FunctionDef .. => true | _ => false
  | _ => none
@[reducible] noncomputable def f28p : Arguments := Subtype.val (⟨_, by conv => rhs; whnf⟩ : { b : Arguments // b = (partsOf (inCls (stAt 1))).1 })
@[reducible] noncomputable def f28b : List Stmt := Subtype.val (⟨_, by conv => rhs; whnf⟩ : { b : List Stmt // b = (partsOf (inCls (stAt 1))).2.1 })
@[reducible] noncomputable def f28s : Scope := Subtype.val (⟨_, by conv => rhs; whnf⟩ : { b : Scope // b = (partsOf (inCls (stAt 1))).2.2 })
@[reducible] noncomputable def f53p : Arguments := Subtype.val (⟨_, by conv => rhs; whnf⟩ : { b : Arguments // b = (partsOf (stAt 5)).1 })
@[reducible] noncomputable def f53b : List Stmt := Subtype.val (⟨_, by conv => rhs; whnf⟩ : { b : List Stmt // b = (partsOf (stAt 5)).2.1 })
@[reducible] noncomputable def f53s : Scope := Subtype.val (⟨_, by conv => rhs; whnf⟩ : { b : Scope // b = (partsOf (stAt 5)).2.2 })
@[reducible] noncomputable def f60p : Arguments := Subtype.val (⟨_, by conv => rhs; whnf⟩ : { b : Arguments // b = (partsOf (stAt 6)).1 })
@[reducible] noncomputable def f60b : List Stmt := Subtype.val (⟨_, by conv => rhs; whnf⟩ : { b : List Stmt // b = (partsOf (stAt 6)).2.1 })
@[reducible] noncomputable def f60s : Scope := Subtype.val (⟨_, by conv => rhs; whnf⟩ : { b : Scope // b = (partsOf (stAt 6)).2.2 })
@[reducible] noncomputable def f67p : Arguments := Subtype.val (⟨_, by conv => rhs; whnf⟩ : { b : Arguments // b = (partsOf (stAt 7)).1 })
@[reducible] noncomputable def f67b : List Stmt := Subtype.val (⟨_, by conv => rhs; whnf⟩ : { b : List Stmt // b = (partsOf (stAt 7)).2.1 })
@[reducible] noncomputable def f67s : Scope := Subtype.val (⟨_, by conv => rhs; whnf⟩ : { b : Scope // b = (partsOf (stAt 7)).2.2 })
@[reducible] noncomputable def f75p : Arguments := Subtype.val (⟨_, by conv => rhs; whnf⟩ : { b : Arguments // b = (partsOf (stAt 13)).1 })
@[reducible] noncomputable def f75b : List Stmt := Subtype.val (⟨_, by conv => rhs; whnf⟩ : { b : List Stmt // b = (partsOf (stAt 13)).2.1 })
@[reducible] noncomputable def f75s : Scope := Subtype.val (⟨_, by conv => rhs; whnf⟩ : { b : Scope // b = (partsOf (stAt 13)).2.2 })
@[reducible] noncomputable def f82p : Arguments := Subtype.val (⟨_, by conv => rhs; whnf⟩ : { b : Arguments // b = (partsOf (stAt 14)).1 })
@[reducible] noncomputable def f82b : List Stmt := Subtype.val (⟨_, by conv => rhs; whnf⟩ : { b : List Stmt // b = (partsOf (stAt 14)).2.1 })
@[reducible] noncomputable def f82s : Scope := Subtype.val (⟨_, by conv => rhs; whnf⟩ : { b : Scope // b = (partsOf (stAt 14)).2.2 })
@[reducible] noncomputable def f89p : Arguments := Subtype.val (⟨_, by conv => rhs; whnf⟩ : { b : Arguments // b = (partsOf (stAt 15)).1 })
@[reducible] noncomputable def f89b : List Stmt := Subtype.val (⟨_, by conv => rhs; whnf⟩ : { b : List Stmt // b = (partsOf (stAt 15)).2.1 })
@[reducible] noncomputable def f89s : Scope := Subtype.val (⟨_, by conv => rhs; whnf⟩ : { b : Scope // b = (partsOf (stAt 15)).2.2 })
@[reducible] noncomputable def f96p : Arguments := Subtype.val (⟨_, by conv => rhs; whnf⟩ : { b : Arguments // b = (partsOf (stAt 16)).1 })
@[reducible] noncomputable def f96b : List Stmt := Subtype.val (⟨_, by conv => rhs; whnf⟩ : { b : List Stmt // b = (partsOf (stAt 16)).2.1 })
@[reducible] noncomputable def f96s : Scope := Subtype.val (⟨_, by conv => rhs; whnf⟩ : { b : Scope // b = (partsOf (stAt 16)).2.2 })
@[reducible] noncomputable def f103p : Arguments := Subtype.val (⟨_, by conv => rhs; whnf⟩ : { b : Arguments // b = (partsOf (stAt 17)).1 })
@[reducible] noncomputable def f103b : List Stmt := Subtype.val (⟨_, by conv => rhs; whnf⟩ : { b : List Stmt // b = (partsOf (stAt 17)).2.1 })
@[reducible] noncomputable def f103s : Scope := Subtype.val (⟨_, by conv => rhs; whnf⟩ : { b : Scope // b = (partsOf (stAt 17)).2.2 })
@[reducible] noncomputable def f110p : Arguments := Subtype.val (⟨_, by conv => rhs; whnf⟩ : { b : Arguments // b = (partsOf (stAt 18)).1 })
@[reducible] noncomputable def f110b : List Stmt := Subtype.val (⟨_, by conv => rhs; whnf⟩ : { b : List Stmt // b = (partsOf (stAt 18)).2.1 })
@[reducible] noncomputable def f110s : Scope := Subtype.val (⟨_, by conv => rhs; whnf⟩ : { b : Scope // b = (partsOf (stAt 18)).2.2 })
@[reducible] noncomputable def f117p : Arguments := Subtype.val (⟨_, by conv => rhs; whnf⟩ : { b : Arguments // b = (partsOf (stAt 19)).1 })
@[reducible] noncomputable def f117b : List Stmt := Subtype.val (⟨_, by conv => rhs; whnf⟩ : { b : List Stmt // b = (partsOf (stAt 19)).2.1 })
@[reducible] noncomputable def f117s : Scope := Subtype.val (⟨_, by conv => rhs; whnf⟩ : { b : Scope // b = (partsOf (stAt 19)).2.2 })
@[reducible] noncomputable def f124p : Arguments := Subtype.val (⟨_, by conv => rhs; whnf⟩ : { b : Arguments // b = (partsOf (stAt 21)).1 })
@[reducible] noncomputable def f124b : List Stmt := Subtype.val (⟨_, by conv => rhs; whnf⟩ : { b : List Stmt // b = (partsOf (stAt 21)).2.1 })
@[reducible] noncomputable def f124s : Scope := Subtype.val (⟨_, by conv => rhs; whnf⟩ : { b : Scope // b = (partsOf (stAt 21)).2.2 })
@[reducible] noncomputable def f131p : Arguments := Subtype.val (⟨_, by conv => rhs; whnf⟩ : { b : Arguments // b = (partsOf (stAt 22)).1 })
@[reducible] noncomputable def f131b : List Stmt := Subtype.val (⟨_, by conv => rhs; whnf⟩ : { b : List Stmt // b = (partsOf (stAt 22)).2.1 })
@[reducible] noncomputable def f131s : Scope := Subtype.val (⟨_, by conv => rhs; whnf⟩ : { b : Scope // b = (partsOf (stAt 22)).2.2 })
@[reducible] noncomputable def f138p : Arguments := Subtype.val (⟨_, by conv => rhs; whnf⟩ : { b : Arguments // b = (partsOf (stAt 23)).1 })
@[reducible] noncomputable def f138b : List Stmt := Subtype.val (⟨_, by conv => rhs; whnf⟩ : { b : List Stmt // b = (partsOf (stAt 23)).2.1 })
@[reducible] noncomputable def f138s : Scope := Subtype.val (⟨_, by conv => rhs; whnf⟩ : { b : Scope // b = (partsOf (stAt 23)).2.2 })
@[reducible] noncomputable def f145p : Arguments := Subtype.val (⟨_, by conv => rhs; whnf⟩ : { b : Arguments // b = (partsOf (stAt 24)).1 })
@[reducible] noncomputable def f145b : List Stmt := Subtype.val (⟨_, by conv => rhs; whnf⟩ : { b : List Stmt // b = (partsOf (stAt 24)).2.1 })
@[reducible] noncomputable def f145s : Scope := Subtype.val (⟨_, by conv => rhs; whnf⟩ : { b : Scope // b = (partsOf (stAt 24)).2.2 })
@[reducible] noncomputable def f150p : Arguments := Subtype.val (⟨_, by conv => rhs; whnf⟩ : { b : Arguments // b = (partsOf (stAt 25)).1 })
@[reducible] noncomputable def f150b : List Stmt := Subtype.val (⟨_, by conv => rhs; whnf⟩ : { b : List Stmt // b = (partsOf (stAt 25)).2.1 })
@[reducible] noncomputable def f150s : Scope := Subtype.val (⟨_, by conv => rhs; whnf⟩ : { b : Scope // b = (partsOf (stAt 25)).2.2 })
@[reducible] noncomputable def f157p : Arguments := Subtype.val (⟨_, by conv => rhs; whnf⟩ : { b : Arguments // b = (partsOf (stAt 26)).1 })
@[reducible] noncomputable def f157b : List Stmt := Subtype.val (⟨_, by conv => rhs; whnf⟩ : { b : List Stmt // b = (partsOf (stAt 26)).2.1 })
@[reducible] noncomputable def f157s : Scope := Subtype.val (⟨_, by conv => rhs; whnf⟩ : { b : Scope // b = (partsOf (stAt 26)).2.2 })
@[reducible] noncomputable def f164p : Arguments := Subtype.val (⟨_, by conv => rhs; whnf⟩ : { b : Arguments // b = (partsOf (stAt 27)).1 })
@[reducible] noncomputable def f164b : List Stmt := Subtype.val (⟨_, by conv => rhs; whnf⟩ : { b : List Stmt // b = (partsOf (stAt 27)).2.1 })
@[reducible] noncomputable def f164s : Scope := Subtype.val (⟨_, by conv => rhs; whnf⟩ : { b : Scope // b = (partsOf (stAt 27)).2.2 })
@[reducible] noncomputable def f171p : Arguments := Subtype.val (⟨_, by conv => rhs; whnf⟩ : { b : Arguments // b = (partsOf (stAt 28)).1 })
@[reducible] noncomputable def f171b : List Stmt := Subtype.val (⟨_, by conv => rhs; whnf⟩ : { b : List Stmt // b = (partsOf (stAt 28)).2.1 })
@[reducible] noncomputable def f171s : Scope := Subtype.val (⟨_, by conv => rhs; whnf⟩ : { b : Scope // b = (partsOf (stAt 28)).2.2 })
@[reducible] noncomputable def f178p : Arguments := Subtype.val (⟨_, by conv => rhs; whnf⟩ : { b : Arguments // b = (partsOf (stAt 29)).1 })
@[reducible] noncomputable def f178b : List Stmt := Subtype.val (⟨_, by conv => rhs; whnf⟩ : { b : List Stmt // b = (partsOf (stAt 29)).2.1 })
@[reducible] noncomputable def f178s : Scope := Subtype.val (⟨_, by conv => rhs; whnf⟩ : { b : Scope // b = (partsOf (stAt 29)).2.2 })
@[reducible] noncomputable def f185p : Arguments := Subtype.val (⟨_, by conv => rhs; whnf⟩ : { b : Arguments // b = (partsOf (stAt 30)).1 })
@[reducible] noncomputable def f185b : List Stmt := Subtype.val (⟨_, by conv => rhs; whnf⟩ : { b : List Stmt // b = (partsOf (stAt 30)).2.1 })
@[reducible] noncomputable def f185s : Scope := Subtype.val (⟨_, by conv => rhs; whnf⟩ : { b : Scope // b = (partsOf (stAt 30)).2.2 })
@[reducible] noncomputable def f192p : Arguments := Subtype.val (⟨_, by conv => rhs; whnf⟩ : { b : Arguments // b = (partsOf (stAt 31)).1 })
@[reducible] noncomputable def f192b : List Stmt := Subtype.val (⟨_, by conv => rhs; whnf⟩ : { b : List Stmt // b = (partsOf (stAt 31)).2.1 })
@[reducible] noncomputable def f192s : Scope := Subtype.val (⟨_, by conv => rhs; whnf⟩ : { b : Scope // b = (partsOf (stAt 31)).2.2 })
@[reducible] noncomputable def f199p : Arguments := Subtype.val (⟨_, by conv => rhs; whnf⟩ : { b : Arguments // b = (partsOf (stAt 32)).1 })
@[reducible] noncomputable def f199b : List Stmt := Subtype.val (⟨_, by conv => rhs; whnf⟩ : { b : List Stmt // b = (partsOf (stAt 32)).2.1 })
@[reducible] noncomputable def f199s : Scope := Subtype.val (⟨_, by conv => rhs; whnf⟩ : { b : Scope // b = (partsOf (stAt 32)).2.2 })
/-- what the run of the top leaves: the objects that the law comes to -/
noncomputable def hd.heap_39 : Params → Frag := fun P =>
  ((nat_lit 2, Obj.mk Value.none Option.none (Data.dict #[DictEntry.mk (PyData.keyHash P (Str.ofString "type.__subclasses__.Exception.0")) (Value.str (Str.ofString "type.__subclasses__.Exception.0") 214) (Value.int 31 0), DictEntry.mk (PyData.keyHash P (Str.ofString "type.__subclasses__.Exception.n")) (Value.str (Str.ofString "type.__subclasses__.Exception.n") 215) (Value.int 1 0)] 2) #[]) : Addr × Obj) ::
  ((nat_lit 3, Obj.mk (Value.type "dict") Option.none (Data.dict #[DictEntry.mk (PyData.keyHash P (Str.ofString "__name__")) (Value.str (Str.ofString "__name__") 165) (Value.str (Str.ofString "law_pb0446_01") 361), DictEntry.mk (PyData.keyHash P (Str.ofString "__doc__")) (Value.str (Str.ofString "__doc__") 166) Value.none, DictEntry.mk (PyData.keyHash P (Str.ofString "__package__")) (Value.str (Str.ofString "__package__") 167) Value.none, DictEntry.mk (PyData.keyHash P (Str.ofString "__loader__")) (Value.str (Str.ofString "__loader__") 168) (Value.builtin "__main__.__loader__#opaque"), DictEntry.mk (PyData.keyHash P (Str.ofString "__spec__")) (Value.str (Str.ofString "__spec__") 169) Value.none, DictEntry.mk (PyData.keyHash P (Str.ofString "__annotations__")) (Value.str (Str.ofString "__annotations__") 170) (Value.ref 6), DictEntry.mk (PyData.keyHash P (Str.ofString "__builtins__")) (Value.str (Str.ofString "__builtins__") 171) (Value.ref 4), DictEntry.mk (PyData.keyHash P (Str.ofString "__file__")) (Value.str (Str.ofString "__file__") 173) (Value.str (Str.ofString "/claim/cut.py") 172), DictEntry.mk (PyData.keyHash P (Str.ofString "__cached__")) (Value.str (Str.ofString "__cached__") 174) Value.none, DictEntry.mk (PyData.keyHash P (Str.ofString "PagebaseError")) (Value.str (Str.ofString "PagebaseError") 217) (Value.ref 31), DictEntry.mk (PyData.keyHash P (Str.ofString "CorruptError")) (Value.str (Str.ofString "CorruptError") 233) (Value.ref 44), DictEntry.mk (PyData.keyHash P (Str.ofString "REPLACEMENT")) (Value.str (Str.ofString "REPLACEMENT") 238) (Value.str (Str.ofString "�") 237), DictEntry.mk (PyData.keyHash P (Str.ofString "lead_of")) (Value.str (Str.ofString "lead_of") 245) (Value.ref 53), DictEntry.mk (PyData.keyHash P (Str.ofString "text_of")) (Value.str (Str.ofString "text_of") 256) (Value.ref 60), DictEntry.mk (PyData.keyHash P (Str.ofString "code_at")) (Value.str (Str.ofString "code_at") 269) (Value.ref 67), DictEntry.mk (PyData.keyHash P (Str.ofString "NUMBER_SIZES")) (Value.str (Str.ofString "NUMBER_SIZES") 279) (Value.ref 68), DictEntry.mk (PyData.keyHash P (Str.ofString "ZERO_TYPE")) (Value.str (Str.ofString "ZERO_TYPE") 281) (Value.int 8 280), DictEntry.mk (PyData.keyHash P (Str.ofString "ONE_TYPE")) (Value.str (Str.ofString "ONE_TYPE") 283) (Value.int 9 282), DictEntry.mk (PyData.keyHash P (Str.ofString "BLOB_TYPE")) (Value.str (Str.ofString "BLOB_TYPE") 285) (Value.int 12 284), DictEntry.mk (PyData.keyHash P (Str.ofString "get_varint")) (Value.str (Str.ofString "get_varint") 296) (Value.ref 75), DictEntry.mk (PyData.keyHash P (Str.ofString "get_fixed")) (Value.str (Str.ofString "get_fixed") 307) (Value.ref 82), DictEntry.mk (PyData.keyHash P (Str.ofString "serial_size")) (Value.str (Str.ofString "serial_size") 314) (Value.ref 89), DictEntry.mk (PyData.keyHash P (Str.ofString "value_of")) (Value.str (Str.ofString "value_of") 325) (Value.ref 96), DictEntry.mk (PyData.keyHash P (Str.ofString "head_of")) (Value.str (Str.ofString "head_of") 336) (Value.ref 103), DictEntry.mk (PyData.keyHash P (Str.ofString "decode_record")) (Value.str (Str.ofString "decode_record") 347) (Value.ref 110), DictEntry.mk (PyData.keyHash P (Str.ofString "record_column")) (Value.str (Str.ofString "record_column") 360) (Value.ref 117), DictEntry.mk (PyData.keyHash P (Str.ofString "_law_pool")) (Value.str (Str.ofString "_law_pool") 373) (Value.ref 124), DictEntry.mk (PyData.keyHash P (Str.ofString "_law_take")) (Value.str (Str.ofString "_law_take") 382) (Value.ref 131), DictEntry.mk (PyData.keyHash P (Str.ofString "_law_one")) (Value.str (Str.ofString "_law_one") 390) (Value.ref 138), DictEntry.mk (PyData.keyHash P (Str.ofString "_law_number")) (Value.str (Str.ofString "_law_number") 399) (Value.ref 145), DictEntry.mk (PyData.keyHash P (Str.ofString "_law_written")) (Value.str (Str.ofString "_law_written") 405) (Value.ref 150), DictEntry.mk (PyData.keyHash P (Str.ofString "_law_spoilt")) (Value.str (Str.ofString "_law_spoilt") 416) (Value.ref 157), DictEntry.mk (PyData.keyHash P (Str.ofString "_law_next")) (Value.str (Str.ofString "_law_next") 427) (Value.ref 164), DictEntry.mk (PyData.keyHash P (Str.ofString "_law_size")) (Value.str (Str.ofString "_law_size") 434) (Value.ref 171), DictEntry.mk (PyData.keyHash P (Str.ofString "_law_read")) (Value.str (Str.ofString "_law_read") 448) (Value.ref 178), DictEntry.mk (PyData.keyHash P (Str.ofString "_law_value")) (Value.str (Str.ofString "_law_value") 456) (Value.ref 185), DictEntry.mk (PyData.keyHash P (Str.ofString "_law_heard")) (Value.str (Str.ofString "_law_heard") 463) (Value.ref 192), DictEntry.mk (PyData.keyHash P (Str.ofString "law")) (Value.str (Str.ofString "law") 474) (Value.ref 199)] 38) #[]) : Addr × Obj) ::
  ((nat_lit 15, Obj.mk (Value.type "tuple") Option.none (Data.seq #[Value.type "Exception"]) #[]) : Addr × Obj) ::
  ((nat_lit 22, Obj.mk (Value.type "tuple") Option.none (Data.seq #[]) #[]) : Addr × Obj) ::
  ((nat_lit 24, Obj.mk (Value.type "tuple") Option.none (Data.seq #[Value.str (Str.ofString "self") 204, Value.str (Str.ofString "message") 205]) #[]) : Addr × Obj) ::
  ((nat_lit 25, Obj.mk (Value.type "tuple") Option.none (Data.seq #[]) #[]) : Addr × Obj) ::
  ((nat_lit 27, Obj.mk (Value.type "code") Option.none (Data.fields #[Value.str (Str.ofString "__init__") 201, Value.str (Str.ofString "PagebaseError.__init__") 202, Value.str (Str.ofString "/claim/cut.py") 203, Value.int 4 0, Value.int 2 0, Value.int 0 0, Value.int 0 0, Value.int 3 0, Value.ref 22, Value.bool Bool.true, Value.int 181 0, Value.ref 23, Value.none, Value.ref 24, Value.ref 25, Value.ref 26, Value.int 206 0, Value.int 4 0, Value.str (Str.ofString "/claim/cut.py") 207]) #[]) : Addr × Obj) ::
  ((nat_lit 28, Obj.mk (Value.type "function") Option.none (Data.func (FuncData.mk (Str.ofString "__init__") (Str.ofString "PagebaseError.__init__") f28p (FuncBody.stmts f28b) f28s 3 [] Value.none Value.none Value.none (Value.str (Str.ofString "pagebase.errors") 187) Option.none (Value.ref 27) Value.none 0)) #[]) : Addr × Obj) ::
  ((nat_lit 29, Obj.mk (Value.type "tuple") Option.none (Data.seq #[Value.str (Str.ofString "message") 209]) #[]) : Addr × Obj) ::
  ((nat_lit 30, Obj.mk (Value.type "dict") Option.none (Data.dict #[DictEntry.mk (PyData.keyHash P (Str.ofString "__module__")) (Value.str (Str.ofString "__module__") 196) (Value.str (Str.ofString "pagebase.errors") 187), DictEntry.mk (PyData.keyHash P (Str.ofString "__firstlineno__")) (Value.str (Str.ofString "__firstlineno__") 200) (Value.int 2 199), DictEntry.mk (PyData.keyHash P (Str.ofString "__init__")) (Value.str (Str.ofString "__init__") 208) (Value.ref 28), DictEntry.mk (PyData.keyHash P (Str.ofString "__static_attributes__")) (Value.str (Str.ofString "__static_attributes__") 210) (Value.ref 29), DictEntry.mk (PyData.keyHash P (Str.ofString "__weakref__")) (Value.str (Str.ofString "__weakref__") 212) (Value.ref 32), DictEntry.mk (PyData.keyHash P (Str.ofString "__doc__")) (Value.str (Str.ofString "__doc__") 213) Value.none] 3) #[]) : Addr × Obj) ::
  ((nat_lit 31, Obj.mk (Value.type "type") Option.none (Data.cls (ClassData.mk (Str.ofString "PagebaseError") [Value.type "Exception"] [Value.ref 31, Value.type "Exception", Value.type "BaseException", Value.type "object"] 30 (Str.ofString "PagebaseError") Bool.true [] [Value.ref 44] Bool.false Option.none Bool.false)) #[Option.some (Value.ref 15), Option.none, Option.some (Value.str (Str.ofString "PagebaseError") 189), Option.some (Value.str (Str.ofString "PagebaseError") 197), Option.some (Value.builtin "Exception.__new__"), Option.some (Value.bool Bool.true)]) : Addr × Obj) ::
  ((nat_lit 32, Obj.mk (Value.type "getset_descriptor") Option.none (Data.fields #[Value.str (Str.ofString "__weakref__") 211, Value.ref 31, Value.builtin "ExceptionGroup.__weakref__", Value.none]) #[]) : Addr × Obj) ::
  ((nat_lit 35, Obj.mk (Value.type "tuple") Option.none (Data.seq #[Value.ref 31]) #[]) : Addr × Obj) ::
  ((nat_lit 42, Obj.mk (Value.type "tuple") Option.none (Data.seq #[]) #[]) : Addr × Obj) ::
  ((nat_lit 43, Obj.mk (Value.type "dict") Option.none (Data.dict #[DictEntry.mk (PyData.keyHash P (Str.ofString "__module__")) (Value.str (Str.ofString "__module__") 225) (Value.str (Str.ofString "pagebase.errors") 187), DictEntry.mk (PyData.keyHash P (Str.ofString "__firstlineno__")) (Value.str (Str.ofString "__firstlineno__") 229) (Value.int 6 228), DictEntry.mk (PyData.keyHash P (Str.ofString "__static_attributes__")) (Value.str (Str.ofString "__static_attributes__") 230) (Value.ref 42), DictEntry.mk (PyData.keyHash P (Str.ofString "__doc__")) (Value.str (Str.ofString "__doc__") 231) Value.none] 2) #[]) : Addr × Obj) ::
  ((nat_lit 44, Obj.mk (Value.type "type") Option.none (Data.cls (ClassData.mk (Str.ofString "CorruptError") [Value.ref 31] [Value.ref 44, Value.ref 31, Value.type "Exception", Value.type "BaseException", Value.type "object"] 43 (Str.ofString "CorruptError") Bool.true [] [] Bool.false Option.none Bool.false)) #[Option.some (Value.ref 35), Option.none, Option.some (Value.str (Str.ofString "CorruptError") 218), Option.some (Value.str (Str.ofString "CorruptError") 226), Option.some (Value.builtin "Exception.__new__"), Option.some (Value.bool Bool.true)]) : Addr × Obj) ::
  ((nat_lit 47, Obj.mk (Value.type "tuple") Option.none (Data.seq #[]) #[]) : Addr × Obj) ::
  ((nat_lit 49, Obj.mk (Value.type "tuple") Option.none (Data.seq #[Value.str (Str.ofString "octet") 242]) #[]) : Addr × Obj) ::
  ((nat_lit 50, Obj.mk (Value.type "tuple") Option.none (Data.seq #[]) #[]) : Addr × Obj) ::
  ((nat_lit 52, Obj.mk (Value.type "code") Option.none (Data.fields #[Value.str (Str.ofString "lead_of") 239, Value.str (Str.ofString "lead_of") 240, Value.str (Str.ofString "/claim/cut.py") 241, Value.int 10 0, Value.int 1 0, Value.int 0 0, Value.int 0 0, Value.int 3 0, Value.ref 47, Value.bool Bool.true, Value.int 181 0, Value.ref 48, Value.none, Value.ref 49, Value.ref 50, Value.ref 51, Value.int 243 0, Value.int 10 0, Value.str (Str.ofString "/claim/cut.py") 244]) #[]) : Addr × Obj) ::
  ((nat_lit 53, Obj.mk (Value.type "function") Option.none (Data.func (FuncData.mk (Str.ofString "lead_of") (Str.ofString "lead_of") f53p (FuncBody.stmts f53b) f53s 3 [] Value.none Value.none Value.none (Value.str (Str.ofString "pagebase.values") 234) Option.none (Value.ref 52) Value.none 0)) #[]) : Addr × Obj) ::
  ((nat_lit 54, Obj.mk (Value.type "tuple") Option.none (Data.seq #[]) #[]) : Addr × Obj) ::
  ((nat_lit 56, Obj.mk (Value.type "tuple") Option.none (Data.seq #[Value.str (Str.ofString "octets") 249, Value.str (Str.ofString "signs") 250, Value.str (Str.ofString "at") 251, Value.str (Str.ofString "lead") 252, Value.str (Str.ofString "code") 253]) #[]) : Addr × Obj) ::
  ((nat_lit 57, Obj.mk (Value.type "tuple") Option.none (Data.seq #[]) #[]) : Addr × Obj) ::
  ((nat_lit 59, Obj.mk (Value.type "code") Option.none (Data.fields #[Value.str (Str.ofString "text_of") 246, Value.str (Str.ofString "text_of") 247, Value.str (Str.ofString "/claim/cut.py") 248, Value.int 20 0, Value.int 1 0, Value.int 0 0, Value.int 0 0, Value.int 3 0, Value.ref 54, Value.bool Bool.true, Value.int 181 0, Value.ref 55, Value.none, Value.ref 56, Value.ref 57, Value.ref 58, Value.int 254 0, Value.int 20 0, Value.str (Str.ofString "/claim/cut.py") 255]) #[]) : Addr × Obj) ::
  ((nat_lit 60, Obj.mk (Value.type "function") Option.none (Data.func (FuncData.mk (Str.ofString "text_of") (Str.ofString "text_of") f60p (FuncBody.stmts f60b) f60s 3 [] Value.none Value.none Value.none (Value.str (Str.ofString "pagebase.values") 234) Option.none (Value.ref 59) Value.none 0)) #[]) : Addr × Obj) ::
  ((nat_lit 61, Obj.mk (Value.type "tuple") Option.none (Data.seq #[]) #[]) : Addr × Obj) ::
  ((nat_lit 63, Obj.mk (Value.type "tuple") Option.none (Data.seq #[Value.str (Str.ofString "octets") 260, Value.str (Str.ofString "at") 261, Value.str (Str.ofString "lead") 262, Value.str (Str.ofString "follow") 263, Value.str (Str.ofString "code") 264, Value.str (Str.ofString "least") 265, Value.str (Str.ofString "place") 266]) #[]) : Addr × Obj) ::
  ((nat_lit 64, Obj.mk (Value.type "tuple") Option.none (Data.seq #[]) #[]) : Addr × Obj) ::
  ((nat_lit 66, Obj.mk (Value.type "code") Option.none (Data.fields #[Value.str (Str.ofString "code_at") 257, Value.str (Str.ofString "code_at") 258, Value.str (Str.ofString "/claim/cut.py") 259, Value.int 35 0, Value.int 3 0, Value.int 0 0, Value.int 0 0, Value.int 3 0, Value.ref 61, Value.bool Bool.true, Value.int 181 0, Value.ref 62, Value.none, Value.ref 63, Value.ref 64, Value.ref 65, Value.int 267 0, Value.int 35 0, Value.str (Str.ofString "/claim/cut.py") 268]) #[]) : Addr × Obj) ::
  ((nat_lit 67, Obj.mk (Value.type "function") Option.none (Data.func (FuncData.mk (Str.ofString "code_at") (Str.ofString "code_at") f67p (FuncBody.stmts f67b) f67s 3 [] Value.none Value.none Value.none (Value.str (Str.ofString "pagebase.values") 234) Option.none (Value.ref 66) Value.none 0)) #[]) : Addr × Obj) ::
  ((nat_lit 68, Obj.mk (Value.type "tuple") Option.none (Data.seq #[Value.int 0 272, Value.int 1 273, Value.int 2 274, Value.int 3 275, Value.int 4 276, Value.int 6 277, Value.int 8 278]) #[]) : Addr × Obj) ::
  ((nat_lit 69, Obj.mk (Value.type "tuple") Option.none (Data.seq #[]) #[]) : Addr × Obj) ::
  ((nat_lit 71, Obj.mk (Value.type "tuple") Option.none (Data.seq #[Value.str (Str.ofString "octets") 289, Value.str (Str.ofString "at") 290, Value.str (Str.ofString "number") 291, Value.str (Str.ofString "turn") 292, Value.str (Str.ofString "octet") 293]) #[]) : Addr × Obj) ::
  ((nat_lit 72, Obj.mk (Value.type "tuple") Option.none (Data.seq #[]) #[]) : Addr × Obj) ::
  ((nat_lit 74, Obj.mk (Value.type "code") Option.none (Data.fields #[Value.str (Str.ofString "get_varint") 286, Value.str (Str.ofString "get_varint") 287, Value.str (Str.ofString "/claim/cut.py") 288, Value.int 51 0, Value.int 2 0, Value.int 0 0, Value.int 0 0, Value.int 3 0, Value.ref 69, Value.bool Bool.true, Value.int 181 0, Value.ref 70, Value.none, Value.ref 71, Value.ref 72, Value.ref 73, Value.int 294 0, Value.int 51 0, Value.str (Str.ofString "/claim/cut.py") 295]) #[]) : Addr × Obj) ::
  ((nat_lit 75, Obj.mk (Value.type "function") Option.none (Data.func (FuncData.mk (Str.ofString "get_varint") (Str.ofString "get_varint") f75p (FuncBody.stmts f75b) f75s 3 [] Value.none Value.none Value.none (Value.str (Str.ofString "pagebase.records") 270) Option.none (Value.ref 74) Value.none 0)) #[]) : Addr × Obj) ::
  ((nat_lit 76, Obj.mk (Value.type "tuple") Option.none (Data.seq #[]) #[]) : Addr × Obj) ::
  ((nat_lit 78, Obj.mk (Value.type "tuple") Option.none (Data.seq #[Value.str (Str.ofString "octets") 300, Value.str (Str.ofString "at") 301, Value.str (Str.ofString "size") 302, Value.str (Str.ofString "number") 303, Value.str (Str.ofString "place") 304]) #[]) : Addr × Obj) ::
  ((nat_lit 79, Obj.mk (Value.type "tuple") Option.none (Data.seq #[]) #[]) : Addr × Obj) ::
  ((nat_lit 81, Obj.mk (Value.type "code") Option.none (Data.fields #[Value.str (Str.ofString "get_fixed") 297, Value.str (Str.ofString "get_fixed") 298, Value.str (Str.ofString "/claim/cut.py") 299, Value.int 64 0, Value.int 3 0, Value.int 0 0, Value.int 0 0, Value.int 3 0, Value.ref 76, Value.bool Bool.true, Value.int 181 0, Value.ref 77, Value.none, Value.ref 78, Value.ref 79, Value.ref 80, Value.int 305 0, Value.int 64 0, Value.str (Str.ofString "/claim/cut.py") 306]) #[]) : Addr × Obj) ::
  ((nat_lit 82, Obj.mk (Value.type "function") Option.none (Data.func (FuncData.mk (Str.ofString "get_fixed") (Str.ofString "get_fixed") f82p (FuncBody.stmts f82b) f82s 3 [] Value.none Value.none Value.none (Value.str (Str.ofString "pagebase.records") 270) Option.none (Value.ref 81) Value.none 0)) #[]) : Addr × Obj) ::
  ((nat_lit 83, Obj.mk (Value.type "tuple") Option.none (Data.seq #[]) #[]) : Addr × Obj) ::
  ((nat_lit 85, Obj.mk (Value.type "tuple") Option.none (Data.seq #[Value.str (Str.ofString "t") 311]) #[]) : Addr × Obj) ::
  ((nat_lit 86, Obj.mk (Value.type "tuple") Option.none (Data.seq #[]) #[]) : Addr × Obj) ::
  ((nat_lit 88, Obj.mk (Value.type "code") Option.none (Data.fields #[Value.str (Str.ofString "serial_size") 308, Value.str (Str.ofString "serial_size") 309, Value.str (Str.ofString "/claim/cut.py") 310, Value.int 71 0, Value.int 1 0, Value.int 0 0, Value.int 0 0, Value.int 3 0, Value.ref 83, Value.bool Bool.true, Value.int 181 0, Value.ref 84, Value.none, Value.ref 85, Value.ref 86, Value.ref 87, Value.int 312 0, Value.int 71 0, Value.str (Str.ofString "/claim/cut.py") 313]) #[]) : Addr × Obj) ::
  ((nat_lit 89, Obj.mk (Value.type "function") Option.none (Data.func (FuncData.mk (Str.ofString "serial_size") (Str.ofString "serial_size") f89p (FuncBody.stmts f89b) f89s 3 [] Value.none Value.none Value.none (Value.str (Str.ofString "pagebase.records") 270) Option.none (Value.ref 88) Value.none 0)) #[]) : Addr × Obj) ::
  ((nat_lit 90, Obj.mk (Value.type "tuple") Option.none (Data.seq #[]) #[]) : Addr × Obj) ::
  ((nat_lit 92, Obj.mk (Value.type "tuple") Option.none (Data.seq #[Value.str (Str.ofString "octets") 318, Value.str (Str.ofString "at") 319, Value.str (Str.ofString "kind") 320, Value.str (Str.ofString "size") 321, Value.str (Str.ofString "body") 322]) #[]) : Addr × Obj) ::
  ((nat_lit 93, Obj.mk (Value.type "tuple") Option.none (Data.seq #[]) #[]) : Addr × Obj) ::
  ((nat_lit 95, Obj.mk (Value.type "code") Option.none (Data.fields #[Value.str (Str.ofString "value_of") 315, Value.str (Str.ofString "value_of") 316, Value.str (Str.ofString "/claim/cut.py") 317, Value.int 79 0, Value.int 3 0, Value.int 0 0, Value.int 0 0, Value.int 3 0, Value.ref 90, Value.bool Bool.true, Value.int 181 0, Value.ref 91, Value.none, Value.ref 92, Value.ref 93, Value.ref 94, Value.int 323 0, Value.int 79 0, Value.str (Str.ofString "/claim/cut.py") 324]) #[]) : Addr × Obj) ::
  ((nat_lit 96, Obj.mk (Value.type "function") Option.none (Data.func (FuncData.mk (Str.ofString "value_of") (Str.ofString "value_of") f96p (FuncBody.stmts f96b) f96s 3 [] Value.none Value.none Value.none (Value.str (Str.ofString "pagebase.records") 270) Option.none (Value.ref 95) Value.none 0)) #[]) : Addr × Obj) ::
  ((nat_lit 97, Obj.mk (Value.type "tuple") Option.none (Data.seq #[]) #[]) : Addr × Obj) ::
  ((nat_lit 99, Obj.mk (Value.type "tuple") Option.none (Data.seq #[Value.str (Str.ofString "octets") 329, Value.str (Str.ofString "end") 330, Value.str (Str.ofString "at") 331, Value.str (Str.ofString "types") 332, Value.str (Str.ofString "kind") 333]) #[]) : Addr × Obj) ::
  ((nat_lit 100, Obj.mk (Value.type "tuple") Option.none (Data.seq #[]) #[]) : Addr × Obj) ::
  ((nat_lit 102, Obj.mk (Value.type "code") Option.none (Data.fields #[Value.str (Str.ofString "head_of") 326, Value.str (Str.ofString "head_of") 327, Value.str (Str.ofString "/claim/cut.py") 328, Value.int 95 0, Value.int 1 0, Value.int 0 0, Value.int 0 0, Value.int 3 0, Value.ref 97, Value.bool Bool.true, Value.int 181 0, Value.ref 98, Value.none, Value.ref 99, Value.ref 100, Value.ref 101, Value.int 334 0, Value.int 95 0, Value.str (Str.ofString "/claim/cut.py") 335]) #[]) : Addr × Obj) ::
  ((nat_lit 103, Obj.mk (Value.type "function") Option.none (Data.func (FuncData.mk (Str.ofString "head_of") (Str.ofString "head_of") f103p (FuncBody.stmts f103b) f103s 3 [] Value.none Value.none Value.none (Value.str (Str.ofString "pagebase.records") 270) Option.none (Value.ref 102) Value.none 0)) #[]) : Addr × Obj) ::
  ((nat_lit 104, Obj.mk (Value.type "tuple") Option.none (Data.seq #[]) #[]) : Addr × Obj) ::
  ((nat_lit 106, Obj.mk (Value.type "tuple") Option.none (Data.seq #[Value.str (Str.ofString "octets") 340, Value.str (Str.ofString "types") 341, Value.str (Str.ofString "at") 342, Value.str (Str.ofString "values") 343, Value.str (Str.ofString "kind") 344]) #[]) : Addr × Obj) ::
  ((nat_lit 107, Obj.mk (Value.type "tuple") Option.none (Data.seq #[]) #[]) : Addr × Obj) ::
  ((nat_lit 109, Obj.mk (Value.type "code") Option.none (Data.fields #[Value.str (Str.ofString "decode_record") 337, Value.str (Str.ofString "decode_record") 338, Value.str (Str.ofString "/claim/cut.py") 339, Value.int 106 0, Value.int 1 0, Value.int 0 0, Value.int 0 0, Value.int 3 0, Value.ref 104, Value.bool Bool.true, Value.int 181 0, Value.ref 105, Value.none, Value.ref 106, Value.ref 107, Value.ref 108, Value.int 345 0, Value.int 106 0, Value.str (Str.ofString "/claim/cut.py") 346]) #[]) : Addr × Obj) ::
  ((nat_lit 110, Obj.mk (Value.type "function") Option.none (Data.func (FuncData.mk (Str.ofString "decode_record") (Str.ofString "decode_record") f110p (FuncBody.stmts f110b) f110s 3 [] Value.none Value.none Value.none (Value.str (Str.ofString "pagebase.records") 270) Option.none (Value.ref 109) Value.none 0)) #[]) : Addr × Obj) ::
  ((nat_lit 111, Obj.mk (Value.type "tuple") Option.none (Data.seq #[]) #[]) : Addr × Obj) ::
  ((nat_lit 113, Obj.mk (Value.type "tuple") Option.none (Data.seq #[Value.str (Str.ofString "octets") 351, Value.str (Str.ofString "i") 352, Value.str (Str.ofString "end") 353, Value.str (Str.ofString "place") 354, Value.str (Str.ofString "at") 355, Value.str (Str.ofString "column") 356, Value.str (Str.ofString "kind") 357]) #[]) : Addr × Obj) ::
  ((nat_lit 114, Obj.mk (Value.type "tuple") Option.none (Data.seq #[]) #[]) : Addr × Obj) ::
  ((nat_lit 116, Obj.mk (Value.type "code") Option.none (Data.fields #[Value.str (Str.ofString "record_column") 348, Value.str (Str.ofString "record_column") 349, Value.str (Str.ofString "/claim/cut.py") 350, Value.int 115 0, Value.int 2 0, Value.int 0 0, Value.int 0 0, Value.int 3 0, Value.ref 111, Value.bool Bool.true, Value.int 181 0, Value.ref 112, Value.none, Value.ref 113, Value.ref 114, Value.ref 115, Value.int 358 0, Value.int 115 0, Value.str (Str.ofString "/claim/cut.py") 359]) #[]) : Addr × Obj) ::
  ((nat_lit 117, Obj.mk (Value.type "function") Option.none (Data.func (FuncData.mk (Str.ofString "record_column") (Str.ofString "record_column") f117p (FuncBody.stmts f117b) f117s 3 [] Value.none Value.none Value.none (Value.str (Str.ofString "pagebase.records") 270) Option.none (Value.ref 116) Value.none 0)) #[]) : Addr × Obj) ::
  ((nat_lit 118, Obj.mk (Value.type "tuple") Option.none (Data.seq #[]) #[]) : Addr × Obj) ::
  ((nat_lit 120, Obj.mk (Value.type "tuple") Option.none (Data.seq #[Value.str (Str.ofString "script") 366, Value.str (Str.ofString "k") 367, Value.str (Str.ofString "cell_one") 368, Value.str (Str.ofString "size_one") 369, Value.str (Str.ofString "mixed_one") 370]) #[]) : Addr × Obj) ::
  ((nat_lit 121, Obj.mk (Value.type "tuple") Option.none (Data.seq #[]) #[]) : Addr × Obj) ::
  ((nat_lit 123, Obj.mk (Value.type "code") Option.none (Data.fields #[Value.str (Str.ofString "_law_pool") 363, Value.str (Str.ofString "_law_pool") 364, Value.str (Str.ofString "/claim/cut.py") 365, Value.int 129 0, Value.int 2 0, Value.int 0 0, Value.int 0 0, Value.int 3 0, Value.ref 118, Value.bool Bool.true, Value.int 181 0, Value.ref 119, Value.none, Value.ref 120, Value.ref 121, Value.ref 122, Value.int 371 0, Value.int 129 0, Value.str (Str.ofString "/claim/cut.py") 372]) #[]) : Addr × Obj) ::
  ((nat_lit 124, Obj.mk (Value.type "function") Option.none (Data.func (FuncData.mk (Str.ofString "_law_pool") (Str.ofString "_law_pool") f124p (FuncBody.stmts f124b) f124s 3 [] Value.none Value.none Value.none (Value.str (Str.ofString "law_pb0446_01") 361) Option.none (Value.ref 123) Value.none 0)) #[]) : Addr × Obj) ::
  ((nat_lit 125, Obj.mk (Value.type "tuple") Option.none (Data.seq #[]) #[]) : Addr × Obj) ::
  ((nat_lit 127, Obj.mk (Value.type "tuple") Option.none (Data.seq #[Value.str (Str.ofString "source_one") 377, Value.str (Str.ofString "top_one") 378, Value.str (Str.ofString "digit_one") 379]) #[]) : Addr × Obj) ::
  ((nat_lit 128, Obj.mk (Value.type "tuple") Option.none (Data.seq #[]) #[]) : Addr × Obj) ::
  ((nat_lit 130, Obj.mk (Value.type "code") Option.none (Data.fields #[Value.str (Str.ofString "_law_take") 374, Value.str (Str.ofString "_law_take") 375, Value.str (Str.ofString "/claim/cut.py") 376, Value.int 136 0, Value.int 2 0, Value.int 0 0, Value.int 0 0, Value.int 3 0, Value.ref 125, Value.bool Bool.true, Value.int 181 0, Value.ref 126, Value.none, Value.ref 127, Value.ref 128, Value.ref 129, Value.int 380 0, Value.int 136 0, Value.str (Str.ofString "/claim/cut.py") 381]) #[]) : Addr × Obj) ::
  ((nat_lit 131, Obj.mk (Value.type "function") Option.none (Data.func (FuncData.mk (Str.ofString "_law_take") (Str.ofString "_law_take") f131p (FuncBody.stmts f131b) f131s 3 [] Value.none Value.none Value.none (Value.str (Str.ofString "law_pb0446_01") 361) Option.none (Value.ref 130) Value.none 0)) #[]) : Addr × Obj) ::
  ((nat_lit 132, Obj.mk (Value.type "tuple") Option.none (Data.seq #[]) #[]) : Addr × Obj) ::
  ((nat_lit 134, Obj.mk (Value.type "tuple") Option.none (Data.seq #[Value.str (Str.ofString "source_one") 386, Value.str (Str.ofString "things_one") 387]) #[]) : Addr × Obj) ::
  ((nat_lit 135, Obj.mk (Value.type "tuple") Option.none (Data.seq #[]) #[]) : Addr × Obj) ::
  ((nat_lit 137, Obj.mk (Value.type "code") Option.none (Data.fields #[Value.str (Str.ofString "_law_one") 383, Value.str (Str.ofString "_law_one") 384, Value.str (Str.ofString "/claim/cut.py") 385, Value.int 143 0, Value.int 2 0, Value.int 0 0, Value.int 0 0, Value.int 3 0, Value.ref 132, Value.bool Bool.true, Value.int 181 0, Value.ref 133, Value.none, Value.ref 134, Value.ref 135, Value.ref 136, Value.int 388 0, Value.int 143 0, Value.str (Str.ofString "/claim/cut.py") 389]) #[]) : Addr × Obj) ::
  ((nat_lit 138, Obj.mk (Value.type "function") Option.none (Data.func (FuncData.mk (Str.ofString "_law_one") (Str.ofString "_law_one") f138p (FuncBody.stmts f138b) f138s 3 [] Value.none Value.none Value.none (Value.str (Str.ofString "law_pb0446_01") 361) Option.none (Value.ref 137) Value.none 0)) #[]) : Addr × Obj) ::
  ((nat_lit 139, Obj.mk (Value.type "tuple") Option.none (Data.seq #[]) #[]) : Addr × Obj) ::
  ((nat_lit 141, Obj.mk (Value.type "tuple") Option.none (Data.seq #[Value.str (Str.ofString "many_one") 394, Value.str (Str.ofString "extra") 395, Value.str (Str.ofString "found_one") 396]) #[]) : Addr × Obj) ::
  ((nat_lit 142, Obj.mk (Value.type "tuple") Option.none (Data.seq #[]) #[]) : Addr × Obj) ::
  ((nat_lit 144, Obj.mk (Value.type "code") Option.none (Data.fields #[Value.str (Str.ofString "_law_number") 391, Value.str (Str.ofString "_law_number") 392, Value.str (Str.ofString "/claim/cut.py") 393, Value.int 145 0, Value.int 2 0, Value.int 0 0, Value.int 0 0, Value.int 3 0, Value.ref 139, Value.bool Bool.true, Value.int 181 0, Value.ref 140, Value.none, Value.ref 141, Value.ref 142, Value.ref 143, Value.int 397 0, Value.int 145 0, Value.str (Str.ofString "/claim/cut.py") 398]) #[]) : Addr × Obj) ::
  ((nat_lit 145, Obj.mk (Value.type "function") Option.none (Data.func (FuncData.mk (Str.ofString "_law_number") (Str.ofString "_law_number") f145p (FuncBody.stmts f145b) f145s 3 [] Value.none Value.none Value.none (Value.str (Str.ofString "law_pb0446_01") 361) Option.none (Value.ref 144) Value.none 0)) #[]) : Addr × Obj) ::
  ((nat_lit 146, Obj.mk (Value.type "tuple") Option.none (Data.seq #[]) #[]) : Addr × Obj) ::
  ((nat_lit 149, Obj.mk (Value.type "code") Option.none (Data.fields #[Value.str (Str.ofString "_law_written") 400, Value.str (Str.ofString "_law_written") 401, Value.str (Str.ofString "/claim/cut.py") 402, Value.int 153 0, Value.int 1 0, Value.int 0 0, Value.int 0 0, Value.int 3 0, Value.ref 146, Value.bool Bool.true, Value.int 181 0, Value.ref 147, Value.none, Value.none, Value.none, Value.ref 148, Value.int 403 0, Value.int 153 0, Value.str (Str.ofString "/claim/cut.py") 404]) #[]) : Addr × Obj) ::
  ((nat_lit 150, Obj.mk (Value.type "function") Option.none (Data.func (FuncData.mk (Str.ofString "_law_written") (Str.ofString "_law_written") f150p (FuncBody.stmts f150b) f150s 3 [] Value.none Value.none Value.none (Value.str (Str.ofString "law_pb0446_01") 361) Option.none (Value.ref 149) Value.none 0)) #[]) : Addr × Obj) ::
  ((nat_lit 151, Obj.mk (Value.type "tuple") Option.none (Data.seq #[]) #[]) : Addr × Obj) ::
  ((nat_lit 153, Obj.mk (Value.type "tuple") Option.none (Data.seq #[Value.str (Str.ofString "source_one") 409, Value.str (Str.ofString "told_one") 410, Value.str (Str.ofString "way") 411, Value.str (Str.ofString "at") 412, Value.str (Str.ofString "octet_one") 413]) #[]) : Addr × Obj) ::
  ((nat_lit 154, Obj.mk (Value.type "tuple") Option.none (Data.seq #[]) #[]) : Addr × Obj) ::
  ((nat_lit 156, Obj.mk (Value.type "code") Option.none (Data.fields #[Value.str (Str.ofString "_law_spoilt") 406, Value.str (Str.ofString "_law_spoilt") 407, Value.str (Str.ofString "/claim/cut.py") 408, Value.int 164 0, Value.int 2 0, Value.int 0 0, Value.int 0 0, Value.int 3 0, Value.ref 151, Value.bool Bool.true, Value.int 181 0, Value.ref 152, Value.none, Value.ref 153, Value.ref 154, Value.ref 155, Value.int 414 0, Value.int 164 0, Value.str (Str.ofString "/claim/cut.py") 415]) #[]) : Addr × Obj) ::
  ((nat_lit 157, Obj.mk (Value.type "function") Option.none (Data.func (FuncData.mk (Str.ofString "_law_spoilt") (Str.ofString "_law_spoilt") f157p (FuncBody.stmts f157b) f157s 3 [] Value.none Value.none Value.none (Value.str (Str.ofString "law_pb0446_01") 361) Option.none (Value.ref 156) Value.none 0)) #[]) : Addr × Obj) ::
  ((nat_lit 158, Obj.mk (Value.type "tuple") Option.none (Data.seq #[]) #[]) : Addr × Obj) ::
  ((nat_lit 160, Obj.mk (Value.type "tuple") Option.none (Data.seq #[Value.str (Str.ofString "octets_one") 420, Value.str (Str.ofString "at") 421, Value.str (Str.ofString "many_one") 422, Value.str (Str.ofString "turn") 423, Value.str (Str.ofString "octet_one") 424]) #[]) : Addr × Obj) ::
  ((nat_lit 161, Obj.mk (Value.type "tuple") Option.none (Data.seq #[]) #[]) : Addr × Obj) ::
  ((nat_lit 163, Obj.mk (Value.type "code") Option.none (Data.fields #[Value.str (Str.ofString "_law_next") 417, Value.str (Str.ofString "_law_next") 418, Value.str (Str.ofString "/claim/cut.py") 419, Value.int 175 0, Value.int 2 0, Value.int 0 0, Value.int 0 0, Value.int 3 0, Value.ref 158, Value.bool Bool.true, Value.int 181 0, Value.ref 159, Value.none, Value.ref 160, Value.ref 161, Value.ref 162, Value.int 425 0, Value.int 175 0, Value.str (Str.ofString "/claim/cut.py") 426]) #[]) : Addr × Obj) ::
  ((nat_lit 164, Obj.mk (Value.type "function") Option.none (Data.func (FuncData.mk (Str.ofString "_law_next") (Str.ofString "_law_next") f164p (FuncBody.stmts f164b) f164s 3 [] Value.none Value.none Value.none (Value.str (Str.ofString "law_pb0446_01") 361) Option.none (Value.ref 163) Value.none 0)) #[]) : Addr × Obj) ::
  ((nat_lit 165, Obj.mk (Value.type "tuple") Option.none (Data.seq #[]) #[]) : Addr × Obj) ::
  ((nat_lit 167, Obj.mk (Value.type "tuple") Option.none (Data.seq #[Value.str (Str.ofString "kind_one") 431]) #[]) : Addr × Obj) ::
  ((nat_lit 168, Obj.mk (Value.type "tuple") Option.none (Data.seq #[]) #[]) : Addr × Obj) ::
  ((nat_lit 170, Obj.mk (Value.type "code") Option.none (Data.fields #[Value.str (Str.ofString "_law_size") 428, Value.str (Str.ofString "_law_size") 429, Value.str (Str.ofString "/claim/cut.py") 430, Value.int 186 0, Value.int 1 0, Value.int 0 0, Value.int 0 0, Value.int 3 0, Value.ref 165, Value.bool Bool.true, Value.int 181 0, Value.ref 166, Value.none, Value.ref 167, Value.ref 168, Value.ref 169, Value.int 432 0, Value.int 186 0, Value.str (Str.ofString "/claim/cut.py") 433]) #[]) : Addr × Obj) ::
  ((nat_lit 171, Obj.mk (Value.type "function") Option.none (Data.func (FuncData.mk (Str.ofString "_law_size") (Str.ofString "_law_size") f171p (FuncBody.stmts f171b) f171s 3 [] Value.none Value.none Value.none (Value.str (Str.ofString "law_pb0446_01") 361) Option.none (Value.ref 170) Value.none 0)) #[]) : Addr × Obj) ::
  ((nat_lit 172, Obj.mk (Value.type "tuple") Option.none (Data.seq #[]) #[]) : Addr × Obj) ::
  ((nat_lit 174, Obj.mk (Value.type "tuple") Option.none (Data.seq #[Value.str (Str.ofString "octets_one") 438, Value.str (Str.ofString "column") 439, Value.str (Str.ofString "told_one") 440, Value.str (Str.ofString "found_one") 441, Value.str (Str.ofString "place_one") 442, Value.str (Str.ofString "at") 443, Value.str (Str.ofString "pair_one") 444, Value.str (Str.ofString "many_one") 445]) #[]) : Addr × Obj) ::
  ((nat_lit 175, Obj.mk (Value.type "tuple") Option.none (Data.seq #[]) #[]) : Addr × Obj) ::
  ((nat_lit 177, Obj.mk (Value.type "code") Option.none (Data.fields #[Value.str (Str.ofString "_law_read") 435, Value.str (Str.ofString "_law_read") 436, Value.str (Str.ofString "/claim/cut.py") 437, Value.int 188 0, Value.int 2 0, Value.int 0 0, Value.int 0 0, Value.int 3 0, Value.ref 172, Value.bool Bool.true, Value.int 181 0, Value.ref 173, Value.none, Value.ref 174, Value.ref 175, Value.ref 176, Value.int 446 0, Value.int 188 0, Value.str (Str.ofString "/claim/cut.py") 447]) #[]) : Addr × Obj) ::
  ((nat_lit 178, Obj.mk (Value.type "function") Option.none (Data.func (FuncData.mk (Str.ofString "_law_read") (Str.ofString "_law_read") f178p (FuncBody.stmts f178b) f178s 3 [] Value.none Value.none Value.none (Value.str (Str.ofString "law_pb0446_01") 361) Option.none (Value.ref 177) Value.none 0)) #[]) : Addr × Obj) ::
  ((nat_lit 179, Obj.mk (Value.type "tuple") Option.none (Data.seq #[]) #[]) : Addr × Obj) ::
  ((nat_lit 181, Obj.mk (Value.type "tuple") Option.none (Data.seq #[Value.str (Str.ofString "kind_one") 452, Value.str (Str.ofString "body_one") 453]) #[]) : Addr × Obj) ::
  ((nat_lit 182, Obj.mk (Value.type "tuple") Option.none (Data.seq #[]) #[]) : Addr × Obj) ::
  ((nat_lit 184, Obj.mk (Value.type "code") Option.none (Data.fields #[Value.str (Str.ofString "_law_value") 449, Value.str (Str.ofString "_law_value") 450, Value.str (Str.ofString "/claim/cut.py") 451, Value.int 210 0, Value.int 2 0, Value.int 0 0, Value.int 0 0, Value.int 3 0, Value.ref 179, Value.bool Bool.true, Value.int 181 0, Value.ref 180, Value.none, Value.ref 181, Value.ref 182, Value.ref 183, Value.int 454 0, Value.int 210 0, Value.str (Str.ofString "/claim/cut.py") 455]) #[]) : Addr × Obj) ::
  ((nat_lit 185, Obj.mk (Value.type "function") Option.none (Data.func (FuncData.mk (Str.ofString "_law_value") (Str.ofString "_law_value") f185p (FuncBody.stmts f185b) f185s 3 [] Value.none Value.none Value.none (Value.str (Str.ofString "law_pb0446_01") 361) Option.none (Value.ref 184) Value.none 0)) #[]) : Addr × Obj) ::
  ((nat_lit 186, Obj.mk (Value.type "tuple") Option.none (Data.seq #[]) #[]) : Addr × Obj) ::
  ((nat_lit 188, Obj.mk (Value.type "tuple") Option.none (Data.seq #[Value.str (Str.ofString "work_one") 460]) #[]) : Addr × Obj) ::
  ((nat_lit 189, Obj.mk (Value.type "tuple") Option.none (Data.seq #[]) #[]) : Addr × Obj) ::
  ((nat_lit 191, Obj.mk (Value.type "code") Option.none (Data.fields #[Value.str (Str.ofString "_law_heard") 457, Value.str (Str.ofString "_law_heard") 458, Value.str (Str.ofString "/claim/cut.py") 459, Value.int 216 0, Value.int 1 0, Value.int 0 0, Value.int 0 0, Value.int 3 0, Value.ref 186, Value.bool Bool.true, Value.int 181 0, Value.ref 187, Value.none, Value.ref 188, Value.ref 189, Value.ref 190, Value.int 461 0, Value.int 216 0, Value.str (Str.ofString "/claim/cut.py") 462]) #[]) : Addr × Obj) ::
  ((nat_lit 192, Obj.mk (Value.type "function") Option.none (Data.func (FuncData.mk (Str.ofString "_law_heard") (Str.ofString "_law_heard") f192p (FuncBody.stmts f192b) f192s 3 [] Value.none Value.none Value.none (Value.str (Str.ofString "law_pb0446_01") 361) Option.none (Value.ref 191) Value.none 0)) #[]) : Addr × Obj) ::
  ((nat_lit 193, Obj.mk (Value.type "tuple") Option.none (Data.seq #[]) #[]) : Addr × Obj) ::
  ((nat_lit 195, Obj.mk (Value.type "tuple") Option.none (Data.seq #[Value.str (Str.ofString "script") 467, Value.str (Str.ofString "k") 468, Value.str (Str.ofString "source_one") 469]) #[]) : Addr × Obj) ::
  ((nat_lit 196, Obj.mk (Value.type "tuple") Option.none (Data.seq #[Value.str (Str.ofString "column") 470, Value.str (Str.ofString "octets_one") 471]) #[]) : Addr × Obj) ::
  ((nat_lit 198, Obj.mk (Value.type "code") Option.none (Data.fields #[Value.str (Str.ofString "law") 464, Value.str (Str.ofString "law") 465, Value.str (Str.ofString "/claim/cut.py") 466, Value.int 221 0, Value.int 1 0, Value.int 0 0, Value.int 0 0, Value.int 3 0, Value.ref 193, Value.bool Bool.true, Value.int 181 0, Value.ref 194, Value.none, Value.ref 195, Value.ref 196, Value.ref 197, Value.int 472 0, Value.int 221 0, Value.str (Str.ofString "/claim/cut.py") 473]) #[]) : Addr × Obj) ::
  ((nat_lit 199, Obj.mk (Value.type "function") Option.none (Data.func (FuncData.mk (Str.ofString "law") (Str.ofString "law") f199p (FuncBody.stmts f199b) f199s 3 [] Value.none Value.none Value.none (Value.str (Str.ofString "law_pb0446_01") 361) Option.none (Value.ref 198) Value.none 0)) #[]) : Addr × Obj) :: []
def hd.adrs : List Addr := [2, 3, 15, 22, 24, 25, 27, 28, 29, 30, 31, 32, 35, 42, 43, 44, 47, 49, 50, 52, 53, 54, 56, 57, 59, 60, 61, 63, 64, 66, 67, 68, 69, 71, 72, 74, 75, 76, 78, 79, 81, 82, 83, 85, 86, 88, 89, 90, 92, 93, 95, 96, 97, 99, 100, 102, 103, 104, 106, 107, 109, 110, 111, 113, 114, 116, 117, 118, 120, 121, 123, 124, 125, 127, 128, 130, 131, 132, 134, 135, 137, 138, 139, 141, 142, 144, 145, 146, 149, 150, 151, 153, 154, 156, 157, 158, 160, 161, 163, 164, 165, 167, 168, 170, 171, 172, 174, 175, 177, 178, 179, 181, 182, 184, 185, 186, 188, 189, 191, 192, 193, 195, 196, 198, 199]
/-- the program's top without the four texts that name its files -/
noncomputable def hd.view_39 : Program := { PySem.Challenge.rw_pb0446_01.row.prog with main := { PySem.Challenge.rw_pb0446_01.row.prog.main with body := Subtype.val (⟨_, by conv => rhs; whnf⟩ : { b : List Stmt // b = (((PySem.Challenge.rw_pb0446_01.row.prog.main.body.eraseIdx 20).eraseIdx 8).eraseIdx 3).eraseIdx 0 }) } }
theorem adrs_eq : ∀ P, hd.adrs = (hd.heap_39 P).map (·.1) := fun _ => by kernel_rfl
noncomputable abbrev hd.loose : List PySem.Str := [Str.ofString "REPLACEMENT"]
noncomputable abbrev hd.read : List (PySem.Str × WData) := [(Str.ofString "REPLACEMENT", WData.str ⟨#[65533]⟩)]
noncomputable abbrev hd.hook : Hook := kmHook hd.heap_39 hd.adrs adrs_eq [194]
end Mine
end
section
open PySem PySem.W PyProof.Rows
set_option maxRecDepth 100000
namespace Mine
noncomputable abbrev top.p : Program := PySem.Challenge.rw_pb0446_01.row.prog
noncomputable abbrev top.b : List Stmt := behindTheImports top.p
noncomputable def top.env : Env := { scope := top.p.main.scope, locals := mainNs, globals := mainNs, cells := [], code := Value.ref 13, frame := some 14 }
noncomputable abbrev top.c : Code := .body top.b top.env
abbrev top.ann : Option Value := Option.some (Value.ref 6)
abbrev top.q : Pos := Pos.mk 0 0 0 0
theorem piece_cut {w : World} {n N : Nat} {s s' r : Shared} {l : List Stmt} {k : Nat} {c : Code} {pos p' : Pos} (h : segRun treeTable top.p w 11 top.ann 1 n s (piecesOf (l.take k) top.env c pos [topFrame top.q]) = some (.next, s', c, p'))
    (k' : topRun treeTable top.p w 11 top.ann N s' (restOf (l.drop k) top.env c p' [topFrame top.q]) = some r) : topRun treeTable top.p w 11 top.ann (n + N) s (restOf l top.env c pos [topFrame top.q]) = some r := by
  have := piece_app h k'
  rwa [List.take_append_drop] at this
noncomputable def q11v0 : Params → Obj := fun P => Obj.mk (Value.type "tuple") Option.none (Data.seq #[]) #[]
noncomputable def q12v0 : Params → Obj := fun P => Obj.mk Value.none Option.none (Data.fields #[]) #[]
noncomputable def q13v0 : Params → Obj := fun P => Obj.mk (Value.type "code") Option.none (Data.fields #[Value.str (Str.ofString "<module>") 182, Value.str (Str.ofString "<module>") 183, Value.str (Str.ofString "/claim/cut.py") 184, Value.int 1 0, Value.int 0 0, Value.int 0 0, Value.int 0 0, Value.int 0 0, Value.ref 11, Value.bool Bool.false, Value.int 181 0, Value.ref 12, Value.none, Value.none, Value.none, Value.none, Value.int 185 0, Value.int 1 0, Value.str (Str.ofString "/claim/cut.py") 186]) #[]
noncomputable def q14v0 : Params → Obj := fun P => Obj.mk (Value.type "frame") Option.none Data.plain #[Option.some (Value.ref 13), Option.some (Value.ref 3), Option.some (Value.ref 3), Option.none, Option.some (Value.str (Str.ofString "__main__") 164), Option.none, Option.some (Value.ref 0)]
noncomputable def hpA : Params → Heap := fun P => Heap.mk (Array.mk (boot_o_0 P :: boot_o_1 P :: boot_o_2 P :: boot_o_3 P :: boot_o_4 P :: boot_o_5 P :: boot_o_6 P :: boot_o_7 P :: boot_o_8 P :: boot_o_9 P :: boot_o_10 P :: q11v0 P :: q12v0 P :: q13v0 P :: q14v0 P :: [])) (Life.mk [] [] [] 0 [] [] Bool.false #[] [] 0 Bool.false Bool.false Bool.false 0 [2000, 10, 10] Bool.false 0 Bool.true [] [] 0 Bool.false)
theorem top.pre (w : World) (os : OsState) : topGo treeTable top.p w 11 top.ann 12 ⟨boot_heap w.params, Array.mk [], boot_drawn, boot_toks, os⟩ (topStub top.p) = some (⟨hpA w.params, Array.mk [], Drawn.mk 0 0 0 0, 187, os⟩, ⟨denote treeTable top.c, top.c, Pos.mk 0 0 0 0, [topFrame top.q]⟩) := by kernel_rfl
theorem top.block (w : World) (os : OsState) : segRun treeTable top.p w 11 top.ann 1 1 ⟨hpA w.params, Array.mk [], Drawn.mk 0 0 0 0, 187, os⟩ (blockOf top.b top.env top.c (Pos.mk 0 0 0 0) [topFrame top.q]) = some (.next, ⟨hpA w.params, Array.mk [], Drawn.mk 0 0 0 0, 187, os⟩, top.c, Pos.mk 0 0 0 0) := by kernel_rfl
noncomputable def q2v0 : Params → Obj := fun P => Obj.mk Value.none Option.none (Data.dict #[DictEntry.mk (PyData.keyHash P (Str.ofString "type.__subclasses__.Exception.0")) (Value.str (Str.ofString "type.__subclasses__.Exception.0") 214) (Value.int 31 0), DictEntry.mk (PyData.keyHash P (Str.ofString "type.__subclasses__.Exception.n")) (Value.str (Str.ofString "type.__subclasses__.Exception.n") 215) (Value.int 1 0)] 2) #[]
noncomputable def q3v0 : Params → Obj := fun P => Obj.mk (Value.type "dict") Option.none (Data.dict #[DictEntry.mk (PyData.keyHash P (Str.ofString "__name__")) (Value.str (Str.ofString "__name__") 165) (Value.str (Str.ofString "pagebase.errors") 187), DictEntry.mk (PyData.keyHash P (Str.ofString "__doc__")) (Value.str (Str.ofString "__doc__") 166) Value.none, DictEntry.mk (PyData.keyHash P (Str.ofString "__package__")) (Value.str (Str.ofString "__package__") 167) Value.none, DictEntry.mk (PyData.keyHash P (Str.ofString "__loader__")) (Value.str (Str.ofString "__loader__") 168) (Value.builtin "__main__.__loader__#opaque"), DictEntry.mk (PyData.keyHash P (Str.ofString "__spec__")) (Value.str (Str.ofString "__spec__") 169) Value.none, DictEntry.mk (PyData.keyHash P (Str.ofString "__annotations__")) (Value.str (Str.ofString "__annotations__") 170) (Value.ref 6), DictEntry.mk (PyData.keyHash P (Str.ofString "__builtins__")) (Value.str (Str.ofString "__builtins__") 171) (Value.ref 4), DictEntry.mk (PyData.keyHash P (Str.ofString "__file__")) (Value.str (Str.ofString "__file__") 173) (Value.str (Str.ofString "/claim/cut.py") 172), DictEntry.mk (PyData.keyHash P (Str.ofString "__cached__")) (Value.str (Str.ofString "__cached__") 174) Value.none, DictEntry.mk (PyData.keyHash P (Str.ofString "PagebaseError")) (Value.str (Str.ofString "PagebaseError") 217) (Value.ref 31)] 10) #[]
noncomputable def q12v1 : Params → Obj := fun P => Obj.mk Value.none Option.none (Data.fields #[Value.int 2 0, Value.int 0 0, Value.ref 20]) #[]
noncomputable def q15v0 : Params → Obj := fun P => Obj.mk (Value.type "tuple") Option.none (Data.seq #[Value.type "Exception"]) #[]
noncomputable def q16v0 : Params → Obj := fun P => Obj.mk (Value.type "builtin_function_or_method") Option.none (Data.fields #[Value.builtin "type.__prepare__", Value.type "type"]) #[]
noncomputable def q17v0 : Params → Obj := fun P => Obj.mk (Value.type "dict") Option.none (Data.dict #[DictEntry.mk (PyData.keyHash P (Str.ofString "__module__")) (Value.str (Str.ofString "__module__") 196) (Value.str (Str.ofString "pagebase.errors") 187), DictEntry.mk (PyData.keyHash P (Str.ofString "__qualname__")) (Value.str (Str.ofString "__qualname__") 198) (Value.str (Str.ofString "PagebaseError") 197), DictEntry.mk (PyData.keyHash P (Str.ofString "__firstlineno__")) (Value.str (Str.ofString "__firstlineno__") 200) (Value.int 2 199), DictEntry.mk (PyData.keyHash P (Str.ofString "__init__")) (Value.str (Str.ofString "__init__") 208) (Value.ref 28), DictEntry.mk (PyData.keyHash P (Str.ofString "__static_attributes__")) (Value.str (Str.ofString "__static_attributes__") 210) (Value.ref 29)] 5) #[]
noncomputable def q18v0 : Params → Obj := fun P => Obj.mk (Value.type "tuple") Option.none (Data.seq #[]) #[]
noncomputable def q19v0 : Params → Obj := fun P => Obj.mk Value.none Option.none (Data.fields #[Value.int 4 0, Value.int 4 0, Value.ref 27]) #[]
noncomputable def q20v0 : Params → Obj := fun P => Obj.mk (Value.type "code") Option.none (Data.fields #[Value.str (Str.ofString "PagebaseError") 191, Value.str (Str.ofString "PagebaseError") 192, Value.str (Str.ofString "/claim/cut.py") 193, Value.int 2 0, Value.int 0 0, Value.int 0 0, Value.int 0 0, Value.int 0 0, Value.ref 18, Value.bool Bool.false, Value.int 181 0, Value.ref 19, Value.none, Value.none, Value.none, Value.none, Value.int 194 0, Value.int 2 0, Value.str (Str.ofString "/claim/cut.py") 195]) #[]
noncomputable def q21v0 : Params → Obj := fun P => Obj.mk (Value.type "frame") Option.none Data.plain #[Option.some (Value.ref 20), Option.some (Value.ref 3), Option.some (Value.ref 17), Option.none, Option.some (Value.str (Str.ofString "pagebase.errors") 187), Option.none, Option.some (Value.ref 0)]
noncomputable def q22v0 : Params → Obj := fun P => Obj.mk (Value.type "tuple") Option.none (Data.seq #[]) #[]
noncomputable def q23v0 : Params → Obj := fun P => Obj.mk Value.none Option.none (Data.fields #[]) #[]
noncomputable def q24v0 : Params → Obj := fun P => Obj.mk (Value.type "tuple") Option.none (Data.seq #[Value.str (Str.ofString "self") 204, Value.str (Str.ofString "message") 205]) #[]
noncomputable def q25v0 : Params → Obj := fun P => Obj.mk (Value.type "tuple") Option.none (Data.seq #[]) #[]
noncomputable def q26v0 : Params → Obj := fun P => Obj.mk Value.none Option.none (Data.func (FuncData.mk (Str.ofString "__init__") (Str.ofString "PagebaseError.__init__") f28p (FuncBody.stmts f28b) f28s 0 [] Value.none Value.none Value.none Value.none Option.none Value.none Value.none 0)) #[]
noncomputable def q27v0 : Params → Obj := fun P => Obj.mk (Value.type "code") Option.none (Data.fields #[Value.str (Str.ofString "__init__") 201, Value.str (Str.ofString "PagebaseError.__init__") 202, Value.str (Str.ofString "/claim/cut.py") 203, Value.int 4 0, Value.int 2 0, Value.int 0 0, Value.int 0 0, Value.int 3 0, Value.ref 22, Value.bool Bool.true, Value.int 181 0, Value.ref 23, Value.none, Value.ref 24, Value.ref 25, Value.ref 26, Value.int 206 0, Value.int 4 0, Value.str (Str.ofString "/claim/cut.py") 207]) #[]
noncomputable def q28v0 : Params → Obj := fun P => Obj.mk (Value.type "function") Option.none (Data.func (FuncData.mk (Str.ofString "__init__") (Str.ofString "PagebaseError.__init__") f28p (FuncBody.stmts f28b) f28s 3 [] Value.none Value.none Value.none (Value.str (Str.ofString "pagebase.errors") 187) Option.none (Value.ref 27) Value.none 0)) #[]
noncomputable def q29v0 : Params → Obj := fun P => Obj.mk (Value.type "tuple") Option.none (Data.seq #[Value.str (Str.ofString "message") 209]) #[]
noncomputable def q30v0 : Params → Obj := fun P => Obj.mk (Value.type "dict") Option.none (Data.dict #[DictEntry.mk (PyData.keyHash P (Str.ofString "__module__")) (Value.str (Str.ofString "__module__") 196) (Value.str (Str.ofString "pagebase.errors") 187), DictEntry.mk (PyData.keyHash P (Str.ofString "__firstlineno__")) (Value.str (Str.ofString "__firstlineno__") 200) (Value.int 2 199), DictEntry.mk (PyData.keyHash P (Str.ofString "__init__")) (Value.str (Str.ofString "__init__") 208) (Value.ref 28), DictEntry.mk (PyData.keyHash P (Str.ofString "__static_attributes__")) (Value.str (Str.ofString "__static_attributes__") 210) (Value.ref 29), DictEntry.mk (PyData.keyHash P (Str.ofString "__weakref__")) (Value.str (Str.ofString "__weakref__") 212) (Value.ref 32), DictEntry.mk (PyData.keyHash P (Str.ofString "__doc__")) (Value.str (Str.ofString "__doc__") 213) Value.none] 3) #[]
noncomputable def q31v0 : Params → Obj := fun P => Obj.mk (Value.type "type") Option.none (Data.cls (ClassData.mk (Str.ofString "PagebaseError") [Value.type "Exception"] [Value.ref 31, Value.type "Exception", Value.type "BaseException", Value.type "object"] 30 (Str.ofString "PagebaseError") Bool.true [] [] Bool.false Option.none Bool.false)) #[Option.some (Value.ref 15), Option.none, Option.some (Value.str (Str.ofString "PagebaseError") 189), Option.some (Value.str (Str.ofString "PagebaseError") 197), Option.some (Value.builtin "Exception.__new__"), Option.some (Value.bool Bool.true)]
noncomputable def q32v0 : Params → Obj := fun P => Obj.mk (Value.type "getset_descriptor") Option.none (Data.fields #[Value.str (Str.ofString "__weakref__") 211, Value.ref 31, Value.builtin "ExceptionGroup.__weakref__", Value.none]) #[]
noncomputable def q33v0 : Params → Obj := fun P => Obj.mk (Value.type "super") Option.none (Data.fields #[Value.ref 31, Value.ref 31, Value.ref 31]) #[]
noncomputable def q34v0 : Params → Obj := fun P => Obj.mk (Value.type "builtin_function_or_method") Option.none (Data.fields #[Value.builtin "object.__init_subclass__", Value.ref 31]) #[]
noncomputable def hp0 : Params → Heap := fun P => Heap.mk (Array.mk (boot_o_0 P :: boot_o_1 P :: q2v0 P :: q3v0 P :: boot_o_4 P :: boot_o_5 P :: boot_o_6 P :: boot_o_7 P :: boot_o_8 P :: boot_o_9 P :: boot_o_10 P :: q11v0 P :: q12v1 P :: q13v0 P :: q14v0 P :: q15v0 P :: q16v0 P :: q17v0 P :: q18v0 P :: q19v0 P :: q20v0 P :: q21v0 P :: q22v0 P :: q23v0 P :: q24v0 P :: q25v0 P :: q26v0 P :: q27v0 P :: q28v0 P :: q29v0 P :: q30v0 P :: q31v0 P :: q32v0 P :: q33v0 P :: q34v0 P :: [])) (Life.mk [] [] [] 0 [] [] Bool.false #[] [] 0 Bool.false Bool.false Bool.false 0 [2000, 10, 10] Bool.false 0 Bool.true [] [] 0 Bool.false)
noncomputable abbrev top.r0 : List Stmt := top.b
theorem top.seg0 (w : World) (os : OsState) : segRun treeTable top.p w 11 top.ann 1 238 ⟨hpA w.params, Array.mk [], Drawn.mk 0 0 0 0, 187, os⟩ (piecesOf (List.take 2 top.r0) top.env top.c (Pos.mk 0 0 0 0) [topFrame top.q]) = some (.next, ⟨hp0 w.params, Array.mk [], Drawn.mk 0 0 0 0, 218, os⟩, top.c, Pos.mk 2 0 5 30) := by kernel_rfl
noncomputable def q3v1 : Params → Obj := fun P => Obj.mk (Value.type "dict") Option.none (Data.dict #[DictEntry.mk (PyData.keyHash P (Str.ofString "__name__")) (Value.str (Str.ofString "__name__") 165) (Value.str (Str.ofString "pagebase.errors") 187), DictEntry.mk (PyData.keyHash P (Str.ofString "__doc__")) (Value.str (Str.ofString "__doc__") 166) Value.none, DictEntry.mk (PyData.keyHash P (Str.ofString "__package__")) (Value.str (Str.ofString "__package__") 167) Value.none, DictEntry.mk (PyData.keyHash P (Str.ofString "__loader__")) (Value.str (Str.ofString "__loader__") 168) (Value.builtin "__main__.__loader__#opaque"), DictEntry.mk (PyData.keyHash P (Str.ofString "__spec__")) (Value.str (Str.ofString "__spec__") 169) Value.none, DictEntry.mk (PyData.keyHash P (Str.ofString "__annotations__")) (Value.str (Str.ofString "__annotations__") 170) (Value.ref 6), DictEntry.mk (PyData.keyHash P (Str.ofString "__builtins__")) (Value.str (Str.ofString "__builtins__") 171) (Value.ref 4), DictEntry.mk (PyData.keyHash P (Str.ofString "__file__")) (Value.str (Str.ofString "__file__") 173) (Value.str (Str.ofString "/claim/cut.py") 172), DictEntry.mk (PyData.keyHash P (Str.ofString "__cached__")) (Value.str (Str.ofString "__cached__") 174) Value.none, DictEntry.mk (PyData.keyHash P (Str.ofString "PagebaseError")) (Value.str (Str.ofString "PagebaseError") 217) (Value.ref 31), DictEntry.mk (PyData.keyHash P (Str.ofString "CorruptError")) (Value.str (Str.ofString "CorruptError") 233) (Value.ref 44)] 11) #[]
noncomputable def q12v2 : Params → Obj := fun P => Obj.mk Value.none Option.none (Data.fields #[Value.int 2 0, Value.int 0 0, Value.ref 20, Value.int 6 0, Value.int 0 0, Value.ref 40]) #[]
noncomputable def q31v1 : Params → Obj := fun P => Obj.mk (Value.type "type") Option.none (Data.cls (ClassData.mk (Str.ofString "PagebaseError") [Value.type "Exception"] [Value.ref 31, Value.type "Exception", Value.type "BaseException", Value.type "object"] 30 (Str.ofString "PagebaseError") Bool.true [] [Value.ref 44] Bool.false Option.none Bool.false)) #[Option.some (Value.ref 15), Option.none, Option.some (Value.str (Str.ofString "PagebaseError") 189), Option.some (Value.str (Str.ofString "PagebaseError") 197), Option.some (Value.builtin "Exception.__new__"), Option.some (Value.bool Bool.true)]
noncomputable def q35v0 : Params → Obj := fun P => Obj.mk (Value.type "tuple") Option.none (Data.seq #[Value.ref 31]) #[]
noncomputable def q36v0 : Params → Obj := fun P => Obj.mk (Value.type "builtin_function_or_method") Option.none (Data.fields #[Value.builtin "type.__prepare__", Value.type "type"]) #[]
noncomputable def q37v0 : Params → Obj := fun P => Obj.mk (Value.type "dict") Option.none (Data.dict #[DictEntry.mk (PyData.keyHash P (Str.ofString "__module__")) (Value.str (Str.ofString "__module__") 225) (Value.str (Str.ofString "pagebase.errors") 187), DictEntry.mk (PyData.keyHash P (Str.ofString "__qualname__")) (Value.str (Str.ofString "__qualname__") 227) (Value.str (Str.ofString "CorruptError") 226), DictEntry.mk (PyData.keyHash P (Str.ofString "__firstlineno__")) (Value.str (Str.ofString "__firstlineno__") 229) (Value.int 6 228), DictEntry.mk (PyData.keyHash P (Str.ofString "__static_attributes__")) (Value.str (Str.ofString "__static_attributes__") 230) (Value.ref 42)] 4) #[]
noncomputable def q38v0 : Params → Obj := fun P => Obj.mk (Value.type "tuple") Option.none (Data.seq #[]) #[]
noncomputable def q39v0 : Params → Obj := fun P => Obj.mk Value.none Option.none (Data.fields #[]) #[]
noncomputable def q40v0 : Params → Obj := fun P => Obj.mk (Value.type "code") Option.none (Data.fields #[Value.str (Str.ofString "CorruptError") 220, Value.str (Str.ofString "CorruptError") 221, Value.str (Str.ofString "/claim/cut.py") 222, Value.int 6 0, Value.int 0 0, Value.int 0 0, Value.int 0 0, Value.int 0 0, Value.ref 38, Value.bool Bool.false, Value.int 181 0, Value.ref 39, Value.none, Value.none, Value.none, Value.none, Value.int 223 0, Value.int 6 0, Value.str (Str.ofString "/claim/cut.py") 224]) #[]
noncomputable def q41v0 : Params → Obj := fun P => Obj.mk (Value.type "frame") Option.none Data.plain #[Option.some (Value.ref 40), Option.some (Value.ref 3), Option.some (Value.ref 37), Option.none, Option.some (Value.str (Str.ofString "pagebase.errors") 187), Option.none, Option.some (Value.ref 0)]
noncomputable def q42v0 : Params → Obj := fun P => Obj.mk (Value.type "tuple") Option.none (Data.seq #[]) #[]
noncomputable def q43v0 : Params → Obj := fun P => Obj.mk (Value.type "dict") Option.none (Data.dict #[DictEntry.mk (PyData.keyHash P (Str.ofString "__module__")) (Value.str (Str.ofString "__module__") 225) (Value.str (Str.ofString "pagebase.errors") 187), DictEntry.mk (PyData.keyHash P (Str.ofString "__firstlineno__")) (Value.str (Str.ofString "__firstlineno__") 229) (Value.int 6 228), DictEntry.mk (PyData.keyHash P (Str.ofString "__static_attributes__")) (Value.str (Str.ofString "__static_attributes__") 230) (Value.ref 42), DictEntry.mk (PyData.keyHash P (Str.ofString "__doc__")) (Value.str (Str.ofString "__doc__") 231) Value.none] 2) #[]
noncomputable def q44v0 : Params → Obj := fun P => Obj.mk (Value.type "type") Option.none (Data.cls (ClassData.mk (Str.ofString "CorruptError") [Value.ref 31] [Value.ref 44, Value.ref 31, Value.type "Exception", Value.type "BaseException", Value.type "object"] 43 (Str.ofString "CorruptError") Bool.true [] [] Bool.false Option.none Bool.false)) #[Option.some (Value.ref 35), Option.none, Option.some (Value.str (Str.ofString "CorruptError") 218), Option.some (Value.str (Str.ofString "CorruptError") 226), Option.some (Value.builtin "Exception.__new__"), Option.some (Value.bool Bool.true)]
noncomputable def q45v0 : Params → Obj := fun P => Obj.mk (Value.type "super") Option.none (Data.fields #[Value.ref 44, Value.ref 44, Value.ref 44]) #[]
noncomputable def q46v0 : Params → Obj := fun P => Obj.mk (Value.type "builtin_function_or_method") Option.none (Data.fields #[Value.builtin "object.__init_subclass__", Value.ref 44]) #[]
noncomputable def hp1 : Params → Heap := fun P => Heap.mk (Array.mk (boot_o_0 P :: boot_o_1 P :: q2v0 P :: q3v1 P :: boot_o_4 P :: boot_o_5 P :: boot_o_6 P :: boot_o_7 P :: boot_o_8 P :: boot_o_9 P :: boot_o_10 P :: q11v0 P :: q12v2 P :: q13v0 P :: q14v0 P :: q15v0 P :: q16v0 P :: q17v0 P :: q18v0 P :: q19v0 P :: q20v0 P :: q21v0 P :: q22v0 P :: q23v0 P :: q24v0 P :: q25v0 P :: q26v0 P :: q27v0 P :: q28v0 P :: q29v0 P :: q30v0 P :: q31v1 P :: q32v0 P :: q33v0 P :: q34v0 P :: q35v0 P :: q36v0 P :: q37v0 P :: q38v0 P :: q39v0 P :: q40v0 P :: q41v0 P :: q42v0 P :: q43v0 P :: q44v0 P :: q45v0 P :: q46v0 P :: [])) (Life.mk [] [] [] 0 [] [] Bool.false #[] [] 0 Bool.false Bool.false Bool.false 0 [2000, 10, 10] Bool.false 0 Bool.true [] [] 0 Bool.false)
noncomputable abbrev top.r1 : List Stmt := List.drop 2 top.r0
theorem top.seg1 (w : World) (os : OsState) : segRun treeTable top.p w 11 top.ann 1 214 ⟨hp0 w.params, Array.mk [], Drawn.mk 0 0 0 0, 218, os⟩ (piecesOf (List.take 1 top.r1) top.env top.c (Pos.mk 2 0 5 30) [topFrame top.q]) = some (.next, ⟨hp1 w.params, Array.mk [], Drawn.mk 0 0 0 0, 234, os⟩, top.c, Pos.mk 6 0 7 8) := by kernel_rfl
noncomputable def q3v2 : Params → Obj := fun P => Obj.mk (Value.type "dict") Option.none (Data.dict #[DictEntry.mk (PyData.keyHash P (Str.ofString "__name__")) (Value.str (Str.ofString "__name__") 165) (Value.str (Str.ofString "pagebase.records") 270), DictEntry.mk (PyData.keyHash P (Str.ofString "__doc__")) (Value.str (Str.ofString "__doc__") 166) Value.none, DictEntry.mk (PyData.keyHash P (Str.ofString "__package__")) (Value.str (Str.ofString "__package__") 167) Value.none, DictEntry.mk (PyData.keyHash P (Str.ofString "__loader__")) (Value.str (Str.ofString "__loader__") 168) (Value.builtin "__main__.__loader__#opaque"), DictEntry.mk (PyData.keyHash P (Str.ofString "__spec__")) (Value.str (Str.ofString "__spec__") 169) Value.none, DictEntry.mk (PyData.keyHash P (Str.ofString "__annotations__")) (Value.str (Str.ofString "__annotations__") 170) (Value.ref 6), DictEntry.mk (PyData.keyHash P (Str.ofString "__builtins__")) (Value.str (Str.ofString "__builtins__") 171) (Value.ref 4), DictEntry.mk (PyData.keyHash P (Str.ofString "__file__")) (Value.str (Str.ofString "__file__") 173) (Value.str (Str.ofString "/claim/cut.py") 172), DictEntry.mk (PyData.keyHash P (Str.ofString "__cached__")) (Value.str (Str.ofString "__cached__") 174) Value.none, DictEntry.mk (PyData.keyHash P (Str.ofString "PagebaseError")) (Value.str (Str.ofString "PagebaseError") 217) (Value.ref 31), DictEntry.mk (PyData.keyHash P (Str.ofString "CorruptError")) (Value.str (Str.ofString "CorruptError") 233) (Value.ref 44), DictEntry.mk (PyData.keyHash P (Str.ofString "REPLACEMENT")) (Value.str (Str.ofString "REPLACEMENT") 238) (Value.str (Str.ofString "�") 237), DictEntry.mk (PyData.keyHash P (Str.ofString "lead_of")) (Value.str (Str.ofString "lead_of") 245) (Value.ref 53), DictEntry.mk (PyData.keyHash P (Str.ofString "text_of")) (Value.str (Str.ofString "text_of") 256) (Value.ref 60), DictEntry.mk (PyData.keyHash P (Str.ofString "code_at")) (Value.str (Str.ofString "code_at") 269) (Value.ref 67), DictEntry.mk (PyData.keyHash P (Str.ofString "NUMBER_SIZES")) (Value.str (Str.ofString "NUMBER_SIZES") 279) (Value.ref 68), DictEntry.mk (PyData.keyHash P (Str.ofString "ZERO_TYPE")) (Value.str (Str.ofString "ZERO_TYPE") 281) (Value.int 8 280)] 17) #[]
noncomputable def q12v3 : Params → Obj := fun P => Obj.mk Value.none Option.none (Data.fields #[Value.int 2 0, Value.int 0 0, Value.ref 20, Value.int 6 0, Value.int 0 0, Value.ref 40, Value.int 10 0, Value.int 0 0, Value.ref 52, Value.int 20 0, Value.int 0 0, Value.ref 59, Value.int 35 0, Value.int 0 0, Value.ref 66]) #[]
noncomputable def q47v0 : Params → Obj := fun P => Obj.mk (Value.type "tuple") Option.none (Data.seq #[]) #[]
noncomputable def q48v0 : Params → Obj := fun P => Obj.mk Value.none Option.none (Data.fields #[]) #[]
noncomputable def q49v0 : Params → Obj := fun P => Obj.mk (Value.type "tuple") Option.none (Data.seq #[Value.str (Str.ofString "octet") 242]) #[]
noncomputable def q50v0 : Params → Obj := fun P => Obj.mk (Value.type "tuple") Option.none (Data.seq #[]) #[]
noncomputable def q51v0 : Params → Obj := fun P => Obj.mk Value.none Option.none (Data.func (FuncData.mk (Str.ofString "lead_of") (Str.ofString "lead_of") f53p (FuncBody.stmts f53b) f53s 0 [] Value.none Value.none Value.none Value.none Option.none Value.none Value.none 0)) #[]
noncomputable def q52v0 : Params → Obj := fun P => Obj.mk (Value.type "code") Option.none (Data.fields #[Value.str (Str.ofString "lead_of") 239, Value.str (Str.ofString "lead_of") 240, Value.str (Str.ofString "/claim/cut.py") 241, Value.int 10 0, Value.int 1 0, Value.int 0 0, Value.int 0 0, Value.int 3 0, Value.ref 47, Value.bool Bool.true, Value.int 181 0, Value.ref 48, Value.none, Value.ref 49, Value.ref 50, Value.ref 51, Value.int 243 0, Value.int 10 0, Value.str (Str.ofString "/claim/cut.py") 244]) #[]
noncomputable def q53v0 : Params → Obj := fun P => Obj.mk (Value.type "function") Option.none (Data.func (FuncData.mk (Str.ofString "lead_of") (Str.ofString "lead_of") f53p (FuncBody.stmts f53b) f53s 3 [] Value.none Value.none Value.none (Value.str (Str.ofString "pagebase.values") 234) Option.none (Value.ref 52) Value.none 0)) #[]
noncomputable def q54v0 : Params → Obj := fun P => Obj.mk (Value.type "tuple") Option.none (Data.seq #[]) #[]
noncomputable def q55v0 : Params → Obj := fun P => Obj.mk Value.none Option.none (Data.fields #[]) #[]
noncomputable def q56v0 : Params → Obj := fun P => Obj.mk (Value.type "tuple") Option.none (Data.seq #[Value.str (Str.ofString "octets") 249, Value.str (Str.ofString "signs") 250, Value.str (Str.ofString "at") 251, Value.str (Str.ofString "lead") 252, Value.str (Str.ofString "code") 253]) #[]
noncomputable def q57v0 : Params → Obj := fun P => Obj.mk (Value.type "tuple") Option.none (Data.seq #[]) #[]
noncomputable def q58v0 : Params → Obj := fun P => Obj.mk Value.none Option.none (Data.func (FuncData.mk (Str.ofString "text_of") (Str.ofString "text_of") f60p (FuncBody.stmts f60b) f60s 0 [] Value.none Value.none Value.none Value.none Option.none Value.none Value.none 0)) #[]
noncomputable def q59v0 : Params → Obj := fun P => Obj.mk (Value.type "code") Option.none (Data.fields #[Value.str (Str.ofString "text_of") 246, Value.str (Str.ofString "text_of") 247, Value.str (Str.ofString "/claim/cut.py") 248, Value.int 20 0, Value.int 1 0, Value.int 0 0, Value.int 0 0, Value.int 3 0, Value.ref 54, Value.bool Bool.true, Value.int 181 0, Value.ref 55, Value.none, Value.ref 56, Value.ref 57, Value.ref 58, Value.int 254 0, Value.int 20 0, Value.str (Str.ofString "/claim/cut.py") 255]) #[]
noncomputable def q60v0 : Params → Obj := fun P => Obj.mk (Value.type "function") Option.none (Data.func (FuncData.mk (Str.ofString "text_of") (Str.ofString "text_of") f60p (FuncBody.stmts f60b) f60s 3 [] Value.none Value.none Value.none (Value.str (Str.ofString "pagebase.values") 234) Option.none (Value.ref 59) Value.none 0)) #[]
noncomputable def q61v0 : Params → Obj := fun P => Obj.mk (Value.type "tuple") Option.none (Data.seq #[]) #[]
noncomputable def q62v0 : Params → Obj := fun P => Obj.mk Value.none Option.none (Data.fields #[]) #[]
noncomputable def q63v0 : Params → Obj := fun P => Obj.mk (Value.type "tuple") Option.none (Data.seq #[Value.str (Str.ofString "octets") 260, Value.str (Str.ofString "at") 261, Value.str (Str.ofString "lead") 262, Value.str (Str.ofString "follow") 263, Value.str (Str.ofString "code") 264, Value.str (Str.ofString "least") 265, Value.str (Str.ofString "place") 266]) #[]
noncomputable def q64v0 : Params → Obj := fun P => Obj.mk (Value.type "tuple") Option.none (Data.seq #[]) #[]
noncomputable def q65v0 : Params → Obj := fun P => Obj.mk Value.none Option.none (Data.func (FuncData.mk (Str.ofString "code_at") (Str.ofString "code_at") f67p (FuncBody.stmts f67b) f67s 0 [] Value.none Value.none Value.none Value.none Option.none Value.none Value.none 0)) #[]
noncomputable def q66v0 : Params → Obj := fun P => Obj.mk (Value.type "code") Option.none (Data.fields #[Value.str (Str.ofString "code_at") 257, Value.str (Str.ofString "code_at") 258, Value.str (Str.ofString "/claim/cut.py") 259, Value.int 35 0, Value.int 3 0, Value.int 0 0, Value.int 0 0, Value.int 3 0, Value.ref 61, Value.bool Bool.true, Value.int 181 0, Value.ref 62, Value.none, Value.ref 63, Value.ref 64, Value.ref 65, Value.int 267 0, Value.int 35 0, Value.str (Str.ofString "/claim/cut.py") 268]) #[]
noncomputable def q67v0 : Params → Obj := fun P => Obj.mk (Value.type "function") Option.none (Data.func (FuncData.mk (Str.ofString "code_at") (Str.ofString "code_at") f67p (FuncBody.stmts f67b) f67s 3 [] Value.none Value.none Value.none (Value.str (Str.ofString "pagebase.values") 234) Option.none (Value.ref 66) Value.none 0)) #[]
noncomputable def q68v0 : Params → Obj := fun P => Obj.mk (Value.type "tuple") Option.none (Data.seq #[Value.int 0 272, Value.int 1 273, Value.int 2 274, Value.int 3 275, Value.int 4 276, Value.int 6 277, Value.int 8 278]) #[]
noncomputable def hp2 : Params → Heap := fun P => Heap.mk (Array.mk (boot_o_0 P :: boot_o_1 P :: q2v0 P :: q3v2 P :: boot_o_4 P :: boot_o_5 P :: boot_o_6 P :: boot_o_7 P :: boot_o_8 P :: boot_o_9 P :: boot_o_10 P :: q11v0 P :: q12v3 P :: q13v0 P :: q14v0 P :: q15v0 P :: q16v0 P :: q17v0 P :: q18v0 P :: q19v0 P :: q20v0 P :: q21v0 P :: q22v0 P :: q23v0 P :: q24v0 P :: q25v0 P :: q26v0 P :: q27v0 P :: q28v0 P :: q29v0 P :: q30v0 P :: q31v1 P :: q32v0 P :: q33v0 P :: q34v0 P :: q35v0 P :: q36v0 P :: q37v0 P :: q38v0 P :: q39v0 P :: q40v0 P :: q41v0 P :: q42v0 P :: q43v0 P :: q44v0 P :: q45v0 P :: q46v0 P :: q47v0 P :: q48v0 P :: q49v0 P :: q50v0 P :: q51v0 P :: q52v0 P :: q53v0 P :: q54v0 P :: q55v0 P :: q56v0 P :: q57v0 P :: q58v0 P :: q59v0 P :: q60v0 P :: q61v0 P :: q62v0 P :: q63v0 P :: q64v0 P :: q65v0 P :: q66v0 P :: q67v0 P :: q68v0 P :: [])) (Life.mk [] [] [] 0 [] [] Bool.false #[] [] 0 Bool.false Bool.false Bool.false 0 [2000, 10, 10] Bool.false 0 Bool.true [] [] 0 Bool.false)
noncomputable abbrev top.r2 : List Stmt := List.drop 1 top.r1
theorem top.seg2 (w : World) (os : OsState) : segRun treeTable top.p w 11 top.ann 1 160 ⟨hp1 w.params, Array.mk [], Drawn.mk 0 0 0 0, 234, os⟩ (piecesOf (List.take 8 top.r2) top.env top.c (Pos.mk 6 0 7 8) [topFrame top.q]) = some (.next, ⟨hp2 w.params, Array.mk [], Drawn.mk 0 0 0 0, 282, os⟩, top.c, Pos.mk 48 0 48 9) := by kernel_rfl
noncomputable def q3v3 : Params → Obj := fun P => Obj.mk (Value.type "dict") Option.none (Data.dict #[DictEntry.mk (PyData.keyHash P (Str.ofString "__name__")) (Value.str (Str.ofString "__name__") 165) (Value.str (Str.ofString "pagebase.records") 270), DictEntry.mk (PyData.keyHash P (Str.ofString "__doc__")) (Value.str (Str.ofString "__doc__") 166) Value.none, DictEntry.mk (PyData.keyHash P (Str.ofString "__package__")) (Value.str (Str.ofString "__package__") 167) Value.none, DictEntry.mk (PyData.keyHash P (Str.ofString "__loader__")) (Value.str (Str.ofString "__loader__") 168) (Value.builtin "__main__.__loader__#opaque"), DictEntry.mk (PyData.keyHash P (Str.ofString "__spec__")) (Value.str (Str.ofString "__spec__") 169) Value.none, DictEntry.mk (PyData.keyHash P (Str.ofString "__annotations__")) (Value.str (Str.ofString "__annotations__") 170) (Value.ref 6), DictEntry.mk (PyData.keyHash P (Str.ofString "__builtins__")) (Value.str (Str.ofString "__builtins__") 171) (Value.ref 4), DictEntry.mk (PyData.keyHash P (Str.ofString "__file__")) (Value.str (Str.ofString "__file__") 173) (Value.str (Str.ofString "/claim/cut.py") 172), DictEntry.mk (PyData.keyHash P (Str.ofString "__cached__")) (Value.str (Str.ofString "__cached__") 174) Value.none, DictEntry.mk (PyData.keyHash P (Str.ofString "PagebaseError")) (Value.str (Str.ofString "PagebaseError") 217) (Value.ref 31), DictEntry.mk (PyData.keyHash P (Str.ofString "CorruptError")) (Value.str (Str.ofString "CorruptError") 233) (Value.ref 44), DictEntry.mk (PyData.keyHash P (Str.ofString "REPLACEMENT")) (Value.str (Str.ofString "REPLACEMENT") 238) (Value.str (Str.ofString "�") 237), DictEntry.mk (PyData.keyHash P (Str.ofString "lead_of")) (Value.str (Str.ofString "lead_of") 245) (Value.ref 53), DictEntry.mk (PyData.keyHash P (Str.ofString "text_of")) (Value.str (Str.ofString "text_of") 256) (Value.ref 60), DictEntry.mk (PyData.keyHash P (Str.ofString "code_at")) (Value.str (Str.ofString "code_at") 269) (Value.ref 67), DictEntry.mk (PyData.keyHash P (Str.ofString "NUMBER_SIZES")) (Value.str (Str.ofString "NUMBER_SIZES") 279) (Value.ref 68), DictEntry.mk (PyData.keyHash P (Str.ofString "ZERO_TYPE")) (Value.str (Str.ofString "ZERO_TYPE") 281) (Value.int 8 280), DictEntry.mk (PyData.keyHash P (Str.ofString "ONE_TYPE")) (Value.str (Str.ofString "ONE_TYPE") 283) (Value.int 9 282), DictEntry.mk (PyData.keyHash P (Str.ofString "BLOB_TYPE")) (Value.str (Str.ofString "BLOB_TYPE") 285) (Value.int 12 284), DictEntry.mk (PyData.keyHash P (Str.ofString "get_varint")) (Value.str (Str.ofString "get_varint") 296) (Value.ref 75), DictEntry.mk (PyData.keyHash P (Str.ofString "get_fixed")) (Value.str (Str.ofString "get_fixed") 307) (Value.ref 82), DictEntry.mk (PyData.keyHash P (Str.ofString "serial_size")) (Value.str (Str.ofString "serial_size") 314) (Value.ref 89), DictEntry.mk (PyData.keyHash P (Str.ofString "value_of")) (Value.str (Str.ofString "value_of") 325) (Value.ref 96)] 23) #[]
noncomputable def q12v4 : Params → Obj := fun P => Obj.mk Value.none Option.none (Data.fields #[Value.int 2 0, Value.int 0 0, Value.ref 20, Value.int 6 0, Value.int 0 0, Value.ref 40, Value.int 10 0, Value.int 0 0, Value.ref 52, Value.int 20 0, Value.int 0 0, Value.ref 59, Value.int 35 0, Value.int 0 0, Value.ref 66, Value.int 51 0, Value.int 0 0, Value.ref 74, Value.int 64 0, Value.int 0 0, Value.ref 81, Value.int 71 0, Value.int 0 0, Value.ref 88, Value.int 79 0, Value.int 0 0, Value.ref 95]) #[]
noncomputable def q69v0 : Params → Obj := fun P => Obj.mk (Value.type "tuple") Option.none (Data.seq #[]) #[]
noncomputable def q70v0 : Params → Obj := fun P => Obj.mk Value.none Option.none (Data.fields #[]) #[]
noncomputable def q71v0 : Params → Obj := fun P => Obj.mk (Value.type "tuple") Option.none (Data.seq #[Value.str (Str.ofString "octets") 289, Value.str (Str.ofString "at") 290, Value.str (Str.ofString "number") 291, Value.str (Str.ofString "turn") 292, Value.str (Str.ofString "octet") 293]) #[]
noncomputable def q72v0 : Params → Obj := fun P => Obj.mk (Value.type "tuple") Option.none (Data.seq #[]) #[]
noncomputable def q73v0 : Params → Obj := fun P => Obj.mk Value.none Option.none (Data.func (FuncData.mk (Str.ofString "get_varint") (Str.ofString "get_varint") f75p (FuncBody.stmts f75b) f75s 0 [] Value.none Value.none Value.none Value.none Option.none Value.none Value.none 0)) #[]
noncomputable def q74v0 : Params → Obj := fun P => Obj.mk (Value.type "code") Option.none (Data.fields #[Value.str (Str.ofString "get_varint") 286, Value.str (Str.ofString "get_varint") 287, Value.str (Str.ofString "/claim/cut.py") 288, Value.int 51 0, Value.int 2 0, Value.int 0 0, Value.int 0 0, Value.int 3 0, Value.ref 69, Value.bool Bool.true, Value.int 181 0, Value.ref 70, Value.none, Value.ref 71, Value.ref 72, Value.ref 73, Value.int 294 0, Value.int 51 0, Value.str (Str.ofString "/claim/cut.py") 295]) #[]
noncomputable def q75v0 : Params → Obj := fun P => Obj.mk (Value.type "function") Option.none (Data.func (FuncData.mk (Str.ofString "get_varint") (Str.ofString "get_varint") f75p (FuncBody.stmts f75b) f75s 3 [] Value.none Value.none Value.none (Value.str (Str.ofString "pagebase.records") 270) Option.none (Value.ref 74) Value.none 0)) #[]
noncomputable def q76v0 : Params → Obj := fun P => Obj.mk (Value.type "tuple") Option.none (Data.seq #[]) #[]
noncomputable def q77v0 : Params → Obj := fun P => Obj.mk Value.none Option.none (Data.fields #[]) #[]
noncomputable def q78v0 : Params → Obj := fun P => Obj.mk (Value.type "tuple") Option.none (Data.seq #[Value.str (Str.ofString "octets") 300, Value.str (Str.ofString "at") 301, Value.str (Str.ofString "size") 302, Value.str (Str.ofString "number") 303, Value.str (Str.ofString "place") 304]) #[]
noncomputable def q79v0 : Params → Obj := fun P => Obj.mk (Value.type "tuple") Option.none (Data.seq #[]) #[]
noncomputable def q80v0 : Params → Obj := fun P => Obj.mk Value.none Option.none (Data.func (FuncData.mk (Str.ofString "get_fixed") (Str.ofString "get_fixed") f82p (FuncBody.stmts f82b) f82s 0 [] Value.none Value.none Value.none Value.none Option.none Value.none Value.none 0)) #[]
noncomputable def q81v0 : Params → Obj := fun P => Obj.mk (Value.type "code") Option.none (Data.fields #[Value.str (Str.ofString "get_fixed") 297, Value.str (Str.ofString "get_fixed") 298, Value.str (Str.ofString "/claim/cut.py") 299, Value.int 64 0, Value.int 3 0, Value.int 0 0, Value.int 0 0, Value.int 3 0, Value.ref 76, Value.bool Bool.true, Value.int 181 0, Value.ref 77, Value.none, Value.ref 78, Value.ref 79, Value.ref 80, Value.int 305 0, Value.int 64 0, Value.str (Str.ofString "/claim/cut.py") 306]) #[]
noncomputable def q82v0 : Params → Obj := fun P => Obj.mk (Value.type "function") Option.none (Data.func (FuncData.mk (Str.ofString "get_fixed") (Str.ofString "get_fixed") f82p (FuncBody.stmts f82b) f82s 3 [] Value.none Value.none Value.none (Value.str (Str.ofString "pagebase.records") 270) Option.none (Value.ref 81) Value.none 0)) #[]
noncomputable def q83v0 : Params → Obj := fun P => Obj.mk (Value.type "tuple") Option.none (Data.seq #[]) #[]
noncomputable def q84v0 : Params → Obj := fun P => Obj.mk Value.none Option.none (Data.fields #[]) #[]
noncomputable def q85v0 : Params → Obj := fun P => Obj.mk (Value.type "tuple") Option.none (Data.seq #[Value.str (Str.ofString "t") 311]) #[]
noncomputable def q86v0 : Params → Obj := fun P => Obj.mk (Value.type "tuple") Option.none (Data.seq #[]) #[]
noncomputable def q87v0 : Params → Obj := fun P => Obj.mk Value.none Option.none (Data.func (FuncData.mk (Str.ofString "serial_size") (Str.ofString "serial_size") f89p (FuncBody.stmts f89b) f89s 0 [] Value.none Value.none Value.none Value.none Option.none Value.none Value.none 0)) #[]
noncomputable def q88v0 : Params → Obj := fun P => Obj.mk (Value.type "code") Option.none (Data.fields #[Value.str (Str.ofString "serial_size") 308, Value.str (Str.ofString "serial_size") 309, Value.str (Str.ofString "/claim/cut.py") 310, Value.int 71 0, Value.int 1 0, Value.int 0 0, Value.int 0 0, Value.int 3 0, Value.ref 83, Value.bool Bool.true, Value.int 181 0, Value.ref 84, Value.none, Value.ref 85, Value.ref 86, Value.ref 87, Value.int 312 0, Value.int 71 0, Value.str (Str.ofString "/claim/cut.py") 313]) #[]
noncomputable def q89v0 : Params → Obj := fun P => Obj.mk (Value.type "function") Option.none (Data.func (FuncData.mk (Str.ofString "serial_size") (Str.ofString "serial_size") f89p (FuncBody.stmts f89b) f89s 3 [] Value.none Value.none Value.none (Value.str (Str.ofString "pagebase.records") 270) Option.none (Value.ref 88) Value.none 0)) #[]
noncomputable def q90v0 : Params → Obj := fun P => Obj.mk (Value.type "tuple") Option.none (Data.seq #[]) #[]
noncomputable def q91v0 : Params → Obj := fun P => Obj.mk Value.none Option.none (Data.fields #[]) #[]
noncomputable def q92v0 : Params → Obj := fun P => Obj.mk (Value.type "tuple") Option.none (Data.seq #[Value.str (Str.ofString "octets") 318, Value.str (Str.ofString "at") 319, Value.str (Str.ofString "kind") 320, Value.str (Str.ofString "size") 321, Value.str (Str.ofString "body") 322]) #[]
noncomputable def q93v0 : Params → Obj := fun P => Obj.mk (Value.type "tuple") Option.none (Data.seq #[]) #[]
noncomputable def q94v0 : Params → Obj := fun P => Obj.mk Value.none Option.none (Data.func (FuncData.mk (Str.ofString "value_of") (Str.ofString "value_of") f96p (FuncBody.stmts f96b) f96s 0 [] Value.none Value.none Value.none Value.none Option.none Value.none Value.none 0)) #[]
noncomputable def q95v0 : Params → Obj := fun P => Obj.mk (Value.type "code") Option.none (Data.fields #[Value.str (Str.ofString "value_of") 315, Value.str (Str.ofString "value_of") 316, Value.str (Str.ofString "/claim/cut.py") 317, Value.int 79 0, Value.int 3 0, Value.int 0 0, Value.int 0 0, Value.int 3 0, Value.ref 90, Value.bool Bool.true, Value.int 181 0, Value.ref 91, Value.none, Value.ref 92, Value.ref 93, Value.ref 94, Value.int 323 0, Value.int 79 0, Value.str (Str.ofString "/claim/cut.py") 324]) #[]
noncomputable def q96v0 : Params → Obj := fun P => Obj.mk (Value.type "function") Option.none (Data.func (FuncData.mk (Str.ofString "value_of") (Str.ofString "value_of") f96p (FuncBody.stmts f96b) f96s 3 [] Value.none Value.none Value.none (Value.str (Str.ofString "pagebase.records") 270) Option.none (Value.ref 95) Value.none 0)) #[]
noncomputable def hp3 : Params → Heap := fun P => Heap.mk (Array.mk (boot_o_0 P :: boot_o_1 P :: q2v0 P :: q3v3 P :: boot_o_4 P :: boot_o_5 P :: boot_o_6 P :: boot_o_7 P :: boot_o_8 P :: boot_o_9 P :: boot_o_10 P :: q11v0 P :: q12v4 P :: q13v0 P :: q14v0 P :: q15v0 P :: q16v0 P :: q17v0 P :: q18v0 P :: q19v0 P :: q20v0 P :: q21v0 P :: q22v0 P :: q23v0 P :: q24v0 P :: q25v0 P :: q26v0 P :: q27v0 P :: q28v0 P :: q29v0 P :: q30v0 P :: q31v1 P :: q32v0 P :: q33v0 P :: q34v0 P :: q35v0 P :: q36v0 P :: q37v0 P :: q38v0 P :: q39v0 P :: q40v0 P :: q41v0 P :: q42v0 P :: q43v0 P :: q44v0 P :: q45v0 P :: q46v0 P :: q47v0 P :: q48v0 P :: q49v0 P :: q50v0 P :: q51v0 P :: q52v0 P :: q53v0 P :: q54v0 P :: q55v0 P :: q56v0 P :: q57v0 P :: q58v0 P :: q59v0 P :: q60v0 P :: q61v0 P :: q62v0 P :: q63v0 P :: q64v0 P :: q65v0 P :: q66v0 P :: q67v0 P :: q68v0 P :: q69v0 P :: q70v0 P :: q71v0 P :: q72v0 P :: q73v0 P :: q74v0 P :: q75v0 P :: q76v0 P :: q77v0 P :: q78v0 P :: q79v0 P :: q80v0 P :: q81v0 P :: q82v0 P :: q83v0 P :: q84v0 P :: q85v0 P :: q86v0 P :: q87v0 P :: q88v0 P :: q89v0 P :: q90v0 P :: q91v0 P :: q92v0 P :: q93v0 P :: q94v0 P :: q95v0 P :: q96v0 P :: [])) (Life.mk [] [] [] 0 [] [] Bool.false #[] [] 0 Bool.false Bool.false Bool.false 0 [2000, 10, 10] Bool.false 0 Bool.true [] [] 0 Bool.false)
noncomputable abbrev top.r3 : List Stmt := List.drop 8 top.r2
theorem top.seg3 (w : World) (os : OsState) : segRun treeTable top.p w 11 top.ann 1 147 ⟨hp2 w.params, Array.mk [], Drawn.mk 0 0 0 0, 282, os⟩ (piecesOf (List.take 6 top.r3) top.env top.c (Pos.mk 48 0 48 9) [topFrame top.q]) = some (.next, ⟨hp3 w.params, Array.mk [], Drawn.mk 0 0 0 0, 326, os⟩, top.c, Pos.mk 79 0 94 15) := by kernel_rfl
noncomputable def q3v4 : Params → Obj := fun P => Obj.mk (Value.type "dict") Option.none (Data.dict #[DictEntry.mk (PyData.keyHash P (Str.ofString "__name__")) (Value.str (Str.ofString "__name__") 165) (Value.str (Str.ofString "law_pb0446_01") 361), DictEntry.mk (PyData.keyHash P (Str.ofString "__doc__")) (Value.str (Str.ofString "__doc__") 166) Value.none, DictEntry.mk (PyData.keyHash P (Str.ofString "__package__")) (Value.str (Str.ofString "__package__") 167) Value.none, DictEntry.mk (PyData.keyHash P (Str.ofString "__loader__")) (Value.str (Str.ofString "__loader__") 168) (Value.builtin "__main__.__loader__#opaque"), DictEntry.mk (PyData.keyHash P (Str.ofString "__spec__")) (Value.str (Str.ofString "__spec__") 169) Value.none, DictEntry.mk (PyData.keyHash P (Str.ofString "__annotations__")) (Value.str (Str.ofString "__annotations__") 170) (Value.ref 6), DictEntry.mk (PyData.keyHash P (Str.ofString "__builtins__")) (Value.str (Str.ofString "__builtins__") 171) (Value.ref 4), DictEntry.mk (PyData.keyHash P (Str.ofString "__file__")) (Value.str (Str.ofString "__file__") 173) (Value.str (Str.ofString "/claim/cut.py") 172), DictEntry.mk (PyData.keyHash P (Str.ofString "__cached__")) (Value.str (Str.ofString "__cached__") 174) Value.none, DictEntry.mk (PyData.keyHash P (Str.ofString "PagebaseError")) (Value.str (Str.ofString "PagebaseError") 217) (Value.ref 31), DictEntry.mk (PyData.keyHash P (Str.ofString "CorruptError")) (Value.str (Str.ofString "CorruptError") 233) (Value.ref 44), DictEntry.mk (PyData.keyHash P (Str.ofString "REPLACEMENT")) (Value.str (Str.ofString "REPLACEMENT") 238) (Value.str (Str.ofString "�") 237), DictEntry.mk (PyData.keyHash P (Str.ofString "lead_of")) (Value.str (Str.ofString "lead_of") 245) (Value.ref 53), DictEntry.mk (PyData.keyHash P (Str.ofString "text_of")) (Value.str (Str.ofString "text_of") 256) (Value.ref 60), DictEntry.mk (PyData.keyHash P (Str.ofString "code_at")) (Value.str (Str.ofString "code_at") 269) (Value.ref 67), DictEntry.mk (PyData.keyHash P (Str.ofString "NUMBER_SIZES")) (Value.str (Str.ofString "NUMBER_SIZES") 279) (Value.ref 68), DictEntry.mk (PyData.keyHash P (Str.ofString "ZERO_TYPE")) (Value.str (Str.ofString "ZERO_TYPE") 281) (Value.int 8 280), DictEntry.mk (PyData.keyHash P (Str.ofString "ONE_TYPE")) (Value.str (Str.ofString "ONE_TYPE") 283) (Value.int 9 282), DictEntry.mk (PyData.keyHash P (Str.ofString "BLOB_TYPE")) (Value.str (Str.ofString "BLOB_TYPE") 285) (Value.int 12 284), DictEntry.mk (PyData.keyHash P (Str.ofString "get_varint")) (Value.str (Str.ofString "get_varint") 296) (Value.ref 75), DictEntry.mk (PyData.keyHash P (Str.ofString "get_fixed")) (Value.str (Str.ofString "get_fixed") 307) (Value.ref 82), DictEntry.mk (PyData.keyHash P (Str.ofString "serial_size")) (Value.str (Str.ofString "serial_size") 314) (Value.ref 89), DictEntry.mk (PyData.keyHash P (Str.ofString "value_of")) (Value.str (Str.ofString "value_of") 325) (Value.ref 96), DictEntry.mk (PyData.keyHash P (Str.ofString "head_of")) (Value.str (Str.ofString "head_of") 336) (Value.ref 103), DictEntry.mk (PyData.keyHash P (Str.ofString "decode_record")) (Value.str (Str.ofString "decode_record") 347) (Value.ref 110), DictEntry.mk (PyData.keyHash P (Str.ofString "record_column")) (Value.str (Str.ofString "record_column") 360) (Value.ref 117), DictEntry.mk (PyData.keyHash P (Str.ofString "_law_pool")) (Value.str (Str.ofString "_law_pool") 373) (Value.ref 124)] 27) #[]
noncomputable def q12v5 : Params → Obj := fun P => Obj.mk Value.none Option.none (Data.fields #[Value.int 2 0, Value.int 0 0, Value.ref 20, Value.int 6 0, Value.int 0 0, Value.ref 40, Value.int 10 0, Value.int 0 0, Value.ref 52, Value.int 20 0, Value.int 0 0, Value.ref 59, Value.int 35 0, Value.int 0 0, Value.ref 66, Value.int 51 0, Value.int 0 0, Value.ref 74, Value.int 64 0, Value.int 0 0, Value.ref 81, Value.int 71 0, Value.int 0 0, Value.ref 88, Value.int 79 0, Value.int 0 0, Value.ref 95, Value.int 95 0, Value.int 0 0, Value.ref 102, Value.int 106 0, Value.int 0 0, Value.ref 109, Value.int 115 0, Value.int 0 0, Value.ref 116, Value.int 129 0, Value.int 0 0, Value.ref 123]) #[]
noncomputable def q97v0 : Params → Obj := fun P => Obj.mk (Value.type "tuple") Option.none (Data.seq #[]) #[]
noncomputable def q98v0 : Params → Obj := fun P => Obj.mk Value.none Option.none (Data.fields #[]) #[]
noncomputable def q99v0 : Params → Obj := fun P => Obj.mk (Value.type "tuple") Option.none (Data.seq #[Value.str (Str.ofString "octets") 329, Value.str (Str.ofString "end") 330, Value.str (Str.ofString "at") 331, Value.str (Str.ofString "types") 332, Value.str (Str.ofString "kind") 333]) #[]
noncomputable def q100v0 : Params → Obj := fun P => Obj.mk (Value.type "tuple") Option.none (Data.seq #[]) #[]
noncomputable def q101v0 : Params → Obj := fun P => Obj.mk Value.none Option.none (Data.func (FuncData.mk (Str.ofString "head_of") (Str.ofString "head_of") f103p (FuncBody.stmts f103b) f103s 0 [] Value.none Value.none Value.none Value.none Option.none Value.none Value.none 0)) #[]
noncomputable def q102v0 : Params → Obj := fun P => Obj.mk (Value.type "code") Option.none (Data.fields #[Value.str (Str.ofString "head_of") 326, Value.str (Str.ofString "head_of") 327, Value.str (Str.ofString "/claim/cut.py") 328, Value.int 95 0, Value.int 1 0, Value.int 0 0, Value.int 0 0, Value.int 3 0, Value.ref 97, Value.bool Bool.true, Value.int 181 0, Value.ref 98, Value.none, Value.ref 99, Value.ref 100, Value.ref 101, Value.int 334 0, Value.int 95 0, Value.str (Str.ofString "/claim/cut.py") 335]) #[]
noncomputable def q103v0 : Params → Obj := fun P => Obj.mk (Value.type "function") Option.none (Data.func (FuncData.mk (Str.ofString "head_of") (Str.ofString "head_of") f103p (FuncBody.stmts f103b) f103s 3 [] Value.none Value.none Value.none (Value.str (Str.ofString "pagebase.records") 270) Option.none (Value.ref 102) Value.none 0)) #[]
noncomputable def q104v0 : Params → Obj := fun P => Obj.mk (Value.type "tuple") Option.none (Data.seq #[]) #[]
noncomputable def q105v0 : Params → Obj := fun P => Obj.mk Value.none Option.none (Data.fields #[]) #[]
noncomputable def q106v0 : Params → Obj := fun P => Obj.mk (Value.type "tuple") Option.none (Data.seq #[Value.str (Str.ofString "octets") 340, Value.str (Str.ofString "types") 341, Value.str (Str.ofString "at") 342, Value.str (Str.ofString "values") 343, Value.str (Str.ofString "kind") 344]) #[]
noncomputable def q107v0 : Params → Obj := fun P => Obj.mk (Value.type "tuple") Option.none (Data.seq #[]) #[]
noncomputable def q108v0 : Params → Obj := fun P => Obj.mk Value.none Option.none (Data.func (FuncData.mk (Str.ofString "decode_record") (Str.ofString "decode_record") f110p (FuncBody.stmts f110b) f110s 0 [] Value.none Value.none Value.none Value.none Option.none Value.none Value.none 0)) #[]
noncomputable def q109v0 : Params → Obj := fun P => Obj.mk (Value.type "code") Option.none (Data.fields #[Value.str (Str.ofString "decode_record") 337, Value.str (Str.ofString "decode_record") 338, Value.str (Str.ofString "/claim/cut.py") 339, Value.int 106 0, Value.int 1 0, Value.int 0 0, Value.int 0 0, Value.int 3 0, Value.ref 104, Value.bool Bool.true, Value.int 181 0, Value.ref 105, Value.none, Value.ref 106, Value.ref 107, Value.ref 108, Value.int 345 0, Value.int 106 0, Value.str (Str.ofString "/claim/cut.py") 346]) #[]
noncomputable def q110v0 : Params → Obj := fun P => Obj.mk (Value.type "function") Option.none (Data.func (FuncData.mk (Str.ofString "decode_record") (Str.ofString "decode_record") f110p (FuncBody.stmts f110b) f110s 3 [] Value.none Value.none Value.none (Value.str (Str.ofString "pagebase.records") 270) Option.none (Value.ref 109) Value.none 0)) #[]
noncomputable def q111v0 : Params → Obj := fun P => Obj.mk (Value.type "tuple") Option.none (Data.seq #[]) #[]
noncomputable def q112v0 : Params → Obj := fun P => Obj.mk Value.none Option.none (Data.fields #[]) #[]
noncomputable def q113v0 : Params → Obj := fun P => Obj.mk (Value.type "tuple") Option.none (Data.seq #[Value.str (Str.ofString "octets") 351, Value.str (Str.ofString "i") 352, Value.str (Str.ofString "end") 353, Value.str (Str.ofString "place") 354, Value.str (Str.ofString "at") 355, Value.str (Str.ofString "column") 356, Value.str (Str.ofString "kind") 357]) #[]
noncomputable def q114v0 : Params → Obj := fun P => Obj.mk (Value.type "tuple") Option.none (Data.seq #[]) #[]
noncomputable def q115v0 : Params → Obj := fun P => Obj.mk Value.none Option.none (Data.func (FuncData.mk (Str.ofString "record_column") (Str.ofString "record_column") f117p (FuncBody.stmts f117b) f117s 0 [] Value.none Value.none Value.none Value.none Option.none Value.none Value.none 0)) #[]
noncomputable def q116v0 : Params → Obj := fun P => Obj.mk (Value.type "code") Option.none (Data.fields #[Value.str (Str.ofString "record_column") 348, Value.str (Str.ofString "record_column") 349, Value.str (Str.ofString "/claim/cut.py") 350, Value.int 115 0, Value.int 2 0, Value.int 0 0, Value.int 0 0, Value.int 3 0, Value.ref 111, Value.bool Bool.true, Value.int 181 0, Value.ref 112, Value.none, Value.ref 113, Value.ref 114, Value.ref 115, Value.int 358 0, Value.int 115 0, Value.str (Str.ofString "/claim/cut.py") 359]) #[]
noncomputable def q117v0 : Params → Obj := fun P => Obj.mk (Value.type "function") Option.none (Data.func (FuncData.mk (Str.ofString "record_column") (Str.ofString "record_column") f117p (FuncBody.stmts f117b) f117s 3 [] Value.none Value.none Value.none (Value.str (Str.ofString "pagebase.records") 270) Option.none (Value.ref 116) Value.none 0)) #[]
noncomputable def q118v0 : Params → Obj := fun P => Obj.mk (Value.type "tuple") Option.none (Data.seq #[]) #[]
noncomputable def q119v0 : Params → Obj := fun P => Obj.mk Value.none Option.none (Data.fields #[]) #[]
noncomputable def q120v0 : Params → Obj := fun P => Obj.mk (Value.type "tuple") Option.none (Data.seq #[Value.str (Str.ofString "script") 366, Value.str (Str.ofString "k") 367, Value.str (Str.ofString "cell_one") 368, Value.str (Str.ofString "size_one") 369, Value.str (Str.ofString "mixed_one") 370]) #[]
noncomputable def q121v0 : Params → Obj := fun P => Obj.mk (Value.type "tuple") Option.none (Data.seq #[]) #[]
noncomputable def q122v0 : Params → Obj := fun P => Obj.mk Value.none Option.none (Data.func (FuncData.mk (Str.ofString "_law_pool") (Str.ofString "_law_pool") f124p (FuncBody.stmts f124b) f124s 0 [] Value.none Value.none Value.none Value.none Option.none Value.none Value.none 0)) #[]
noncomputable def q123v0 : Params → Obj := fun P => Obj.mk (Value.type "code") Option.none (Data.fields #[Value.str (Str.ofString "_law_pool") 363, Value.str (Str.ofString "_law_pool") 364, Value.str (Str.ofString "/claim/cut.py") 365, Value.int 129 0, Value.int 2 0, Value.int 0 0, Value.int 0 0, Value.int 3 0, Value.ref 118, Value.bool Bool.true, Value.int 181 0, Value.ref 119, Value.none, Value.ref 120, Value.ref 121, Value.ref 122, Value.int 371 0, Value.int 129 0, Value.str (Str.ofString "/claim/cut.py") 372]) #[]
noncomputable def q124v0 : Params → Obj := fun P => Obj.mk (Value.type "function") Option.none (Data.func (FuncData.mk (Str.ofString "_law_pool") (Str.ofString "_law_pool") f124p (FuncBody.stmts f124b) f124s 3 [] Value.none Value.none Value.none (Value.str (Str.ofString "law_pb0446_01") 361) Option.none (Value.ref 123) Value.none 0)) #[]
noncomputable def hp4 : Params → Heap := fun P => Heap.mk (Array.mk (boot_o_0 P :: boot_o_1 P :: q2v0 P :: q3v4 P :: boot_o_4 P :: boot_o_5 P :: boot_o_6 P :: boot_o_7 P :: boot_o_8 P :: boot_o_9 P :: boot_o_10 P :: q11v0 P :: q12v5 P :: q13v0 P :: q14v0 P :: q15v0 P :: q16v0 P :: q17v0 P :: q18v0 P :: q19v0 P :: q20v0 P :: q21v0 P :: q22v0 P :: q23v0 P :: q24v0 P :: q25v0 P :: q26v0 P :: q27v0 P :: q28v0 P :: q29v0 P :: q30v0 P :: q31v1 P :: q32v0 P :: q33v0 P :: q34v0 P :: q35v0 P :: q36v0 P :: q37v0 P :: q38v0 P :: q39v0 P :: q40v0 P :: q41v0 P :: q42v0 P :: q43v0 P :: q44v0 P :: q45v0 P :: q46v0 P :: q47v0 P :: q48v0 P :: q49v0 P :: q50v0 P :: q51v0 P :: q52v0 P :: q53v0 P :: q54v0 P :: q55v0 P :: q56v0 P :: q57v0 P :: q58v0 P :: q59v0 P :: q60v0 P :: q61v0 P :: q62v0 P :: q63v0 P :: q64v0 P :: q65v0 P :: q66v0 P :: q67v0 P :: q68v0 P :: q69v0 P :: q70v0 P :: q71v0 P :: q72v0 P :: q73v0 P :: q74v0 P :: q75v0 P :: q76v0 P :: q77v0 P :: q78v0 P :: q79v0 P :: q80v0 P :: q81v0 P :: q82v0 P :: q83v0 P :: q84v0 P :: q85v0 P :: q86v0 P :: q87v0 P :: q88v0 P :: q89v0 P :: q90v0 P :: q91v0 P :: q92v0 P :: q93v0 P :: q94v0 P :: q95v0 P :: q96v0 P :: q97v0 P :: q98v0 P :: q99v0 P :: q100v0 P :: q101v0 P :: q102v0 P :: q103v0 P :: q104v0 P :: q105v0 P :: q106v0 P :: q107v0 P :: q108v0 P :: q109v0 P :: q110v0 P :: q111v0 P :: q112v0 P :: q113v0 P :: q114v0 P :: q115v0 P :: q116v0 P :: q117v0 P :: q118v0 P :: q119v0 P :: q120v0 P :: q121v0 P :: q122v0 P :: q123v0 P :: q124v0 P :: [])) (Life.mk [] [] [] 0 [] [] Bool.false #[] [] 0 Bool.false Bool.false Bool.false 0 [2000, 10, 10] Bool.false 0 Bool.true [] [] 0 Bool.false)
noncomputable abbrev top.r4 : List Stmt := List.drop 6 top.r3
theorem top.seg4 (w : World) (os : OsState) : segRun treeTable top.p w 11 top.ann 1 144 ⟨hp3 w.params, Array.mk [], Drawn.mk 0 0 0 0, 326, os⟩ (piecesOf (List.take 5 top.r4) top.env top.c (Pos.mk 79 0 94 15) [topFrame top.q]) = some (.next, ⟨hp4 w.params, Array.mk [], Drawn.mk 0 0 0 0, 374, os⟩, top.c, Pos.mk 129 0 135 60) := by kernel_rfl
noncomputable def q3v5 : Params → Obj := fun P => Obj.mk (Value.type "dict") Option.none (Data.dict #[DictEntry.mk (PyData.keyHash P (Str.ofString "__name__")) (Value.str (Str.ofString "__name__") 165) (Value.str (Str.ofString "law_pb0446_01") 361), DictEntry.mk (PyData.keyHash P (Str.ofString "__doc__")) (Value.str (Str.ofString "__doc__") 166) Value.none, DictEntry.mk (PyData.keyHash P (Str.ofString "__package__")) (Value.str (Str.ofString "__package__") 167) Value.none, DictEntry.mk (PyData.keyHash P (Str.ofString "__loader__")) (Value.str (Str.ofString "__loader__") 168) (Value.builtin "__main__.__loader__#opaque"), DictEntry.mk (PyData.keyHash P (Str.ofString "__spec__")) (Value.str (Str.ofString "__spec__") 169) Value.none, DictEntry.mk (PyData.keyHash P (Str.ofString "__annotations__")) (Value.str (Str.ofString "__annotations__") 170) (Value.ref 6), DictEntry.mk (PyData.keyHash P (Str.ofString "__builtins__")) (Value.str (Str.ofString "__builtins__") 171) (Value.ref 4), DictEntry.mk (PyData.keyHash P (Str.ofString "__file__")) (Value.str (Str.ofString "__file__") 173) (Value.str (Str.ofString "/claim/cut.py") 172), DictEntry.mk (PyData.keyHash P (Str.ofString "__cached__")) (Value.str (Str.ofString "__cached__") 174) Value.none, DictEntry.mk (PyData.keyHash P (Str.ofString "PagebaseError")) (Value.str (Str.ofString "PagebaseError") 217) (Value.ref 31), DictEntry.mk (PyData.keyHash P (Str.ofString "CorruptError")) (Value.str (Str.ofString "CorruptError") 233) (Value.ref 44), DictEntry.mk (PyData.keyHash P (Str.ofString "REPLACEMENT")) (Value.str (Str.ofString "REPLACEMENT") 238) (Value.str (Str.ofString "�") 237), DictEntry.mk (PyData.keyHash P (Str.ofString "lead_of")) (Value.str (Str.ofString "lead_of") 245) (Value.ref 53), DictEntry.mk (PyData.keyHash P (Str.ofString "text_of")) (Value.str (Str.ofString "text_of") 256) (Value.ref 60), DictEntry.mk (PyData.keyHash P (Str.ofString "code_at")) (Value.str (Str.ofString "code_at") 269) (Value.ref 67), DictEntry.mk (PyData.keyHash P (Str.ofString "NUMBER_SIZES")) (Value.str (Str.ofString "NUMBER_SIZES") 279) (Value.ref 68), DictEntry.mk (PyData.keyHash P (Str.ofString "ZERO_TYPE")) (Value.str (Str.ofString "ZERO_TYPE") 281) (Value.int 8 280), DictEntry.mk (PyData.keyHash P (Str.ofString "ONE_TYPE")) (Value.str (Str.ofString "ONE_TYPE") 283) (Value.int 9 282), DictEntry.mk (PyData.keyHash P (Str.ofString "BLOB_TYPE")) (Value.str (Str.ofString "BLOB_TYPE") 285) (Value.int 12 284), DictEntry.mk (PyData.keyHash P (Str.ofString "get_varint")) (Value.str (Str.ofString "get_varint") 296) (Value.ref 75), DictEntry.mk (PyData.keyHash P (Str.ofString "get_fixed")) (Value.str (Str.ofString "get_fixed") 307) (Value.ref 82), DictEntry.mk (PyData.keyHash P (Str.ofString "serial_size")) (Value.str (Str.ofString "serial_size") 314) (Value.ref 89), DictEntry.mk (PyData.keyHash P (Str.ofString "value_of")) (Value.str (Str.ofString "value_of") 325) (Value.ref 96), DictEntry.mk (PyData.keyHash P (Str.ofString "head_of")) (Value.str (Str.ofString "head_of") 336) (Value.ref 103), DictEntry.mk (PyData.keyHash P (Str.ofString "decode_record")) (Value.str (Str.ofString "decode_record") 347) (Value.ref 110), DictEntry.mk (PyData.keyHash P (Str.ofString "record_column")) (Value.str (Str.ofString "record_column") 360) (Value.ref 117), DictEntry.mk (PyData.keyHash P (Str.ofString "_law_pool")) (Value.str (Str.ofString "_law_pool") 373) (Value.ref 124), DictEntry.mk (PyData.keyHash P (Str.ofString "_law_take")) (Value.str (Str.ofString "_law_take") 382) (Value.ref 131), DictEntry.mk (PyData.keyHash P (Str.ofString "_law_one")) (Value.str (Str.ofString "_law_one") 390) (Value.ref 138), DictEntry.mk (PyData.keyHash P (Str.ofString "_law_number")) (Value.str (Str.ofString "_law_number") 399) (Value.ref 145), DictEntry.mk (PyData.keyHash P (Str.ofString "_law_written")) (Value.str (Str.ofString "_law_written") 405) (Value.ref 150), DictEntry.mk (PyData.keyHash P (Str.ofString "_law_spoilt")) (Value.str (Str.ofString "_law_spoilt") 416) (Value.ref 157)] 32) #[]
noncomputable def q12v6 : Params → Obj := fun P => Obj.mk Value.none Option.none (Data.fields #[Value.int 2 0, Value.int 0 0, Value.ref 20, Value.int 6 0, Value.int 0 0, Value.ref 40, Value.int 10 0, Value.int 0 0, Value.ref 52, Value.int 20 0, Value.int 0 0, Value.ref 59, Value.int 35 0, Value.int 0 0, Value.ref 66, Value.int 51 0, Value.int 0 0, Value.ref 74, Value.int 64 0, Value.int 0 0, Value.ref 81, Value.int 71 0, Value.int 0 0, Value.ref 88, Value.int 79 0, Value.int 0 0, Value.ref 95, Value.int 95 0, Value.int 0 0, Value.ref 102, Value.int 106 0, Value.int 0 0, Value.ref 109, Value.int 115 0, Value.int 0 0, Value.ref 116, Value.int 129 0, Value.int 0 0, Value.ref 123, Value.int 136 0, Value.int 0 0, Value.ref 130, Value.int 143 0, Value.int 0 0, Value.ref 137, Value.int 145 0, Value.int 0 0, Value.ref 144, Value.int 153 0, Value.int 0 0, Value.ref 149, Value.int 164 0, Value.int 0 0, Value.ref 156]) #[]
noncomputable def q125v0 : Params → Obj := fun P => Obj.mk (Value.type "tuple") Option.none (Data.seq #[]) #[]
noncomputable def q126v0 : Params → Obj := fun P => Obj.mk Value.none Option.none (Data.fields #[]) #[]
noncomputable def q127v0 : Params → Obj := fun P => Obj.mk (Value.type "tuple") Option.none (Data.seq #[Value.str (Str.ofString "source_one") 377, Value.str (Str.ofString "top_one") 378, Value.str (Str.ofString "digit_one") 379]) #[]
noncomputable def q128v0 : Params → Obj := fun P => Obj.mk (Value.type "tuple") Option.none (Data.seq #[]) #[]
noncomputable def q129v0 : Params → Obj := fun P => Obj.mk Value.none Option.none (Data.func (FuncData.mk (Str.ofString "_law_take") (Str.ofString "_law_take") f131p (FuncBody.stmts f131b) f131s 0 [] Value.none Value.none Value.none Value.none Option.none Value.none Value.none 0)) #[]
noncomputable def q130v0 : Params → Obj := fun P => Obj.mk (Value.type "code") Option.none (Data.fields #[Value.str (Str.ofString "_law_take") 374, Value.str (Str.ofString "_law_take") 375, Value.str (Str.ofString "/claim/cut.py") 376, Value.int 136 0, Value.int 2 0, Value.int 0 0, Value.int 0 0, Value.int 3 0, Value.ref 125, Value.bool Bool.true, Value.int 181 0, Value.ref 126, Value.none, Value.ref 127, Value.ref 128, Value.ref 129, Value.int 380 0, Value.int 136 0, Value.str (Str.ofString "/claim/cut.py") 381]) #[]
noncomputable def q131v0 : Params → Obj := fun P => Obj.mk (Value.type "function") Option.none (Data.func (FuncData.mk (Str.ofString "_law_take") (Str.ofString "_law_take") f131p (FuncBody.stmts f131b) f131s 3 [] Value.none Value.none Value.none (Value.str (Str.ofString "law_pb0446_01") 361) Option.none (Value.ref 130) Value.none 0)) #[]
noncomputable def q132v0 : Params → Obj := fun P => Obj.mk (Value.type "tuple") Option.none (Data.seq #[]) #[]
noncomputable def q133v0 : Params → Obj := fun P => Obj.mk Value.none Option.none (Data.fields #[]) #[]
noncomputable def q134v0 : Params → Obj := fun P => Obj.mk (Value.type "tuple") Option.none (Data.seq #[Value.str (Str.ofString "source_one") 386, Value.str (Str.ofString "things_one") 387]) #[]
noncomputable def q135v0 : Params → Obj := fun P => Obj.mk (Value.type "tuple") Option.none (Data.seq #[]) #[]
noncomputable def q136v0 : Params → Obj := fun P => Obj.mk Value.none Option.none (Data.func (FuncData.mk (Str.ofString "_law_one") (Str.ofString "_law_one") f138p (FuncBody.stmts f138b) f138s 0 [] Value.none Value.none Value.none Value.none Option.none Value.none Value.none 0)) #[]
noncomputable def q137v0 : Params → Obj := fun P => Obj.mk (Value.type "code") Option.none (Data.fields #[Value.str (Str.ofString "_law_one") 383, Value.str (Str.ofString "_law_one") 384, Value.str (Str.ofString "/claim/cut.py") 385, Value.int 143 0, Value.int 2 0, Value.int 0 0, Value.int 0 0, Value.int 3 0, Value.ref 132, Value.bool Bool.true, Value.int 181 0, Value.ref 133, Value.none, Value.ref 134, Value.ref 135, Value.ref 136, Value.int 388 0, Value.int 143 0, Value.str (Str.ofString "/claim/cut.py") 389]) #[]
noncomputable def q138v0 : Params → Obj := fun P => Obj.mk (Value.type "function") Option.none (Data.func (FuncData.mk (Str.ofString "_law_one") (Str.ofString "_law_one") f138p (FuncBody.stmts f138b) f138s 3 [] Value.none Value.none Value.none (Value.str (Str.ofString "law_pb0446_01") 361) Option.none (Value.ref 137) Value.none 0)) #[]
noncomputable def q139v0 : Params → Obj := fun P => Obj.mk (Value.type "tuple") Option.none (Data.seq #[]) #[]
noncomputable def q140v0 : Params → Obj := fun P => Obj.mk Value.none Option.none (Data.fields #[]) #[]
noncomputable def q141v0 : Params → Obj := fun P => Obj.mk (Value.type "tuple") Option.none (Data.seq #[Value.str (Str.ofString "many_one") 394, Value.str (Str.ofString "extra") 395, Value.str (Str.ofString "found_one") 396]) #[]
noncomputable def q142v0 : Params → Obj := fun P => Obj.mk (Value.type "tuple") Option.none (Data.seq #[]) #[]
noncomputable def q143v0 : Params → Obj := fun P => Obj.mk Value.none Option.none (Data.func (FuncData.mk (Str.ofString "_law_number") (Str.ofString "_law_number") f145p (FuncBody.stmts f145b) f145s 0 [] Value.none Value.none Value.none Value.none Option.none Value.none Value.none 0)) #[]
noncomputable def q144v0 : Params → Obj := fun P => Obj.mk (Value.type "code") Option.none (Data.fields #[Value.str (Str.ofString "_law_number") 391, Value.str (Str.ofString "_law_number") 392, Value.str (Str.ofString "/claim/cut.py") 393, Value.int 145 0, Value.int 2 0, Value.int 0 0, Value.int 0 0, Value.int 3 0, Value.ref 139, Value.bool Bool.true, Value.int 181 0, Value.ref 140, Value.none, Value.ref 141, Value.ref 142, Value.ref 143, Value.int 397 0, Value.int 145 0, Value.str (Str.ofString "/claim/cut.py") 398]) #[]
noncomputable def q145v0 : Params → Obj := fun P => Obj.mk (Value.type "function") Option.none (Data.func (FuncData.mk (Str.ofString "_law_number") (Str.ofString "_law_number") f145p (FuncBody.stmts f145b) f145s 3 [] Value.none Value.none Value.none (Value.str (Str.ofString "law_pb0446_01") 361) Option.none (Value.ref 144) Value.none 0)) #[]
noncomputable def q146v0 : Params → Obj := fun P => Obj.mk (Value.type "tuple") Option.none (Data.seq #[]) #[]
noncomputable def q147v0 : Params → Obj := fun P => Obj.mk Value.none Option.none (Data.fields #[]) #[]
noncomputable def q148v0 : Params → Obj := fun P => Obj.mk Value.none Option.none (Data.func (FuncData.mk (Str.ofString "_law_written") (Str.ofString "_law_written") f150p (FuncBody.stmts f150b) f150s 0 [] Value.none Value.none Value.none Value.none Option.none Value.none Value.none 0)) #[]
noncomputable def q149v0 : Params → Obj := fun P => Obj.mk (Value.type "code") Option.none (Data.fields #[Value.str (Str.ofString "_law_written") 400, Value.str (Str.ofString "_law_written") 401, Value.str (Str.ofString "/claim/cut.py") 402, Value.int 153 0, Value.int 1 0, Value.int 0 0, Value.int 0 0, Value.int 3 0, Value.ref 146, Value.bool Bool.true, Value.int 181 0, Value.ref 147, Value.none, Value.none, Value.none, Value.ref 148, Value.int 403 0, Value.int 153 0, Value.str (Str.ofString "/claim/cut.py") 404]) #[]
noncomputable def q150v0 : Params → Obj := fun P => Obj.mk (Value.type "function") Option.none (Data.func (FuncData.mk (Str.ofString "_law_written") (Str.ofString "_law_written") f150p (FuncBody.stmts f150b) f150s 3 [] Value.none Value.none Value.none (Value.str (Str.ofString "law_pb0446_01") 361) Option.none (Value.ref 149) Value.none 0)) #[]
noncomputable def q151v0 : Params → Obj := fun P => Obj.mk (Value.type "tuple") Option.none (Data.seq #[]) #[]
noncomputable def q152v0 : Params → Obj := fun P => Obj.mk Value.none Option.none (Data.fields #[]) #[]
noncomputable def q153v0 : Params → Obj := fun P => Obj.mk (Value.type "tuple") Option.none (Data.seq #[Value.str (Str.ofString "source_one") 409, Value.str (Str.ofString "told_one") 410, Value.str (Str.ofString "way") 411, Value.str (Str.ofString "at") 412, Value.str (Str.ofString "octet_one") 413]) #[]
noncomputable def q154v0 : Params → Obj := fun P => Obj.mk (Value.type "tuple") Option.none (Data.seq #[]) #[]
noncomputable def q155v0 : Params → Obj := fun P => Obj.mk Value.none Option.none (Data.func (FuncData.mk (Str.ofString "_law_spoilt") (Str.ofString "_law_spoilt") f157p (FuncBody.stmts f157b) f157s 0 [] Value.none Value.none Value.none Value.none Option.none Value.none Value.none 0)) #[]
noncomputable def q156v0 : Params → Obj := fun P => Obj.mk (Value.type "code") Option.none (Data.fields #[Value.str (Str.ofString "_law_spoilt") 406, Value.str (Str.ofString "_law_spoilt") 407, Value.str (Str.ofString "/claim/cut.py") 408, Value.int 164 0, Value.int 2 0, Value.int 0 0, Value.int 0 0, Value.int 3 0, Value.ref 151, Value.bool Bool.true, Value.int 181 0, Value.ref 152, Value.none, Value.ref 153, Value.ref 154, Value.ref 155, Value.int 414 0, Value.int 164 0, Value.str (Str.ofString "/claim/cut.py") 415]) #[]
noncomputable def q157v0 : Params → Obj := fun P => Obj.mk (Value.type "function") Option.none (Data.func (FuncData.mk (Str.ofString "_law_spoilt") (Str.ofString "_law_spoilt") f157p (FuncBody.stmts f157b) f157s 3 [] Value.none Value.none Value.none (Value.str (Str.ofString "law_pb0446_01") 361) Option.none (Value.ref 156) Value.none 0)) #[]
noncomputable def hp5 : Params → Heap := fun P => Heap.mk (Array.mk (boot_o_0 P :: boot_o_1 P :: q2v0 P :: q3v5 P :: boot_o_4 P :: boot_o_5 P :: boot_o_6 P :: boot_o_7 P :: boot_o_8 P :: boot_o_9 P :: boot_o_10 P :: q11v0 P :: q12v6 P :: q13v0 P :: q14v0 P :: q15v0 P :: q16v0 P :: q17v0 P :: q18v0 P :: q19v0 P :: q20v0 P :: q21v0 P :: q22v0 P :: q23v0 P :: q24v0 P :: q25v0 P :: q26v0 P :: q27v0 P :: q28v0 P :: q29v0 P :: q30v0 P :: q31v1 P :: q32v0 P :: q33v0 P :: q34v0 P :: q35v0 P :: q36v0 P :: q37v0 P :: q38v0 P :: q39v0 P :: q40v0 P :: q41v0 P :: q42v0 P :: q43v0 P :: q44v0 P :: q45v0 P :: q46v0 P :: q47v0 P :: q48v0 P :: q49v0 P :: q50v0 P :: q51v0 P :: q52v0 P :: q53v0 P :: q54v0 P :: q55v0 P :: q56v0 P :: q57v0 P :: q58v0 P :: q59v0 P :: q60v0 P :: q61v0 P :: q62v0 P :: q63v0 P :: q64v0 P :: q65v0 P :: q66v0 P :: q67v0 P :: q68v0 P :: q69v0 P :: q70v0 P :: q71v0 P :: q72v0 P :: q73v0 P :: q74v0 P :: q75v0 P :: q76v0 P :: q77v0 P :: q78v0 P :: q79v0 P :: q80v0 P :: q81v0 P :: q82v0 P :: q83v0 P :: q84v0 P :: q85v0 P :: q86v0 P :: q87v0 P :: q88v0 P :: q89v0 P :: q90v0 P :: q91v0 P :: q92v0 P :: q93v0 P :: q94v0 P :: q95v0 P :: q96v0 P :: q97v0 P :: q98v0 P :: q99v0 P :: q100v0 P :: q101v0 P :: q102v0 P :: q103v0 P :: q104v0 P :: q105v0 P :: q106v0 P :: q107v0 P :: q108v0 P :: q109v0 P :: q110v0 P :: q111v0 P :: q112v0 P :: q113v0 P :: q114v0 P :: q115v0 P :: q116v0 P :: q117v0 P :: q118v0 P :: q119v0 P :: q120v0 P :: q121v0 P :: q122v0 P :: q123v0 P :: q124v0 P :: q125v0 P :: q126v0 P :: q127v0 P :: q128v0 P :: q129v0 P :: q130v0 P :: q131v0 P :: q132v0 P :: q133v0 P :: q134v0 P :: q135v0 P :: q136v0 P :: q137v0 P :: q138v0 P :: q139v0 P :: q140v0 P :: q141v0 P :: q142v0 P :: q143v0 P :: q144v0 P :: q145v0 P :: q146v0 P :: q147v0 P :: q148v0 P :: q149v0 P :: q150v0 P :: q151v0 P :: q152v0 P :: q153v0 P :: q154v0 P :: q155v0 P :: q156v0 P :: q157v0 P :: [])) (Life.mk [] [] [] 0 [] [] Bool.false #[] [] 0 Bool.false Bool.false Bool.false 0 [2000, 10, 10] Bool.false 0 Bool.true [] [] 0 Bool.false)
noncomputable abbrev top.r5 : List Stmt := List.drop 5 top.r4
theorem top.seg5 (w : World) (os : OsState) : segRun treeTable top.p w 11 top.ann 1 152 ⟨hp4 w.params, Array.mk [], Drawn.mk 0 0 0 0, 374, os⟩ (piecesOf (List.take 5 top.r5) top.env top.c (Pos.mk 129 0 135 60) [topFrame top.q]) = some (.next, ⟨hp5 w.params, Array.mk [], Drawn.mk 0 0 0 0, 417, os⟩, top.c, Pos.mk 164 0 174 19) := by kernel_rfl
noncomputable def q3v6 : Params → Obj := fun P => Obj.mk (Value.type "dict") Option.none (Data.dict #[DictEntry.mk (PyData.keyHash P (Str.ofString "__name__")) (Value.str (Str.ofString "__name__") 165) (Value.str (Str.ofString "law_pb0446_01") 361), DictEntry.mk (PyData.keyHash P (Str.ofString "__doc__")) (Value.str (Str.ofString "__doc__") 166) Value.none, DictEntry.mk (PyData.keyHash P (Str.ofString "__package__")) (Value.str (Str.ofString "__package__") 167) Value.none, DictEntry.mk (PyData.keyHash P (Str.ofString "__loader__")) (Value.str (Str.ofString "__loader__") 168) (Value.builtin "__main__.__loader__#opaque"), DictEntry.mk (PyData.keyHash P (Str.ofString "__spec__")) (Value.str (Str.ofString "__spec__") 169) Value.none, DictEntry.mk (PyData.keyHash P (Str.ofString "__annotations__")) (Value.str (Str.ofString "__annotations__") 170) (Value.ref 6), DictEntry.mk (PyData.keyHash P (Str.ofString "__builtins__")) (Value.str (Str.ofString "__builtins__") 171) (Value.ref 4), DictEntry.mk (PyData.keyHash P (Str.ofString "__file__")) (Value.str (Str.ofString "__file__") 173) (Value.str (Str.ofString "/claim/cut.py") 172), DictEntry.mk (PyData.keyHash P (Str.ofString "__cached__")) (Value.str (Str.ofString "__cached__") 174) Value.none, DictEntry.mk (PyData.keyHash P (Str.ofString "PagebaseError")) (Value.str (Str.ofString "PagebaseError") 217) (Value.ref 31), DictEntry.mk (PyData.keyHash P (Str.ofString "CorruptError")) (Value.str (Str.ofString "CorruptError") 233) (Value.ref 44), DictEntry.mk (PyData.keyHash P (Str.ofString "REPLACEMENT")) (Value.str (Str.ofString "REPLACEMENT") 238) (Value.str (Str.ofString "�") 237), DictEntry.mk (PyData.keyHash P (Str.ofString "lead_of")) (Value.str (Str.ofString "lead_of") 245) (Value.ref 53), DictEntry.mk (PyData.keyHash P (Str.ofString "text_of")) (Value.str (Str.ofString "text_of") 256) (Value.ref 60), DictEntry.mk (PyData.keyHash P (Str.ofString "code_at")) (Value.str (Str.ofString "code_at") 269) (Value.ref 67), DictEntry.mk (PyData.keyHash P (Str.ofString "NUMBER_SIZES")) (Value.str (Str.ofString "NUMBER_SIZES") 279) (Value.ref 68), DictEntry.mk (PyData.keyHash P (Str.ofString "ZERO_TYPE")) (Value.str (Str.ofString "ZERO_TYPE") 281) (Value.int 8 280), DictEntry.mk (PyData.keyHash P (Str.ofString "ONE_TYPE")) (Value.str (Str.ofString "ONE_TYPE") 283) (Value.int 9 282), DictEntry.mk (PyData.keyHash P (Str.ofString "BLOB_TYPE")) (Value.str (Str.ofString "BLOB_TYPE") 285) (Value.int 12 284), DictEntry.mk (PyData.keyHash P (Str.ofString "get_varint")) (Value.str (Str.ofString "get_varint") 296) (Value.ref 75), DictEntry.mk (PyData.keyHash P (Str.ofString "get_fixed")) (Value.str (Str.ofString "get_fixed") 307) (Value.ref 82), DictEntry.mk (PyData.keyHash P (Str.ofString "serial_size")) (Value.str (Str.ofString "serial_size") 314) (Value.ref 89), DictEntry.mk (PyData.keyHash P (Str.ofString "value_of")) (Value.str (Str.ofString "value_of") 325) (Value.ref 96), DictEntry.mk (PyData.keyHash P (Str.ofString "head_of")) (Value.str (Str.ofString "head_of") 336) (Value.ref 103), DictEntry.mk (PyData.keyHash P (Str.ofString "decode_record")) (Value.str (Str.ofString "decode_record") 347) (Value.ref 110), DictEntry.mk (PyData.keyHash P (Str.ofString "record_column")) (Value.str (Str.ofString "record_column") 360) (Value.ref 117), DictEntry.mk (PyData.keyHash P (Str.ofString "_law_pool")) (Value.str (Str.ofString "_law_pool") 373) (Value.ref 124), DictEntry.mk (PyData.keyHash P (Str.ofString "_law_take")) (Value.str (Str.ofString "_law_take") 382) (Value.ref 131), DictEntry.mk (PyData.keyHash P (Str.ofString "_law_one")) (Value.str (Str.ofString "_law_one") 390) (Value.ref 138), DictEntry.mk (PyData.keyHash P (Str.ofString "_law_number")) (Value.str (Str.ofString "_law_number") 399) (Value.ref 145), DictEntry.mk (PyData.keyHash P (Str.ofString "_law_written")) (Value.str (Str.ofString "_law_written") 405) (Value.ref 150), DictEntry.mk (PyData.keyHash P (Str.ofString "_law_spoilt")) (Value.str (Str.ofString "_law_spoilt") 416) (Value.ref 157), DictEntry.mk (PyData.keyHash P (Str.ofString "_law_next")) (Value.str (Str.ofString "_law_next") 427) (Value.ref 164), DictEntry.mk (PyData.keyHash P (Str.ofString "_law_size")) (Value.str (Str.ofString "_law_size") 434) (Value.ref 171), DictEntry.mk (PyData.keyHash P (Str.ofString "_law_read")) (Value.str (Str.ofString "_law_read") 448) (Value.ref 178), DictEntry.mk (PyData.keyHash P (Str.ofString "_law_value")) (Value.str (Str.ofString "_law_value") 456) (Value.ref 185), DictEntry.mk (PyData.keyHash P (Str.ofString "_law_heard")) (Value.str (Str.ofString "_law_heard") 463) (Value.ref 192), DictEntry.mk (PyData.keyHash P (Str.ofString "law")) (Value.str (Str.ofString "law") 474) (Value.ref 199)] 38) #[]
noncomputable def q12v7 : Params → Obj := fun P => Obj.mk Value.none Option.none (Data.fields #[Value.int 2 0, Value.int 0 0, Value.ref 20, Value.int 6 0, Value.int 0 0, Value.ref 40, Value.int 10 0, Value.int 0 0, Value.ref 52, Value.int 20 0, Value.int 0 0, Value.ref 59, Value.int 35 0, Value.int 0 0, Value.ref 66, Value.int 51 0, Value.int 0 0, Value.ref 74, Value.int 64 0, Value.int 0 0, Value.ref 81, Value.int 71 0, Value.int 0 0, Value.ref 88, Value.int 79 0, Value.int 0 0, Value.ref 95, Value.int 95 0, Value.int 0 0, Value.ref 102, Value.int 106 0, Value.int 0 0, Value.ref 109, Value.int 115 0, Value.int 0 0, Value.ref 116, Value.int 129 0, Value.int 0 0, Value.ref 123, Value.int 136 0, Value.int 0 0, Value.ref 130, Value.int 143 0, Value.int 0 0, Value.ref 137, Value.int 145 0, Value.int 0 0, Value.ref 144, Value.int 153 0, Value.int 0 0, Value.ref 149, Value.int 164 0, Value.int 0 0, Value.ref 156, Value.int 175 0, Value.int 0 0, Value.ref 163, Value.int 186 0, Value.int 0 0, Value.ref 170, Value.int 188 0, Value.int 0 0, Value.ref 177, Value.int 210 0, Value.int 0 0, Value.ref 184, Value.int 216 0, Value.int 0 0, Value.ref 191, Value.int 221 0, Value.int 0 0, Value.ref 198]) #[]
noncomputable def q158v0 : Params → Obj := fun P => Obj.mk (Value.type "tuple") Option.none (Data.seq #[]) #[]
noncomputable def q159v0 : Params → Obj := fun P => Obj.mk Value.none Option.none (Data.fields #[]) #[]
noncomputable def q160v0 : Params → Obj := fun P => Obj.mk (Value.type "tuple") Option.none (Data.seq #[Value.str (Str.ofString "octets_one") 420, Value.str (Str.ofString "at") 421, Value.str (Str.ofString "many_one") 422, Value.str (Str.ofString "turn") 423, Value.str (Str.ofString "octet_one") 424]) #[]
noncomputable def q161v0 : Params → Obj := fun P => Obj.mk (Value.type "tuple") Option.none (Data.seq #[]) #[]
noncomputable def q162v0 : Params → Obj := fun P => Obj.mk Value.none Option.none (Data.func (FuncData.mk (Str.ofString "_law_next") (Str.ofString "_law_next") f164p (FuncBody.stmts f164b) f164s 0 [] Value.none Value.none Value.none Value.none Option.none Value.none Value.none 0)) #[]
noncomputable def q163v0 : Params → Obj := fun P => Obj.mk (Value.type "code") Option.none (Data.fields #[Value.str (Str.ofString "_law_next") 417, Value.str (Str.ofString "_law_next") 418, Value.str (Str.ofString "/claim/cut.py") 419, Value.int 175 0, Value.int 2 0, Value.int 0 0, Value.int 0 0, Value.int 3 0, Value.ref 158, Value.bool Bool.true, Value.int 181 0, Value.ref 159, Value.none, Value.ref 160, Value.ref 161, Value.ref 162, Value.int 425 0, Value.int 175 0, Value.str (Str.ofString "/claim/cut.py") 426]) #[]
noncomputable def q164v0 : Params → Obj := fun P => Obj.mk (Value.type "function") Option.none (Data.func (FuncData.mk (Str.ofString "_law_next") (Str.ofString "_law_next") f164p (FuncBody.stmts f164b) f164s 3 [] Value.none Value.none Value.none (Value.str (Str.ofString "law_pb0446_01") 361) Option.none (Value.ref 163) Value.none 0)) #[]
noncomputable def q165v0 : Params → Obj := fun P => Obj.mk (Value.type "tuple") Option.none (Data.seq #[]) #[]
noncomputable def q166v0 : Params → Obj := fun P => Obj.mk Value.none Option.none (Data.fields #[]) #[]
noncomputable def q167v0 : Params → Obj := fun P => Obj.mk (Value.type "tuple") Option.none (Data.seq #[Value.str (Str.ofString "kind_one") 431]) #[]
noncomputable def q168v0 : Params → Obj := fun P => Obj.mk (Value.type "tuple") Option.none (Data.seq #[]) #[]
noncomputable def q169v0 : Params → Obj := fun P => Obj.mk Value.none Option.none (Data.func (FuncData.mk (Str.ofString "_law_size") (Str.ofString "_law_size") f171p (FuncBody.stmts f171b) f171s 0 [] Value.none Value.none Value.none Value.none Option.none Value.none Value.none 0)) #[]
noncomputable def q170v0 : Params → Obj := fun P => Obj.mk (Value.type "code") Option.none (Data.fields #[Value.str (Str.ofString "_law_size") 428, Value.str (Str.ofString "_law_size") 429, Value.str (Str.ofString "/claim/cut.py") 430, Value.int 186 0, Value.int 1 0, Value.int 0 0, Value.int 0 0, Value.int 3 0, Value.ref 165, Value.bool Bool.true, Value.int 181 0, Value.ref 166, Value.none, Value.ref 167, Value.ref 168, Value.ref 169, Value.int 432 0, Value.int 186 0, Value.str (Str.ofString "/claim/cut.py") 433]) #[]
noncomputable def q171v0 : Params → Obj := fun P => Obj.mk (Value.type "function") Option.none (Data.func (FuncData.mk (Str.ofString "_law_size") (Str.ofString "_law_size") f171p (FuncBody.stmts f171b) f171s 3 [] Value.none Value.none Value.none (Value.str (Str.ofString "law_pb0446_01") 361) Option.none (Value.ref 170) Value.none 0)) #[]
noncomputable def q172v0 : Params → Obj := fun P => Obj.mk (Value.type "tuple") Option.none (Data.seq #[]) #[]
noncomputable def q173v0 : Params → Obj := fun P => Obj.mk Value.none Option.none (Data.fields #[]) #[]
noncomputable def q174v0 : Params → Obj := fun P => Obj.mk (Value.type "tuple") Option.none (Data.seq #[Value.str (Str.ofString "octets_one") 438, Value.str (Str.ofString "column") 439, Value.str (Str.ofString "told_one") 440, Value.str (Str.ofString "found_one") 441, Value.str (Str.ofString "place_one") 442, Value.str (Str.ofString "at") 443, Value.str (Str.ofString "pair_one") 444, Value.str (Str.ofString "many_one") 445]) #[]
noncomputable def q175v0 : Params → Obj := fun P => Obj.mk (Value.type "tuple") Option.none (Data.seq #[]) #[]
noncomputable def q176v0 : Params → Obj := fun P => Obj.mk Value.none Option.none (Data.func (FuncData.mk (Str.ofString "_law_read") (Str.ofString "_law_read") f178p (FuncBody.stmts f178b) f178s 0 [] Value.none Value.none Value.none Value.none Option.none Value.none Value.none 0)) #[]
noncomputable def q177v0 : Params → Obj := fun P => Obj.mk (Value.type "code") Option.none (Data.fields #[Value.str (Str.ofString "_law_read") 435, Value.str (Str.ofString "_law_read") 436, Value.str (Str.ofString "/claim/cut.py") 437, Value.int 188 0, Value.int 2 0, Value.int 0 0, Value.int 0 0, Value.int 3 0, Value.ref 172, Value.bool Bool.true, Value.int 181 0, Value.ref 173, Value.none, Value.ref 174, Value.ref 175, Value.ref 176, Value.int 446 0, Value.int 188 0, Value.str (Str.ofString "/claim/cut.py") 447]) #[]
noncomputable def q178v0 : Params → Obj := fun P => Obj.mk (Value.type "function") Option.none (Data.func (FuncData.mk (Str.ofString "_law_read") (Str.ofString "_law_read") f178p (FuncBody.stmts f178b) f178s 3 [] Value.none Value.none Value.none (Value.str (Str.ofString "law_pb0446_01") 361) Option.none (Value.ref 177) Value.none 0)) #[]
noncomputable def q179v0 : Params → Obj := fun P => Obj.mk (Value.type "tuple") Option.none (Data.seq #[]) #[]
noncomputable def q180v0 : Params → Obj := fun P => Obj.mk Value.none Option.none (Data.fields #[]) #[]
noncomputable def q181v0 : Params → Obj := fun P => Obj.mk (Value.type "tuple") Option.none (Data.seq #[Value.str (Str.ofString "kind_one") 452, Value.str (Str.ofString "body_one") 453]) #[]
noncomputable def q182v0 : Params → Obj := fun P => Obj.mk (Value.type "tuple") Option.none (Data.seq #[]) #[]
noncomputable def q183v0 : Params → Obj := fun P => Obj.mk Value.none Option.none (Data.func (FuncData.mk (Str.ofString "_law_value") (Str.ofString "_law_value") f185p (FuncBody.stmts f185b) f185s 0 [] Value.none Value.none Value.none Value.none Option.none Value.none Value.none 0)) #[]
noncomputable def q184v0 : Params → Obj := fun P => Obj.mk (Value.type "code") Option.none (Data.fields #[Value.str (Str.ofString "_law_value") 449, Value.str (Str.ofString "_law_value") 450, Value.str (Str.ofString "/claim/cut.py") 451, Value.int 210 0, Value.int 2 0, Value.int 0 0, Value.int 0 0, Value.int 3 0, Value.ref 179, Value.bool Bool.true, Value.int 181 0, Value.ref 180, Value.none, Value.ref 181, Value.ref 182, Value.ref 183, Value.int 454 0, Value.int 210 0, Value.str (Str.ofString "/claim/cut.py") 455]) #[]
noncomputable def q185v0 : Params → Obj := fun P => Obj.mk (Value.type "function") Option.none (Data.func (FuncData.mk (Str.ofString "_law_value") (Str.ofString "_law_value") f185p (FuncBody.stmts f185b) f185s 3 [] Value.none Value.none Value.none (Value.str (Str.ofString "law_pb0446_01") 361) Option.none (Value.ref 184) Value.none 0)) #[]
noncomputable def q186v0 : Params → Obj := fun P => Obj.mk (Value.type "tuple") Option.none (Data.seq #[]) #[]
noncomputable def q187v0 : Params → Obj := fun P => Obj.mk Value.none Option.none (Data.fields #[]) #[]
noncomputable def q188v0 : Params → Obj := fun P => Obj.mk (Value.type "tuple") Option.none (Data.seq #[Value.str (Str.ofString "work_one") 460]) #[]
noncomputable def q189v0 : Params → Obj := fun P => Obj.mk (Value.type "tuple") Option.none (Data.seq #[]) #[]
noncomputable def q190v0 : Params → Obj := fun P => Obj.mk Value.none Option.none (Data.func (FuncData.mk (Str.ofString "_law_heard") (Str.ofString "_law_heard") f192p (FuncBody.stmts f192b) f192s 0 [] Value.none Value.none Value.none Value.none Option.none Value.none Value.none 0)) #[]
noncomputable def q191v0 : Params → Obj := fun P => Obj.mk (Value.type "code") Option.none (Data.fields #[Value.str (Str.ofString "_law_heard") 457, Value.str (Str.ofString "_law_heard") 458, Value.str (Str.ofString "/claim/cut.py") 459, Value.int 216 0, Value.int 1 0, Value.int 0 0, Value.int 0 0, Value.int 3 0, Value.ref 186, Value.bool Bool.true, Value.int 181 0, Value.ref 187, Value.none, Value.ref 188, Value.ref 189, Value.ref 190, Value.int 461 0, Value.int 216 0, Value.str (Str.ofString "/claim/cut.py") 462]) #[]
noncomputable def q192v0 : Params → Obj := fun P => Obj.mk (Value.type "function") Option.none (Data.func (FuncData.mk (Str.ofString "_law_heard") (Str.ofString "_law_heard") f192p (FuncBody.stmts f192b) f192s 3 [] Value.none Value.none Value.none (Value.str (Str.ofString "law_pb0446_01") 361) Option.none (Value.ref 191) Value.none 0)) #[]
noncomputable def q193v0 : Params → Obj := fun P => Obj.mk (Value.type "tuple") Option.none (Data.seq #[]) #[]
noncomputable def q194v0 : Params → Obj := fun P => Obj.mk Value.none Option.none (Data.fields #[]) #[]
noncomputable def q195v0 : Params → Obj := fun P => Obj.mk (Value.type "tuple") Option.none (Data.seq #[Value.str (Str.ofString "script") 467, Value.str (Str.ofString "k") 468, Value.str (Str.ofString "source_one") 469]) #[]
noncomputable def q196v0 : Params → Obj := fun P => Obj.mk (Value.type "tuple") Option.none (Data.seq #[Value.str (Str.ofString "column") 470, Value.str (Str.ofString "octets_one") 471]) #[]
noncomputable def q197v0 : Params → Obj := fun P => Obj.mk Value.none Option.none (Data.func (FuncData.mk (Str.ofString "law") (Str.ofString "law") f199p (FuncBody.stmts f199b) f199s 0 [] Value.none Value.none Value.none Value.none Option.none Value.none Value.none 0)) #[]
noncomputable def q198v0 : Params → Obj := fun P => Obj.mk (Value.type "code") Option.none (Data.fields #[Value.str (Str.ofString "law") 464, Value.str (Str.ofString "law") 465, Value.str (Str.ofString "/claim/cut.py") 466, Value.int 221 0, Value.int 1 0, Value.int 0 0, Value.int 0 0, Value.int 3 0, Value.ref 193, Value.bool Bool.true, Value.int 181 0, Value.ref 194, Value.none, Value.ref 195, Value.ref 196, Value.ref 197, Value.int 472 0, Value.int 221 0, Value.str (Str.ofString "/claim/cut.py") 473]) #[]
noncomputable def q199v0 : Params → Obj := fun P => Obj.mk (Value.type "function") Option.none (Data.func (FuncData.mk (Str.ofString "law") (Str.ofString "law") f199p (FuncBody.stmts f199b) f199s 3 [] Value.none Value.none Value.none (Value.str (Str.ofString "law_pb0446_01") 361) Option.none (Value.ref 198) Value.none 0)) #[]
noncomputable def hp6 : Params → Heap := fun P => Heap.mk (Array.mk (boot_o_0 P :: boot_o_1 P :: q2v0 P :: q3v6 P :: boot_o_4 P :: boot_o_5 P :: boot_o_6 P :: boot_o_7 P :: boot_o_8 P :: boot_o_9 P :: boot_o_10 P :: q11v0 P :: q12v7 P :: q13v0 P :: q14v0 P :: q15v0 P :: q16v0 P :: q17v0 P :: q18v0 P :: q19v0 P :: q20v0 P :: q21v0 P :: q22v0 P :: q23v0 P :: q24v0 P :: q25v0 P :: q26v0 P :: q27v0 P :: q28v0 P :: q29v0 P :: q30v0 P :: q31v1 P :: q32v0 P :: q33v0 P :: q34v0 P :: q35v0 P :: q36v0 P :: q37v0 P :: q38v0 P :: q39v0 P :: q40v0 P :: q41v0 P :: q42v0 P :: q43v0 P :: q44v0 P :: q45v0 P :: q46v0 P :: q47v0 P :: q48v0 P :: q49v0 P :: q50v0 P :: q51v0 P :: q52v0 P :: q53v0 P :: q54v0 P :: q55v0 P :: q56v0 P :: q57v0 P :: q58v0 P :: q59v0 P :: q60v0 P :: q61v0 P :: q62v0 P :: q63v0 P :: q64v0 P :: q65v0 P :: q66v0 P :: q67v0 P :: q68v0 P :: q69v0 P :: q70v0 P :: q71v0 P :: q72v0 P :: q73v0 P :: q74v0 P :: q75v0 P :: q76v0 P :: q77v0 P :: q78v0 P :: q79v0 P :: q80v0 P :: q81v0 P :: q82v0 P :: q83v0 P :: q84v0 P :: q85v0 P :: q86v0 P :: q87v0 P :: q88v0 P :: q89v0 P :: q90v0 P :: q91v0 P :: q92v0 P :: q93v0 P :: q94v0 P :: q95v0 P :: q96v0 P :: q97v0 P :: q98v0 P :: q99v0 P :: q100v0 P :: q101v0 P :: q102v0 P :: q103v0 P :: q104v0 P :: q105v0 P :: q106v0 P :: q107v0 P :: q108v0 P :: q109v0 P :: q110v0 P :: q111v0 P :: q112v0 P :: q113v0 P :: q114v0 P :: q115v0 P :: q116v0 P :: q117v0 P :: q118v0 P :: q119v0 P :: q120v0 P :: q121v0 P :: q122v0 P :: q123v0 P :: q124v0 P :: q125v0 P :: q126v0 P :: q127v0 P :: q128v0 P :: q129v0 P :: q130v0 P :: q131v0 P :: q132v0 P :: q133v0 P :: q134v0 P :: q135v0 P :: q136v0 P :: q137v0 P :: q138v0 P :: q139v0 P :: q140v0 P :: q141v0 P :: q142v0 P :: q143v0 P :: q144v0 P :: q145v0 P :: q146v0 P :: q147v0 P :: q148v0 P :: q149v0 P :: q150v0 P :: q151v0 P :: q152v0 P :: q153v0 P :: q154v0 P :: q155v0 P :: q156v0 P :: q157v0 P :: q158v0 P :: q159v0 P :: q160v0 P :: q161v0 P :: q162v0 P :: q163v0 P :: q164v0 P :: q165v0 P :: q166v0 P :: q167v0 P :: q168v0 P :: q169v0 P :: q170v0 P :: q171v0 P :: q172v0 P :: q173v0 P :: q174v0 P :: q175v0 P :: q176v0 P :: q177v0 P :: q178v0 P :: q179v0 P :: q180v0 P :: q181v0 P :: q182v0 P :: q183v0 P :: q184v0 P :: q185v0 P :: q186v0 P :: q187v0 P :: q188v0 P :: q189v0 P :: q190v0 P :: q191v0 P :: q192v0 P :: q193v0 P :: q194v0 P :: q195v0 P :: q196v0 P :: q197v0 P :: q198v0 P :: q199v0 P :: [])) (Life.mk [] [] [] 0 [] [] Bool.false #[] [] 0 Bool.false Bool.false Bool.false 0 [2000, 10, 10] Bool.false 0 Bool.true [] [] 0 Bool.false)
noncomputable abbrev top.r6 : List Stmt := List.drop 5 top.r5
theorem top.seg6 (w : World) (os : OsState) : segRun treeTable top.p w 11 top.ann 1 191 ⟨hp5 w.params, Array.mk [], Drawn.mk 0 0 0 0, 417, os⟩ (piecesOf (List.take 6 top.r6) top.env top.c (Pos.mk 164 0 174 19) [topFrame top.q]) = some (.next, ⟨hp6 w.params, Array.mk [], Drawn.mk 0 0 0 0, 475, os⟩, top.c, Pos.mk 221 0 230 15) := by kernel_rfl
theorem top.none : List.drop 6 top.r6 = [] := by kernel_rfl
theorem top.fin (w : World) (os : OsState) : topRun treeTable top.p w 11 top.ann 2 ⟨hp6 w.params, Array.mk [], Drawn.mk 0 0 0 0, 475, os⟩ (restOf (List.drop 6 top.r6) top.env top.c (Pos.mk 221 0 230 15) [topFrame top.q]) = some ⟨hp6 w.params, Array.mk [], Drawn.mk 0 0 0 0, 475, os⟩ := by
  rw [top.none]
  refine piece_nil ?_
  kernel_rfl
theorem top.run (w : World) (os : OsState) : topRun treeTable top.p w 11 top.ann (12 + (1 + (238 + (214 + (160 + (147 + (144 + (152 + (191 + 2))))))))) ⟨boot_heap w.params, Array.mk [], boot_drawn, boot_toks, os⟩ (topStub top.p) = some ⟨hp6 w.params, Array.mk [], Drawn.mk 0 0 0 0, 475, os⟩ :=
  go_top (top.pre w os) (piece_block (top.block w os) (piece_cut (top.seg0 w os) (piece_cut (top.seg1 w os) (piece_cut (top.seg2 w os) (piece_cut (top.seg3 w os) (piece_cut (top.seg4 w os) (piece_cut (top.seg5 w os) (piece_cut (top.seg6 w os) (top.fin w os)))))))))
theorem hd.left : LeftO PySem.Challenge.rw_pb0446_01.row.prog hd.view_39 hd.loose
    (fun s => xlAt hd.view_39 hd.read s && recOk PySem.Challenge.rw_pb0446_01.row.records s) hd.hook.obs hd.hook.val 2604 := by
  refine LeftO.of_pieces (H₀ := boot_heap) (H₁ := hp6) (gs₀ := Array.mk []) (gs₁ := Array.mk []) (d₀ := boot_drawn) (d₁ := Drawn.mk 0 0 0 0) (k₀ := boot_toks) (k₁ := 475) (m₀ := 11) (ann := top.ann) (M := 12 + (1 + (238 + (214 + (160 + (147 + (144 + (152 + (191 + 2)))))))))
    (boot_open (by kernel_rfl) (by decide) (fun s => by kernel_rfl)) (fun w => by kernel_rfl) top.run (by decide) (fun w => funext fun os => Prod.ext (by kernel_rfl) (Prod.ext (by kernel_rfl) (by kernel_rfl)))
end Mine
end
section
open PySem PySem.W PyProof.Rows PySem.Calls
set_option maxRecDepth 100000
namespace Mine
abbrev bm44 : List Value := [.ref 31, .type "Exception", .type "BaseException", .type "object"]
abbrev cls44 : Obj := excClassObj (Str.ofString "CorruptError") (Str.ofString "CorruptError") 44 43 [.ref 31] bm44 true [] [] false none none (some (.ref 35)) none (some (.str (Str.ofString "CorruptError") 218)) (some (.str (Str.ofString "CorruptError") 226)) (some (.bool true)) "Exception.__new__"
theorem at44 {w : World} {h : Heap} (X : (hd.heap_39 w.params).In h) : h.get? 44 = some cls44 := X _ _ rfl
theorem fn28 {w : World} {h : Heap} (X : (hd.heap_39 w.params).In h) : ∃ o, h.get? 28 = some o ∧ o.cls = .type "function" := ⟨_, X 28 _ rfl, rfl⟩
theorem keepsIn {w : World} {h h' : Heap} (X : (hd.heap_39 w.params).In h) (k : ∀ b o, h.get? b = some o → h'.get? b = some o) : (hd.heap_39 w.params).In h' := fun a o e => k _ _ (X a o e)

structure MadeC (h h' : Heap) (e : Addr) (args : List Value) : Prop where
  keeps : ∀ b o, h.get? b = some o → h'.get? b = some o
  new : h.get? e = none
  there : ∃ t d sl, h'.get? e = some { cls := .ref 44, dict := d, data := .fields #[.ref t, .none, .none, .none, .bool false, .none], slots := sl } ∧ h.get? t = none ∧
    h'.get? t = some { cls := .type "tuple", data := .seq args.toArray }

section
variable {w : World} {A : Around} {E : Value → Shared → Prop} {h : Heap} {g : Array GenState} {d : Drawn} {t : Nat} {os : OsState}

theorem check_new44 {M : Model} {rest : List Value} {Q : Unit → Shared → Prop} (X : (hd.heap_39 w.params).In h) (hq : Q () ⟨h, g, d, t, os⟩) :
    wpAny M A (checkBuiltinCall "Exception.__new__" ⟨.ref 44 :: rest, []⟩) Q E ⟨h, g, d, t, os⟩ := by
  have hC := at44 X
  have F := PySem.F.excBase_Exception
  have hstar := F.noStar
  simp only [checkBuiltinCall, F.newKind, F.newSplit, F.newRow]
  repeat (first | refine wpAny_loadPart_at hC ?_ | (refine wpAny_isSubtype_exc hC ?_; rw [show (Value.ref 44 :: bm44).contains (.type "Exception") = true from by decide]) | refine wpAny_staticBase_exc hC ?_ | refine wpAny_madeBy_exc hC ?_ | simp only [bne_self_eq_false, Bool.false_eq_true, if_false] | wp_step)
  exact hq

theorem new44 {R : Result → Shared → Prop} {rest : List Value} (X : (hd.heap_39 w.params).In h)
    (hq : R (.ok (.ret (.ref (h.objs.size + 1)))) ⟨(h.push { cls := .type "tuple", data := .seq rest.toArray }).push
      { cls := .ref 44, data := .fields #[.ref h.objs.size, .none, .none, .none, .bool false, .none] }, g, d, t, os⟩) (hrest : rest.length ≤ sizeLine) :
    codeAny (model PySem.Challenge.rw_pb0446_01.row.prog w) A (.builtin "Exception.__new__" ⟨.ref 44 :: rest, []⟩) R ⟨h, g, d, t, os⟩ := by
  have hC := at44 X
  have F := PySem.F.excBase_Exception
  have hends := F.ends
  refine codeAny_builtinAt F.entry ?_
  unfold Builtin.«BaseException.__new__»
  refine PySem.wpAt_bind ?_
  show PySem.wpAt _ _ _ (stack >>= _) _ _ _
  refine PySem.wpAt_bind (PySem.wpAt_stack fun p below => PySem.wpAt_of_wpAny ?_)
  wp_walk
  refine PySem.wpAt_of_wpAny ?_
  rw [F.owner]
  repeat (first | with_reducible refine wpAny_madeHere_exc F.canon hC ?_ | with_reducible refine wpAny_loadPart_at hC ?_ | (with_reducible refine wpAny_isSubtype_exc hC ?_; first | rw [show (Value.ref 44 :: bm44).contains (.type "Exception") = true from by decide] | rw [show (Value.ref 44 :: bm44).contains (.type "AttributeError") = false from by decide] | rw [show (Value.ref 44 :: bm44).contains (.type "NameError") = false from by decide]) | wp_step)
  show R _ _
  rw [Heap.size_push]
  exact hq

theorem type_call44 {rest : List Value} {Q : PySem.Fin → Shared → Prop} (X : (hd.heap_39 w.params).In h)
    (hq : ∀ h' e, MadeC h h' e rest → h'.get? e = some { cls := .ref 44, data := .fields #[.ref h.objs.size, .none, .none, .none, .bool false, .none] } →
      wpAny (model PySem.Challenge.rw_pb0446_01.row.prog w) A (call (.ref 28) (.ref e :: rest)) (fun r s' => r = .none ∧ Q (.done (.ret (.ref e))) s') E ⟨h', g, d, t, os⟩) (hrest : rest.length ≤ sizeLine) :
    wpAny (model PySem.Challenge.rw_pb0446_01.row.prog w) A (Builtin.«type.__call__» ⟨.ref 44 :: rest, []⟩) Q E ⟨h, g, d, t, os⟩ := by
  have hC := at44 X
  have F := PySem.F.excBase_Exception
  repeat (first | with_reducible refine wpAny_loadPart_at hC ?_ | with_reducible refine wpAny_madeBy_exc hC ?_ | wp_step)
  refine codeAny_call_builtin_code (Code.quiet_builtin _ F.quiet) (check_new44 X ?_)
  refine new44 X ?_ hrest
  show wpAny _ _ _ _ _ _
  have hk : ∀ b o, h.get? b = some o → ((h.push { cls := .type "tuple", data := .seq rest.toArray }).push { cls := .ref 44, data := .fields #[.ref h.objs.size, .none, .none, .none, .bool false, .none] }).get? b = some o :=
    fun b o hb => Heap.get?_push_of_some _ (Heap.get?_push_of_some _ hb)
  have X₁ := keepsIn X hk
  have hC₁ := at44 X₁
  obtain ⟨oI, hfI, hfc⟩ := fn28 X₁
  have hget : ((h.push { cls := .type "tuple", data := .seq rest.toArray }).push
      { cls := .ref 44, data := .fields #[.ref h.objs.size, .none, .none, .none, .bool false, .none] }).get? (h.objs.size + 1) = some
      { cls := .ref 44, data := .fields #[.ref h.objs.size, .none, .none, .none, .bool false, .none] } := by heap_get
  have hcC : (Value.ref 44 :: bm44).contains (.ref 44) = true := by decide
  unfold isInstance
  repeat (first | with_reducible refine wpAny_loadPart_at hget ?_ | (with_reducible refine wpAny_isSubtype_exc hC₁ ?_; rw [hcC]) | wp_step)
  show wpAny _ _ (typeLookup (.ref 44) _) _ _ _
  refine (looks_findIn (K := hd.heap_39 w.params) (r := some (.ref 28)) X₁ (by rfl)).here ?_
  refine wpAny_holding (wpAny_bind ?_)
  unfold bindSpecial
  refine wpAny_bind (wpAny_typeOf (T := "function") ⟨_, hfI, hfc⟩ ?_)
  rw [if_pos (by decide)]
  refine wpAny_pure (wpAny_bind (wpAny_mono (hq _ (h.objs.size + 1) ⟨hk, Heap.get?_none_of_le (Nat.le_succ _), h.objs.size, none, #[], hget, Heap.get?_none_of_le (Nat.le_refl _), ?_⟩ hget) (fun r s' hr => ?_) fun _ _ x => x))
  · exact Heap.get?_push_of_some _ (Heap.get?_push_at rfl rfl)
  · obtain ⟨rfl, hQ⟩ := hr
    wp_walk
    exact hQ

theorem call44 {rest : List Value} {Q : Value → Shared → Prop} (X : (hd.heap_39 w.params).In h)
    (hq : ∀ h' e, MadeC h h' e rest → h'.get? e = some { cls := .ref 44, data := .fields #[.ref h.objs.size, .none, .none, .none, .bool false, .none] } →
      wpAny (model PySem.Challenge.rw_pb0446_01.row.prog w) (A.under (.builtin "type.__call__" ⟨.ref 44 :: rest, []⟩)) (call (.ref 28) (.ref e :: rest)) (fun r s' => r = .none ∧ Q (.ref e) s') E ⟨h', g, d, t, os⟩) (hrest : rest.length ≤ sizeLine) :
    wpAny (model PySem.Challenge.rw_pb0446_01.row.prog w) A (call (.ref 44) rest) Q E ⟨h, g, d, t, os⟩ := by
  have hC := at44 X
  have f1 := tc_lookup
  have f2 := tc_bind (.ref 44)
  have hT : (⟨h, g, d, t, os⟩ : Shared).TypeIs (.ref 44) "type" := ⟨_, hC, rfl⟩
  refine wpAny_call (codeAny_of_tree ?_)
  show wpAny _ _ (callAny (.ref 44) _) _ _ _
  repeat (any_goals (first | assumption | with_reducible refine wpAny_loadPart_at hC ?_ | wp_step))
  refine ⟨rfl, ?_⟩
  refine codeAny_call_builtin_at (Code.quiet_builtin _ (by decide +kernel)) entry_typeCall (wpAny_check_type_call_sub hC (type_call44 (hrest := hrest) X fun h' e hm he => ?_))
  exact hq h' e hm he
end
end Mine
end
section
open PySem PySem.W PyProof.Rows PySem.Calls Builtin Builtin.ObjectAttr
set_option maxRecDepth 100000
set_option pp.maxSteps 1500
namespace Mine
section
variable {w : World} {A : Around} {E : Value → Shared → Prop} {s : Shared}

theorem instDict44 {e : Addr} {vs : Array Value} {M : Model} {h : Heap} {g : Array GenState} {d : Drawn} {t : Nat} {os : OsState} {Q : Option Addr → Shared → Prop} (X : (hd.heap_39 w.params).In h) (hx : h.get? e = some { cls := .ref 44, data := .fields vs })
    (hq : Q (some h.objs.size) ⟨(h.push { cls := .type "dict", data := .dict #[] }).update e fun o => { cls := o.cls, dict := some h.objs.size, data := o.data, slots := o.slots }, g, d, t, os⟩) :
    wpAny M A (instanceDict e true) Q E ⟨h, g, d, t, os⟩ := by
  have hC := at44 X
  unfold instanceDict
  repeat (first | with_reducible refine wpAny_loadPart_at hx ?_ | with_reducible refine wpAny_loadPart_at hC ?_ | wp_step)
  exact hq
set_option maxHeartbeats 1000000 in
theorem set44 {e : Addr} {vs : Array Value} {v : Value} {Q : Unit → Shared → Prop} (X : (hd.heap_39 w.params).In s.heap) (hx : s.heap.get? e = some { cls := .ref 44, data := .fields vs })
    (hq : ∀ h' tk dx, (∀ b o, b ≠ e → s.heap.get? b = some o → h'.get? b = some o) → h'.get? e = some { cls := .ref 44, dict := some dx, data := .fields vs } → Q () { s with heap := h', toks := tk }) :
    wpAny (model PySem.Challenge.rw_pb0446_01.row.prog w) A (setAttr (.ref e) (Str.ofString "message") v) Q E s := by
  obtain ⟨h, g, d, t, os⟩ := s
  dsimp only at X hx hq ⊢
  have I : InstAt h e { cls := .ref 44, data := .fields vs } 44 none := ⟨hx, rfl, rfl, trivial⟩
  have SF := PySem.F.store_object
  refine set_plain X I (by rfl) ?_
  have sub : Looks (model PySem.Challenge.rw_pb0446_01.row.prog w) h (isInstance (.ref e) (.type "object")) true := I.type.andThen (looks_mroIn X (by rfl))
  refine codeAny_call_builtin SF.slot.plain SF.entry (@check_slot (model PySem.Challenge.rw_pb0446_01.row.prog w) _ _ ⟨h, g, d, t + 1, os⟩ "object.__setattr__" "object" "__setattr__" (.ref e) [.str (Str.ofString "message") t, v] [] _ SF.kind SF.split sub (SF.args (.ref e) (.str _ t) v) ?_)
  have hm : Looks (model PySem.Challenge.rw_pb0446_01.row.prog w) h (mroOf (.ref 44)) (.ref 44 :: bm44) := (looks_clsIn (C := 44) (cd := _) X rfl).andThen .now
  rw [osa_eq, refuse_eq]
  refine wpAny_bind (wpAny_bind (I.type _ _ _ _ (fun _ _ e => e) (wpAny_bind (hm _ _ _ _ (fun _ _ e => e) ?_))))
  rw [refuseLoop_ref, refuseLoop_ref, PySem.F.store_Exception.passes (.ref e)]
  refine wpAny_pure (wpAny_bind (I.type _ _ _ _ (fun _ _ e => e) (wpAny_bind ((looks_findIn (K := hd.heap_39 w.params) (r := none) X (by rfl)) _ _ _ _ (fun _ _ e => e) (wpAny_bind ?_)))))
  refine wpAny_pure ?_
  dsimp only
  unfold storeInOwnDict ownStreamTells
  refine wpAny_bind (wpAny_pure ?_)
  refine wpAny_bind (instDict44 X hx ?_)
  have hx₁ : (h.push { cls := .type "dict", data := .dict #[] }).get? e = some { cls := .ref 44, data := .fields vs } := Heap.get?_push_of_some _ hx
  have hxs : e ≠ h.objs.size := Nat.ne_of_lt (Heap.lt_size hx)
  have hgd : ((h.push { cls := .type "dict", data := .dict #[] }).update e fun o => { cls := o.cls, dict := some h.objs.size, data := o.data, slots := o.slots }).get? h.objs.size
      = some { cls := .type "dict", data := .dict #[] } := (Heap.get?_update_ne _ _ _ _ hxs.symm).trans (Heap.get?_push_at rfl rfl)
  have hnd : ((h.push { cls := .type "dict", data := .dict #[] }).update e fun o => { cls := o.cls, dict := some h.objs.size, data := o.data, slots := o.slots }).Ns h.objs.size (fun _ => none) :=
    ⟨_, #[], _, hgd, rfl, fun e he => absurd he (by simp), fun _ => rfl⟩
  dsimp only
  unfold storeInDict newKeyGuard
  refine wpAny_bind (wpAny_pure (wpAny_bind (wpAny_nsSet1 (Heap.Ns1.of_empty hnd) fun h' hn' hs => ?_)))
  obtain ⟨oD, esD, epD, hoD, hdD, hcD⟩ := hn'.count (Within.cons (Str.ofString "message") v Within.nil)
  refine wpAny_bind (wpAny_lookBehind hoD (by rw [hdD]; exact pastItsLine_dict (Nat.le_trans hcD (by rw [List.length_cons, List.length_nil, sizeLine_eq]; omega))) ?_)
  wp_walk
  refine hq h' _ h.objs.size (fun b o hbe hb => ?_) ?_
  · exact (hs.2 b (Nat.ne_of_lt (Heap.lt_size hb))).trans ((Heap.get?_update_ne _ _ _ _ hbe).trans (Heap.get?_push_of_some _ hb))
  · exact (hs.2 e hxs).trans (Heap.get?_update_self _ hx₁ rfl)

theorem init28 {e : Addr} {vs : Array Value} {x : Str} {tx : Tok} {Q : Value → Shared → Prop} (X : (hd.heap_39 w.params).In s.heap) (hlim : s.heap.NoLimit) (hroom : A.depth < recursionLimit)
    (hx : s.heap.get? e = some { cls := .ref 44, data := .fields vs })
    (hq : ∀ h' tk dx, (∀ b o, b ≠ e → s.heap.get? b = some o → h'.get? b = some o) → h'.get? e = some { cls := .ref 44, dict := some dx, data := .fields vs } → Q .none { s with heap := h', toks := tk }) :
    wpAny (model PySem.Challenge.rw_pb0446_01.row.prog w) A (call (.ref 28) [.ref e, .str x tx]) Q E s := by
  refine wpAny_call ?_
  refine codeAny_call_def (binds := [(Str.ofString "self", .ref e), (Str.ofString "message", .str x tx)]) hroom (X 28 _ rfl) rfl hlim (codeRec_of X (by rfl)) rfl (BindsTo.of_eq rfl) (by decide) (locs rfl) (fun h₁ hns hk₁ => ?_)
  have F : Fr s.heap s.heap.objs.size h₁ (fun y => [(Str.ofString "self", Value.ref e), (Str.ofString "message", Value.str x tx)].reverse.lookup y) := ⟨hns, hk₁, Nat.le_refl _⟩
  refine wpAny_execs_cons ?_
  refine plainObj_wpAny_Assign_Attribute ?_ (by rfl)
  refine ld (v := .str x tx) F (by rfl) ?_
  refine ld (v := .ref e) F (by rfl) ?_
  refine set44 (keepsIn X hk₁) (hk₁ _ _ hx) fun h' tk dx k1 k2 => ?_
  refine wpAny_execs_nil ?_
  exact hq h' tk dx (fun b o hb q => k1 b o hb (hk₁ _ _ q)) k2

theorem corrupt44 {x : Str} {tx : Tok} {Q : Value → Shared → Prop} (X : (hd.heap_39 w.params).In s.heap) (hlim : s.heap.NoLimit) (hroom : A.depth + 1 < recursionLimit)
    (hq : ∀ h' tk e, MadeC s.heap h' e [.str x tx] → Q (.ref e) { s with heap := h', toks := tk }) :
    wpAny (model PySem.Challenge.rw_pb0446_01.row.prog w) A (call (.ref 44) [.str x tx]) Q E s := by
  obtain ⟨h, g, d, t, os⟩ := s
  refine call44 X (fun h' e hm he => ?_) (by show 1 ≤ sizeLine; rw [sizeLine_eq]; omega)
  refine init28 (s := ⟨h', g, d, t, os⟩) (keepsIn X hm.keeps) (hlim.keeps hm.keeps) ?_ he fun h₂ tk dx k1 k2 => ⟨rfl, hq h₂ tk e ⟨fun b o q => k1 b o (fun z => ?_) (hm.keeps _ _ q), hm.new, ?_⟩⟩
  · rw [depth_under_make]; exact hroom
  · rw [z, hm.new] at q; cases q
  · obtain ⟨t₀, d₀, sl, h1, h2, h3⟩ := hm.there
    rw [he] at h1
    cases h1
    exact ⟨_, _, _, k2, h2, k1 _ _ (fun z => by rw [z, he] at h3; cases h3) h3⟩
end
end Mine
end
section
open PySem PySem.W PyProof.Rows PySem.Calls Builtin Builtin.ObjectAttr
set_option maxRecDepth 100000
set_option pp.maxSteps 1500
namespace Mine
/-- what the raise statement hands on -/
def Raised44 (w : World) (E : Value → Shared → Prop) (v : Value) (s₁ : Shared) : Prop :=
  ∃ a t d sl, v = .ref a ∧ (hd.heap_39 w.params).In s₁.heap ∧ s₁.heap.get? a = some { cls := .ref 44, dict := d, data := .fields #[.ref t, .none, .none, .none, .bool false, .none], slots := sl } ∧ E (.ref a) s₁
section
variable {w : World} {A : Around} {E : Value → Shared → Prop} {s : Shared} {env : Env}
theorem raise44 {e : Expr} {pos : Pos} {Q : Flow → Shared → Prop} (hh : A.handled = none)
    (h : wpAny (model PySem.Challenge.rw_pb0446_01.row.prog w) A (eval e env) (Raised44 w E) E s) : wpAny (model PySem.Challenge.rw_pb0446_01.row.prog w) A (exec (.Raise (some e) none pos) env) Q E s := by
  show wpAny _ A (do standAt pos; raiseStmt env (some (do let v ← eval e env; standAt pos; pure v)) none) Q E s
  refine wpAny_bind (wpAny_standAt ?_)
  unfold raiseStmt
  dsimp only
  refine wpAny_bind (wpAny_bind (wpAny_mono h (fun v s₁ h₁ => wpAny_bind (wpAny_standAt (wpAny_pure ?_))) fun _ _ x => x))
  obtain ⟨a, t, d, sl, rfl, X, ha, hE⟩ := h₁
  obtain ⟨hp, g, dr, tk, os⟩ := s₁
  have hC := at44 X
  have hcB : (Value.ref 44 :: bm44).contains (.type "BaseException") = true := by decide
  repeat (first | with_reducible refine wpAny_loadPart_at ha ?_ | with_reducible refine wpAny_loadPart_at hC ?_ | (with_reducible refine wpAny_isSubtype_exc hC ?_; rw [hcB]) | wp_step)
  exact wpAny_raiseNew_none hh hE

theorem raised_of_made {h₀ : Heap} {e : Addr} {args : List Value} (X : (hd.heap_39 w.params).In h₀) {s₁ : Shared} (hm : MadeC h₀ s₁.heap e args) (hE : E (.ref e) s₁) : Raised44 w E (.ref e) s₁ := by
  obtain ⟨t, d, sl, h1, _, _⟩ := hm.there
  exact ⟨e, t, d, sl, rfl, keepsIn X hm.keeps, h1, hE⟩
theorem corrupt44F {h₀ : Heap} {L : Addr} {m : Str → Option Value} {p : Program} {loose : List Str} {mean : ExcName → Option Value} {mg mb : Str → Option Value} {x : Str} {tx : Tok} (F : Fr h₀ L s.heap m) (X : (hd.heap_39 w.params).In h₀) (T : Top p loose mean mg mb h₀) (hroom : A.depth + 1 < recursionLimit)
    (hq : ∀ h' tk e, MadeC s.heap h' e [.str x tx] → E (.ref e) { s with heap := h', toks := tk }) :
    wpAny (model PySem.Challenge.rw_pb0446_01.row.prog w) A (PySem.call (.ref 44) [.str x tx]) (Raised44 w E) E s :=
  corrupt44 (keepsIn X F.keep) (T.nolimit.keeps F.keep) hroom fun h' tk e hm => raised_of_made (keepsIn X F.keep) hm (hq h' tk e hm)
end
section
variable {M : Model} {A : Around} {E : Value → Shared → Prop} {s' : Shared} {base g h : Heap} {outer : List Env} {L a e : Addr} {m : Str → Option Value} {name : Str} {scope : Scope} {cd : Value} {Q : Unit → Shared → Prop} {news : List (Addr × Obj)}
theorem leave44 {vs : List Value} (K : Below A base outer g) (hx : MadeC h s'.heap e vs) (F : Fr g L h m) (N : News g L h news)
    (hQ : ∀ h' t, RaisedK base outer e (.ref 44) t vs news h' → g.UpToSlots h' → Q () { s' with heap := h' }) (hk : scope.kind = .function := by rfl) :
    wpAny M (A.deeper (envOf name scope L a cd)) (leaving (envOf name scope L a cd) (.ref e)) Q E s' := by
  have K' := K.push (name := name) (a := a) (cd := cd) F hk
  let as := (envOf name scope L a cd :: outer).filterMap (·.frame)
  have hin : ∀ env ∈ (envOf name scope L a cd :: outer), ∀ b, env.frame = some b → b ∈ as := fun env he b hb => List.mem_filterMap.mpr ⟨env, he, hb⟩
  have st : base.StaysIn (hideAll h as) := fun b o q => hideAll_get _ (K'.stays b o q) fun hm => by
    rw [(K'.frames.mem hm).1] at q; cases q
  have hl : ∀ q ∈ news, (hideAll h as).get? q.1 = some q.2 ∧ base.get? q.1 = none := fun q hq => by
    refine ⟨hideAll_get _ (N q hq).1 fun hm => ?_, fresh_of_stays K.stays (N q hq).2.2⟩
    obtain ⟨env, he, hf⟩ := List.mem_filterMap.mp hm
    rcases List.mem_cons.mp he with rfl | he
    · exact (N q hq).2.1 (Option.some.inj hf).symm
    · obtain ⟨o, ho, _⟩ := (K.frames.mem (List.mem_filterMap.mpr ⟨env, he, hf⟩)).2
      rw [(N q hq).2.2] at ho; cases ho
  obtain ⟨t, d, sl, he, htn, ht⟩ := hx.there
  have hkb : (hideAll h as).StaysIn h := fun b o q => of_hideAll _ q
  have hfl : h.FunFrames (hideAll h as) (envOf name scope L a cd :: outer) := funFrames_hide K'.frames hin
  have fresh : ∀ b, h.get? b = none → (hideAll h as).get? b = none := fun b hb => by
    cases hq : (hideAll h as).get? b with
    | none => rfl
    | some o' => have := hkb b o' hq; rw [hb] at this; cases this
  refine wpAny_leaving_firstW (a0 := .ref t) K'.stack (hfl.of_keeps fun b o hb _ => ⟨o, hx.keeps b o hb, rfl⟩) rfl he (fun b o hb => hx.keeps b o (hkb b o hb)) (fresh e hx.new) rfl rfl rfl fun h' hL => ?_
  obtain ⟨k1, ⟨_, _, k2⟩, k3, k4⟩ := hL
  exact hQ h' t ⟨⟨hideAll h as, st, hl, ⟨k1, fresh e hx.new, k2, k3⟩, fresh t htn⟩, Heap.TupAt.of_slots ⟨_, _, ht, rfl, rfl⟩ k4⟩ (((Heap.UpToSlots.of_keeps F.keep).trans (Heap.UpToSlots.of_keeps hx.keeps)).trans k4)
end
abbrev tupO (vs : List Value) : Obj := { cls := .type "tuple", data := .seq vs.toArray }
theorem raisedK_sub {base h : Heap} {l : List Env} {e t : Addr} {cls : Value} {vs : List Value} {news news' : List (Addr × Obj)} (R : RaisedK base l e cls t vs news' h) (hs : ∀ q ∈ news, q ∈ news') : RaisedK base l e cls t vs news h := by
  obtain ⟨⟨B, h1, h2, h3⟩, h4⟩ := R
  exact ⟨⟨B, h1, fun q hq => h2 q (hs q hq), h3⟩, h4⟩
theorem news_sub {h₀ h : Heap} {L : Addr} {news news' : List (Addr × Obj)} (N : News h₀ L h news') (hs : ∀ q ∈ news, q ∈ news') : News h₀ L h news := fun p hp => N p (hs p hp)
theorem lt_sub {x : Addr} {news news' : List (Addr × Obj)} (N : ∀ p ∈ news', p.1 < x) (hs : ∀ q ∈ news, q ∈ news') : ∀ p ∈ news, p.1 < x := fun p hp => N p (hs p hp)
theorem news_sub1 {h₀ h : Heap} {L x : Addr} {o : Obj} {news news' : List (Addr × Obj)} (N : News h₀ L h ((x, o) :: news')) (hs : ∀ q ∈ news, q ∈ news') : News h₀ L h ((x, o) :: news) := news_sub N fun q hq => by
  rcases List.mem_cons.mp hq with rfl | hq
  · exact List.mem_cons_self
  · exact List.mem_cons_of_mem _ (hs q hq)
theorem room1 {dp j k n R : Nat} (h : dp + n < R) (e : Nat.ble (k + j) n = true) : dp + j + k < R := Nat.lt_of_le_of_lt (by have := Nat.le_of_ble_eq_true e; omega) h
theorem room0 {dp k n R : Nat} (h : dp + n < R) (e : Nat.ble k n = true) : dp + k < R := Nat.lt_of_le_of_lt (by have := Nat.le_of_ble_eq_true e; omega) h
def Stop (P : Prop) : Prop := P
theorem Stop.mk {P : Prop} (h : Stop P) : P := h
theorem Stop.go {P : Prop} (h : P) : Stop P := h
end Mine
end
section
open PySem PySem.W PyProof.Rows PySem.Calls PySem.Spec
set_option maxRecDepth 100000
set_option pp.maxSteps 1500
namespace Mine
/-- how a def that catches goes back to the law: as the library's way, or behind a caught exception -/
def HBack (h₀ : Heap) (L : Addr) (m : Str → Option Value) (g : Heap) (news : List (Addr × Obj)) (R : Result → Shared → Prop) (v : Value) (s' : Shared) : Prop :=
  LeaveK h₀ L m g R v s' ∨ (h₀.StaysIn s'.heap ∧ g.UpToSlots s'.heap ∧ (∀ q ∈ news, s'.heap.get? q.1 = some q.2) ∧ (Fr h₀ L s'.heap m → News h₀ L s'.heap news → R (.ok (.ret v)) s'))
section
variable {prog : Program} {w : World} {A₀ A : Around} {s : Shared} {h₀ : Heap} {L : Addr} {m : Str → Option Value} {env : Env} {news : List (Addr × Obj)}
  {R : Result → Shared → Prop} {name qual : Str} {params : Arguments} {body : List Stmt} {scope : Scope} {dV kV doc pm cdv ct : Value} {an : Option Addr} {fo : Obj} {f : Addr} {args : Args} {binds : List (Str × Value)}
theorem heard_code (B : Below A₀ h₀ [] h₀) (F : Fr h₀ L s.heap m) (N : News h₀ L s.heap news) (hlim : h₀.NoLimit) (hA : A.frames = some [env]) (hf : env.frame = some L) (hke : env.scope.kind = .function)
    (ho : h₀.get? f = some fo) (hd : fo.data = .func (fnX name qual params body scope [] dV kV doc pm an cdv ct)) (hcd : h₀.CodeRec cdv qual) (hroom : A.depth < recursionLimit)
    (hbind : BindsTo s (fnX name qual params body scope [] dV kV doc pm an cdv ct) args binds) (hloc : ∀ y ∈ binds, scope.names.lookup y.1 = some .local)
    (h : ∀ g L' h₁, Fr h₀ L g m → Fr g L' h₁ (fun y => binds.reverse.lookup y) → News g L' h₁ news → Below A h₀ [env] g → h₀.StaysIn g →
      wpAny (model prog w) (A.deeper (envX qual scope L' f cdv [])) (execs body (envX qual scope L' f cdv []))
        (fun fl s' => HBack h₀ L m g news R (match fl with | .ret v => v | _ => .none) s')
        (fun e s' => wpAny (model prog w) (A.deeper (envX qual scope L' f cdv [])) (leaving (envX qual scope L' f cdv []) e) (fun _ s'' => R (.error e) s'') (fun e' s'' => R (.error e') s'') s')
        { s with heap := h₁, toks := s.toks + binds.length })
    (hcell : ∀ x ∈ scope.names, x.2 ≠ .cell) (hco : scope.isCoroutine = false := by rfl) (hgen : scope.isGenerator = false := by rfl) (hk : scope.kind = .function := by rfl) : codeAny (model prog w) A (.call (.ref f) args) R s := by
  obtain ⟨FG, BG, st, lv⟩ := groundX (R := R) B F N hA hf hke
  refine codeAny_call_def (fd := fnX name qual params body scope [] dV kV doc pm an cdv ct) (body := body) (binds := binds) hroom (F.keep _ _ ho) hd (hlim.keeps F.keep) (hcd.keeps F.keep) rfl hbind hcell hloc (fun h₁ hns hk₁ => ?_) hco hgen hk
  refine wpAny_mono (h _ s.heap.objs.size h₁ FG ⟨hns, fun b o e => hk₁ b o (of_hideAll _ e), Nat.le_of_eq (hideAll_size _ _)⟩
    (fun p hp => ⟨hk₁ _ _ (N p hp).1, Nat.ne_of_lt (Heap.lt_size (N p hp).1), hideAll_none _ (List.mem_map_of_mem hp)⟩) BG st) (fun fl s' hl => ?_) fun _ _ y => y
  rcases hl with hl | ⟨k1, k2, k3, k4⟩
  · exact lv _ _ hl
  · exact k4 (FG.of_stays k1 k2) fun q hq => ⟨k3 q hq, (N q hq).2⟩
end
section
variable {w : World} {A : Around} {E : Value → Shared → Prop} {s' : Shared} {h₀ : Heap} {outer : List Env} {L a e t : Addr} {name : Str} {scope : Scope} {cd : Value}
  {vs : List Value} {b₀ : Stmt} {suite : List Stmt} {pos np : Pos} {rest : List ExceptHandler} {Q : Flow → Shared → Prop} {news : List (Addr × Obj)}
  {p : Program} {loose : List Str} {mean : ExcName → Option Value} {mg mb : Str → Option Value}
theorem caught44 (hA : A.frames = some (envX name scope L a cd [] :: outer)) (R : RaisedK h₀ (envX name scope L a cd [] :: outer) e (.ref 44) t vs news s'.heap)
    (X : (hd.heap_39 w.params).In h₀) (T : Top p loose mean mg mb h₀) (ex : mg (Str.ofString "CorruptError") = some (.ref 44))
    (k : ∀ h', h₀.StaysIn h' → s'.heap.UpToSlots h' → (∀ q ∈ news, h'.get? q.1 = some q.2) →
      wpAny (model PySem.Challenge.rw_pb0446_01.row.prog w) (A.mark (some (.ref e))) (execs (b₀ :: suite) (envX name scope L a cd [])) Q E { s' with heap := h' })
    (hk : scope.kind = .function := by rfl) (hx : (envX name scope L a cd []).kindOf (Str.ofString "CorruptError") = some .globalImplicit := by rfl)
    (hE : PassesOwnAt (model PySem.Challenge.rw_pb0446_01.row.prog w) (A.mark (some (.ref e))) A (envX name scope L a cd []) E := by passes_own) :
    wpAny (model PySem.Challenge.rw_pb0446_01.row.prog w) A (noteFrame (.ref e) (envX name scope L a cd []))
      (fun _ s₂ => wpAny (model PySem.Challenge.rw_pb0446_01.row.prog w) A (setFlight (.ref e) none) (fun _ s₃ =>
        wpAny (model PySem.Challenge.rw_pb0446_01.row.prog w) A (handleBy (.ref e) (envX name scope L a cd []) (.ExceptHandler (some (.Name (Str.ofString "CorruptError") np)) none (b₀ :: suite) pos :: rest)) Q E s₃) E s₂) E s' := by
  obtain ⟨⟨Bx, hB, hl, hfl, hnew⟩, htup⟩ := R
  refine wpAny_looks_onW hA rfl hfl fun h₄ hheld₄ hsm₄ => ?_
  refine wpAny_landsW hheld₄ fun h₅ hheld hsm₅' => ?_
  have hheld' := flyingW_base hB hheld
  obtain ⟨ob, hob, hobc⟩ := hheld'.there
  refine wpAny_handleBy_cons (codeAny_handlers_test (Name_function_global hk hx (loadGlobal_global (env := envX name scope L a cd []) (T.g.keeps hheld'.1) ex ?_))) (by intro q; cases q)
  refine wpAny_excMatches_sub_self (at44 (keepsIn X hheld'.1)) hob hobc (by decide) (codeAny_handlers_suite ?_)
  refine lands_againW hheld fun h₆ hfl₆ hsm₆ => ?_
  have hfl₆' := flyingW_base hB hfl₆
  exact wpAny_passesOwnAt hE (k h₆ hfl₆'.1 ((hsm₄.trans hsm₅').trans hsm₆) fun q hq => hfl₆.1 _ _ (hl q hq).1)
theorem mg44 (X : (hd.heap_39 w.params).In h₀) (T : Top p loose mean mg mb h₀) : mg (Str.ofString "CorruptError") = some (.ref 44) := mg_of X T.g (by rfl)
theorem ret_none {M : Model} {env : Env} {pos p2 : Pos} {n : Nat} {Q : Flow → Shared → Prop} (h : Q (.ret .none) s') : wpAny M A (execs [Stmt.Return (some (Expr.Constant Const.none n p2)) pos] env) Q E s' := by
  refine wpAny_execs_cons ?_
  rw [exec_Return_some]
  refine PySem.wpAny_bind (wpAny_standAt (PySem.wpAny_bind (wpAny_Constant_none (wpAny_pure ?_))))
  exact h
end
end Mine
end
section
open PySem PySem.W PyProof.Rows
namespace Mine
noncomputable def byteAt (ks : List Int) (i : Int) : Int := ks.getD i.toNat 0
noncomputable def vgo (ks : List Int) (p : Int) : Nat → Int → Nat → Option (Int × Int)
  | 0, _, _ => none
  | k + 1, n, t => if p + t ≥ ks.length then none else if t = 8 then some (n * 256 + byteAt ks (p + t), p + t + 1) else
      if byteAt ks (p + t) < 128 then some (n * 128 + byteAt ks (p + t) % 128, p + t + 1) else vgo ks p k (n * 128 + byteAt ks (p + t) % 128) (t + 1)
noncomputable def vread (ks : List Int) (p : Int) : Option (Int × Int) := vgo ks p 9 0 0
structure VInv (ks : List Int) (p : Int) (pre : List Int) (n at_ : Int) : Prop where
  eq : vread ks p = vgo ks p (9 - pre.length) n pre.length
  place : at_ = p + pre.length
  lo : 0 ≤ n
  hi : n < 128 ^ pre.length

theorem nat_and_hi (n b k : Nat) (h : b < 2 ^ k) : (n * 2 ^ k) &&& b = 0 := by
  have h1 : ((n * 2 ^ k) &&& b) / 2 ^ k = 0 := by
    rw [Nat.and_div_two_pow, Nat.div_eq_of_lt h, Nat.and_zero]
  have h2 : ((n * 2 ^ k) &&& b) % 2 ^ k = 0 := by
    rw [Nat.and_mod_two_pow, Nat.mul_mod_left, Nat.zero_and]
  have := Nat.div_add_mod ((n * 2 ^ k) &&& b) (2 ^ k)
  rw [h1, h2] at this
  omega
theorem or_hi {n b : Int} (k : Nat) (hn : 0 ≤ n) (hb : 0 ≤ b) (h : b < ((2 ^ k : Nat) : Int)) : Builtin.bitOr (n * ((2 ^ k : Nat) : Int)) b = n * ((2 ^ k : Nat) : Int) + b := by
  have h0 : 0 ≤ n * ((2 ^ k : Nat) : Int) := Int.mul_nonneg hn (by omega)
  rw [bitOr_and, bitAnd_pp h0 hb]
  have e : (n * ((2 ^ k : Nat) : Int)).toNat = n.toNat * 2 ^ k := by
    obtain ⟨m, rfl⟩ := Int.eq_ofNat_of_zero_le hn
    rw [← Int.natCast_mul]; rfl
  rw [e, nat_and_hi _ _ _ (by omega)]
  simp
theorem or8 {n b : Int} (hn : 0 ≤ n) (hb : 0 ≤ b) (h : b < 256) : Builtin.bitOr (n * 2 ^ Int.toNat 8) b = n * 256 + b := or_hi (n := n) (b := b) 8 hn hb (by omega)
theorem or7 {n b : Int} (hn : 0 ≤ n) : Builtin.bitOr (n * 2 ^ Int.toNat 7) (Builtin.bitAnd b 127) = n * 128 + b % 128 := by
  rw [bitAnd_m7]
  exact or_hi (n := n) (b := b % 128) 7 hn (by omega) (by omega)
theorem or6 {n b : Int} (hn : 0 ≤ n) : Builtin.bitOr (n * 2 ^ Int.toNat 6) (Builtin.bitAnd b 63) = n * 64 + b % 64 := by
  rw [bitAnd_m6]
  exact or_hi (n := n) (b := b % 64) 6 hn (by omega) (by omega)

section
variable {ks : List Int} {p n : Int} {t : Nat}
theorem nine {t : Nat} (h : t < 9) : 9 - t = (8 - t) + 1 := by omega
theorem vgo_stop (ht : t < 9) (h : (ks.length : Int) ≤ p + t) : vgo ks p (9 - t) n t = none := by
  rw [nine ht, vgo, if_pos h]
theorem vgo_last (ht : t = 8) (h : ¬ (ks.length : Int) ≤ p + t) : vgo ks p (9 - t) n t = some (n * 256 + byteAt ks (p + t), p + t + 1) := by
  rw [nine (by omega), vgo, if_neg h, if_pos ht]
theorem vgo_end (ht : t < 9) (h8 : t ≠ 8) (h : ¬ (ks.length : Int) ≤ p + t) (hb : byteAt ks (p + t) < 128) : vgo ks p (9 - t) n t = some (n * 128 + byteAt ks (p + t) % 128, p + t + 1) := by
  rw [nine ht, vgo, if_neg h, if_neg h8, if_pos hb]
theorem vgo_on (ht : t < 9) (h8 : t ≠ 8) (h : ¬ (ks.length : Int) ≤ p + t) (hb : ¬ byteAt ks (p + t) < 128) : vgo ks p (9 - t) n t = vgo ks p (9 - (t + 1)) (n * 128 + byteAt ks (p + t) % 128) (t + 1) := by
  rw [nine ht, vgo, if_neg h, if_neg h8, if_neg hb, show 9 - (t + 1) = 8 - t from by omega]
theorem pow128 (ht : t < 9) : (128 : Int) ^ t ≤ 72057594037927936 := by
  have h : ∀ i : Fin 9, (128 : Int) ^ i.val ≤ 72057594037927936 := by decide
  exact h ⟨t, ht⟩
theorem pow128s (x b : Int) (h : x < 128 ^ t) (hb : b < 128) : x * 128 + b < 128 ^ (t + 1) := by
  rw [Int.pow_succ]
  generalize (128 : Int) ^ t = k at h ⊢
  omega
theorem VInv.start (ks : List Int) (p : Int) : VInv ks p [] 0 p := ⟨rfl, by simp, by omega, by simp⟩
theorem VInv.next {pre : List Int} {k n at_ : Int} (h : VInv ks p pre n at_) (ht : pre.length < 9) (h8 : pre.length ≠ 8) (hs : ¬ (ks.length : Int) ≤ at_) (hb : ¬ ks.getD at_.toNat 0 < 128) :
    VInv ks p (pre ++ [k]) (Builtin.bitOr (n * 2 ^ Int.toNat 7) (Builtin.bitAnd (ks.getD at_.toNat 0) 127)) (at_ + 1) := by
  obtain ⟨h1, rfl, h3, h4⟩ := h
  have e : ks.getD (p + pre.length).toNat 0 = byteAt ks (p + pre.length) := rfl
  rw [e] at hb ⊢
  rw [or7 h3]
  refine ⟨?_, ?_, by omega, ?_⟩
  · rw [h1, vgo_on ht h8 hs hb, List.length_append]; rfl
  · rw [List.length_append]; simp; omega
  · rw [List.length_append]; exact pow128s _ _ h4 (by omega)
theorem VInv.last {pre : List Int} {n at_ : Int} (h : VInv ks p pre n at_) (ht : pre.length = 8) (hs : ¬ (ks.length : Int) ≤ at_) (b0 : 0 ≤ ks.getD at_.toNat 0) (b1 : ks.getD at_.toNat 0 < 256) :
    vread ks p = some (Builtin.bitOr (n * 2 ^ Int.toNat 8) (ks.getD at_.toNat 0), at_ + 1) := by
  obtain ⟨h1, rfl, h3, h4⟩ := h
  rw [or8 h3 b0 b1, h1, vgo_last ht hs]; rfl
theorem VInv.fin {pre : List Int} {n at_ : Int} (h : VInv ks p pre n at_) (ht : pre.length < 9) (h8 : pre.length ≠ 8) (hs : ¬ (ks.length : Int) ≤ at_) (hb : ks.getD at_.toNat 0 < 128) :
    vread ks p = some (Builtin.bitOr (n * 2 ^ Int.toNat 7) (Builtin.bitAnd (ks.getD at_.toNat 0) 127), at_ + 1) := by
  obtain ⟨h1, rfl, h3, h4⟩ := h
  rw [or7 h3, h1, vgo_end ht h8 hs hb]; rfl
theorem VInv.out {pre : List Int} {n at_ : Int} (h : VInv ks p pre n at_) (ht : pre.length < 9) (hs : (ks.length : Int) ≤ at_) : vread ks p = none := by
  obtain ⟨h1, rfl, h3, h4⟩ := h
  rw [h1, vgo_stop ht hs]
theorem VInv.done {pre : List Int} {n at_ : Int} (h : VInv ks p pre n at_) (ht : pre.length = 9) : vread ks p = none := by
  obtain ⟨h1, rfl, h3, h4⟩ := h
  rw [h1, ht]; rfl
theorem VInv.small {pre : List Int} {n at_ : Int} (h : VInv ks p pre n at_) (ht : pre.length < 9) : 0 ≤ n ∧ n < 72057594037927936 ∧ at_ = p + pre.length :=
  ⟨h.lo, Int.lt_of_lt_of_le h.hi (pow128 ht), h.place⟩
end
end Mine
namespace Mine
noncomputable def sizeOf (k : Int) : Option Int := if 12 ≤ k then some ((k - 12).fdiv 2) else if k = 8 ∨ k = 9 then some 0 else if k < 7 then some ([0, 1, 2, 3, 4, 6, 8].getD k.toNat 0) else none
end Mine
namespace Mine
theorem any89 {o : Int} : ([8, 9].any fun x => x == o) = decide (o = 8 ∨ o = 9) := by
  by_cases h8 : o = 8
  · subst h8; decide
  · by_cases h9 : o = 9
    · subst h9; decide
    · have e8 : ((8 : Int) == o) = false := by simp; omega
      have e9 : ((9 : Int) == o) = false := by simp; omega
      simp [List.any_cons, List.any_nil, e8, e9, h8, h9]
theorem size_12 {o : Int} (h : 12 ≤ o) : sizeOf o = some ((o - 12).fdiv 2) := if_pos h
theorem size_89 {o : Int} (h : ([8, 9].any fun x => x == o) = true) : sizeOf o = some 0 := by
  rw [any89, decide_eq_true_eq] at h
  unfold sizeOf
  rw [if_neg (by omega), if_pos h]
theorem size_7 {o : Int} (h0 : ¬ 12 ≤ o) (h : ([8, 9].any fun x => x == o) = false) (h7 : o < 7) : sizeOf o = some ([0, 1, 2, 3, 4, 6, 8].getD o.toNat 0) := by
  rw [any89, decide_eq_false_iff_not] at h
  unfold sizeOf
  rw [if_neg h0, if_neg h, if_pos h7]
theorem size_no {o : Int} (h0 : ¬ 12 ≤ o) (h : ([8, 9].any fun x => x == o) = false) (h7 : ¬ o < 7) : sizeOf o = none := by
  rw [any89, decide_eq_false_iff_not] at h
  unfold sizeOf
  rw [if_neg h0, if_neg h, if_neg h7]
theorem sizes_small {o : Int} (h0 : 0 ≤ o) (h7 : o < 7) : 0 ≤ ([0, 1, 2, 3, 4, 6, 8] : List Int).getD o.toNat 0 ∧ ([0, 1, 2, 3, 4, 6, 8] : List Int).getD o.toNat 0 ≤ 8 := by
  have h : ∀ i : Fin 7, 0 ≤ ([0, 1, 2, 3, 4, 6, 8] : List Int).getD i.val 0 ∧ ([0, 1, 2, 3, 4, 6, 8] : List Int).getD i.val 0 ≤ 8 := by decide
  exact h ⟨o.toNat, (Int.toNat_lt h0).mpr h7⟩
end Mine
namespace Mine
noncomputable def ubig (ks : List Int) (p : Int) : Nat → Int
  | 0 => 0
  | n + 1 => ubig ks p n * 256 + byteAt ks (p + n)
noncomputable def fixedOf (ks : List Int) (p size : Int) : Int := if 0 < size ∧ ((256 : Int) ^ size.toNat).fdiv 2 ≤ ubig ks p size.toNat then ubig ks p size.toNat - (256 : Int) ^ size.toNat else ubig ks p size.toNat
theorem ubig_in {ks : List Int} (hk : ∀ k ∈ ks, 0 ≤ k ∧ k < 256) (p : Int) : ∀ n : Nat, 0 ≤ ubig ks p n ∧ ubig ks p n < 256 ^ n
  | 0 => by simp [ubig]
  | n + 1 => by
    have h := ubig_in hk p n
    have hb : 0 ≤ byteAt ks (p + n) ∧ byteAt ks (p + n) < 256 := KBw.getD_in hk
    rw [ubig, Int.pow_succ]
    generalize (256 : Int) ^ n = k at h ⊢
    omega
theorem ubig_next {ks : List Int} {p : Int} {n : Nat} {b : Int} (h0 : 0 ≤ ubig ks p n) (e : b = byteAt ks (p + n)) (h1 : 0 ≤ b) (h2 : b < 256) :
    Builtin.bitOr (ubig ks p n * 2 ^ Int.toNat 8) b = ubig ks p (n + 1) := by rw [or8 h0 h1 h2, ubig, e]
theorem pow256 {n : Nat} (h : n ≤ 8) : (256 : Int) ^ n ≤ 18446744073709551616 := by
  have q : ∀ i : Fin 9, (256 : Int) ^ i.val ≤ 18446744073709551616 := by decide
  exact q ⟨n, Nat.lt_succ_of_le h⟩
theorem pow256' {n : Nat} (h : n < 8) : (256 : Int) ^ n ≤ 72057594037927936 := by
  have q : ∀ i : Fin 8, (256 : Int) ^ i.val ≤ 72057594037927936 := by decide
  exact q ⟨n, h⟩
end Mine
namespace Mine
theorem bints_in {b : Array UInt8} {ks : List Int} (h : KBw.bInts b = ks) : ∀ k ∈ ks, 0 ≤ k ∧ k < 256 := fun k hk => by subst h; exact KBw.ints_in hk
theorem fixed_next {ks : List Int} {p : Int} {pre : List Int} {k n : Int} (hk : ∀ k ∈ ks, 0 ≤ k ∧ k < 256) (h : n = ubig ks p pre.length) (e : k = p + pre.length) :
    Builtin.bitOr (n * 2 ^ Int.toNat 8) (ks.getD k.toNat 0) = ubig ks p (pre ++ [k]).length := by
  have hb := KBw.getD_in (ks := ks) (j := k.toNat) hk
  rw [h, List.length_append, List.length_singleton]
  exact ubig_next (ubig_in hk p _).1 (by rw [e]; rfl) hb.1 hb.2
theorem ubig_small {ks : List Int} {p : Int} {n : Nat} {x : Int} (hk : ∀ k ∈ ks, 0 ≤ k ∧ k < 256) (hn : n < 8) (e : x = ubig ks p n) : 0 ≤ x ∧ x < 72057594037927936 := by
  have h := ubig_in hk p n
  have h2 := pow256' hn
  omega
theorem fixed_neg {ks : List Int} {p z x : Int} {n : Nat} (e : x = ubig ks p n) (hn : n = z.toNat) (h0 : 0 < z) (h1 : ((256 : Int) ^ z.toNat).fdiv 2 ≤ x) : fixedOf ks p z = x - 256 ^ z.toNat := by
  subst e; subst hn; unfold fixedOf; rw [if_pos ⟨h0, h1⟩]
theorem fixed_pos {ks : List Int} {p z x : Int} {n : Nat} (e : x = ubig ks p n) (hn : n = z.toNat) (h1 : ¬ ((256 : Int) ^ z.toNat).fdiv 2 ≤ x) : fixedOf ks p z = x := by
  subst e; subst hn; unfold fixedOf; rw [if_neg (fun h => h1 h.2)]
theorem fixed_zero {ks : List Int} {p z x : Int} {n : Nat} (e : x = ubig ks p n) (hn : n = z.toNat) (h1 : ¬ 0 < z) : fixedOf ks p z = x := by
  subst e; subst hn; unfold fixedOf; rw [if_neg (fun h => h1 h.1)]
end Mine
namespace Mine
noncomputable def leadOf (o : Int) : Option (Int × Int × Int) :=
  if o < 128 then some (0, o, 0) else if 194 ≤ o ∧ o < 224 then some (1, Builtin.bitAnd o 31, 128) else if 224 ≤ o ∧ o < 240 then some (2, Builtin.bitAnd o 15, 2048)
  else if 240 ≤ o ∧ o < 245 then some (3, Builtin.bitAnd o 7, 65536) else none
theorem leadOf_in {o f c l : Int} (h0 : 0 ≤ o) (h : leadOf o = some (f, c, l)) : 0 ≤ f ∧ f ≤ 3 ∧ 0 ≤ c ∧ c < 128 ∧ 0 ≤ l := by
  unfold leadOf at h
  rw [bitAnd_m5, bitAnd_m4, bitAnd_m3] at h
  split at h
  · simp at h; omega
  · split at h
    · simp at h; omega
    · split at h
      · simp at h; omega
      · split at h
        · simp at h; omega
        · cases h
noncomputable def cgo (ks : List Int) (p : Int) : Nat → Nat → Int → Option Int
  | 0, _, c => some c
  | r + 1, t, c => if Builtin.bitAnd (byteAt ks (p + t)) 192 ≠ 128 then none else cgo ks p r (t + 1) (Builtin.bitOr (c * 2 ^ Int.toNat 6) (Builtin.bitAnd (byteAt ks (p + t)) 63))
noncomputable def codeAt (ks : List Int) (p f c l : Int) : Option Int := if (ks.length : Int) < p + f then none else match cgo ks p f.toNat 0 c with
  | none => none
  | some c => if c < l ∨ 1114111 < c then none else some c
structure CInv (ks : List Int) (p f c₀ : Int) (pre : List Int) (c : Int) : Prop where
  eq : cgo ks p f.toNat 0 c₀ = cgo ks p (f.toNat - pre.length) pre.length c
  lo : 0 ≤ c
  hi : c < 128 * 64 ^ pre.length
end Mine
namespace Mine
theorem pow64 {n : Nat} (h : n ≤ 3) : (64 : Int) ^ n ≤ 262144 := by
  have q : ∀ i : Fin 4, (64 : Int) ^ i.val ≤ 262144 := by decide
  exact q ⟨n, Nat.lt_succ_of_le h⟩
section
variable {ks : List Int} {p f c₀ c k l : Int} {pre : List Int}
theorem CInv.start (h0 : 0 ≤ c₀) (h1 : c₀ < 128) : CInv ks p f c₀ [] c₀ := ⟨rfl, h0, by simpa using h1⟩
theorem CInv.small (h : CInv ks p f c₀ pre c) (hn : pre.length ≤ 3) : 0 ≤ c ∧ c < 33554432 := by
  obtain ⟨_, h0, h1⟩ := h
  have := pow64 hn
  omega
theorem CInv.next (h : CInv ks p f c₀ pre c) (ht : pre.length < f.toNat) (e : k = p + pre.length) (hb : Builtin.bitAnd (ks.getD k.toNat 0) 192 = 128) :
    CInv ks p f c₀ (pre ++ [k]) (Builtin.bitOr (c * 2 ^ Int.toNat 6) (Builtin.bitAnd (ks.getD k.toNat 0) 63)) := by
  obtain ⟨h1, h2, h3⟩ := h
  have eb : ks.getD k.toNat 0 = byteAt ks (p + pre.length) := by rw [e]; rfl
  rw [eb] at hb ⊢
  refine ⟨?_, ?_, ?_⟩
  · rw [h1, show f.toNat - pre.length = (f.toNat - (pre.length + 1)) + 1 from by omega, cgo, if_neg (fun q => q hb), List.length_append]
    rfl
  · rw [or6 h2]; omega
  · rw [or6 h2, List.length_append, List.length_singleton, Int.pow_succ]
    generalize (64 : Int) ^ pre.length = z at h3 ⊢
    omega
theorem CInv.out (h : CInv ks p f c₀ pre c) (ht : pre.length < f.toNat) (e : k = p + pre.length) (hl : ¬ (ks.length : Int) < p + f) (hb : Builtin.bitAnd (ks.getD k.toNat 0) 192 ≠ 128) : codeAt ks p f c₀ l = none := by
  obtain ⟨h1, h2, h3⟩ := h
  have eb : ks.getD k.toNat 0 = byteAt ks (p + pre.length) := by rw [e]; rfl
  rw [eb] at hb
  unfold codeAt
  rw [if_neg hl, h1, show f.toNat - pre.length = (f.toNat - (pre.length + 1)) + 1 from by omega, cgo, if_pos hb]
theorem CInv.done (h : CInv ks p f c₀ pre c) (ht : pre.length = f.toNat) (hl : ¬ (ks.length : Int) < p + f) : codeAt ks p f c₀ l = if c < l ∨ 1114111 < c then none else some c := by
  obtain ⟨h1, h2, h3⟩ := h
  unfold codeAt
  rw [if_neg hl, h1, ht, Nat.sub_self]
  rfl
end
end Mine
namespace Mine
noncomputable def signAt (ks : List Int) (p : Int) : Option (Int × Int) := match leadOf (byteAt ks p) with
  | none => none
  | some (f, c, l) => match codeAt ks (p + 1) f c l with
    | none => none
    | some z => some (z, f)
noncomputable def tgo (ks : List Int) : Nat → Int → List Str
  | 0, _ => []
  | n + 1, p => if p < ks.length then (match signAt ks p with
    | none => Str.ofString "�" :: tgo ks n (p + 1)
    | some (z, f) => (⟨#[z.toNat]⟩ : Str) :: tgo ks n (p + (f + 1))) else []
noncomputable def signsOf (ks : List Int) : List Str := tgo ks (ks.length + 1) 0
noncomputable def textOf (ks : List Int) : Str := Txt.join (Str.ofString "") (signsOf ks)
structure TInv (ks : List Int) (signs : List Str) (p : Int) : Prop where
  eq : signsOf ks = signs ++ tgo ks (ks.length + 1 - signs.length) p
  lo : 0 ≤ p
  hi : p ≤ ks.length
  len : signs.length ≤ p
  one : ∀ x ∈ signs, x.length = 1
end Mine
namespace Mine
section
variable {ks : List Int} {signs : List Str} {p f c l z : Int}
theorem signs_byte : ks.getD p.toNat 0 = byteAt ks p := rfl
theorem sign_n1 (h : leadOf (ks.getD p.toNat 0) = none) : signAt ks p = none := by
  rw [signs_byte] at h; unfold signAt; rw [h]
theorem sign_n2 (h : leadOf (ks.getD p.toNat 0) = some (f, c, l)) (h2 : codeAt ks (p + 1) f c l = none) : signAt ks p = none := by
  rw [signs_byte] at h; unfold signAt; rw [h]; dsimp only; rw [h2]
theorem sign_s (h : leadOf (ks.getD p.toNat 0) = some (f, c, l)) (h2 : codeAt ks (p + 1) f c l = some z) : signAt ks p = some (z, f) := by
  rw [signs_byte] at h; unfold signAt; rw [h]; dsimp only; rw [h2]
theorem code_room (h2 : codeAt ks p f c l = some z) : p + f ≤ ks.length := by
  unfold codeAt at h2
  split at h2
  · cases h2
  · omega
theorem TInv.start (ks : List Int) : TInv ks [] 0 := ⟨rfl, by omega, by omega, by simp, by simp⟩
theorem TInv.step (h : TInv ks signs p) (hp : p < ks.length) {x : Str} {q : Int} (hq : p < q) (hq2 : q ≤ ks.length) (hx : x.length = 1)
    (e : tgo ks ((ks.length + 1 - (signs.length + 1)) + 1) p = x :: tgo ks (ks.length + 1 - (signs.length + 1)) q) : TInv ks (signs ++ [x]) q := by
  obtain ⟨h1, h2, h3, h4, h5⟩ := h
  refine ⟨?_, by omega, hq2, by rw [List.length_append, List.length_singleton]; omega, ?_⟩
  · rw [h1, show ks.length + 1 - signs.length = (ks.length + 1 - (signs.length + 1)) + 1 from by omega, e, List.length_append, List.length_singleton, List.append_assoc]
    rfl
  · intro y hy
    rcases List.mem_append.mp hy with hy | hy
    · exact h5 y hy
    · rw [List.mem_singleton.mp hy]; exact hx
theorem TInv.nextR (h : TInv ks signs p) (hp : p < ks.length) (hs : signAt ks p = none) : TInv ks (signs ++ [Str.ofString "�"]) (p + 1) :=
  h.step hp (by omega) (by omega) (by decide) (by rw [tgo, if_pos hp, hs])
theorem TInv.nextC (h : TInv ks signs p) (hp : p < ks.length) (h1 : leadOf (ks.getD p.toNat 0) = some (f, c, l)) (h2 : codeAt ks (p + 1) f c l = some z) (hf : 0 ≤ f) : TInv ks (signs ++ [(⟨#[z.toNat]⟩ : Str)]) (p + (f + 1)) :=
  h.step hp (by omega) (by have := code_room h2; omega) rfl (by rw [tgo, if_pos hp, sign_s h1 h2])
theorem TInv.done (h : TInv ks signs p) (hp : ¬ p < ks.length) : signs = signsOf ks := by
  obtain ⟨h1, h2, h3, h4, h5⟩ := h
  have : tgo ks (ks.length + 1 - signs.length) p = [] := by
    cases ks.length + 1 - signs.length with
    | zero => rfl
    | succ n => rw [tgo, if_neg hp]
  rw [h1, this, List.append_nil]
end
end Mine

namespace Mine
theorem sum_ones : ∀ {l : List Str}, (∀ x ∈ l, x.length = 1) → (l.map (·.length)).sum = l.length
  | [], _ => rfl
  | x :: r, h => by
    rw [List.map_cons, List.sum_cons, List.length_cons, h x List.mem_cons_self, sum_ones fun y hy => h y (List.mem_cons_of_mem _ hy)]
    omega
end Mine
namespace Mine
inductive Val where
  | none
  | int (i : Int)
  | text (ks : List Int)
  | body (ks : List Int)
noncomputable def bodyOf (ks : List Int) (p z : Int) : List Int := (ks.drop (clipAt ks.length p)).take (clipAt ks.length (p + z) - clipAt ks.length p)
noncomputable def valueAt (ks : List Int) (p k : Int) : Option Val := match sizeOf k with
  | none => none
  | some z => if (ks.length : Int) < p + z then none else if k = 0 then some .none else if k = 8 then some (.int 0) else if k = 9 then some (.int 1) else
      if k < 12 then some (.int (fixedOf ks p z)) else if k.fmod 2 = 1 then some (.text (bodyOf ks p z)) else some (.body (bodyOf ks p z))
end Mine
namespace Mine
section
variable {ks : List Int} {p k z : Int}
theorem value_no (h : sizeOf k = none) : valueAt ks p k = none := by unfold valueAt; rw [h]
theorem value_cut (h : sizeOf k = some z) (hc : (ks.length : Int) < p + z) : valueAt ks p k = none := by unfold valueAt; rw [h]; dsimp only; rw [if_pos hc]
theorem value_eq (h : sizeOf k = some z) (hc : ¬ (ks.length : Int) < p + z) : valueAt ks p k = if k = 0 then some .none else if k = 8 then some (.int 0) else if k = 9 then some (.int 1) else
      if k < 12 then some (.int (fixedOf ks p z)) else if k.fmod 2 = 1 then some (.text (bodyOf ks p z)) else some (.body (bodyOf ks p z)) := by unfold valueAt; rw [h]; dsimp only; rw [if_neg hc]
theorem size_le8 (h : sizeOf k = some z) (h0 : 0 ≤ k) (h12 : k < 12) : 0 ≤ z ∧ z ≤ 8 := by
  unfold sizeOf at h
  rw [if_neg (by omega)] at h
  split at h
  · cases h; decide
  · split at h
    · cases h; exact sizes_small h0 (by assumption)
    · cases h
end
end Mine
namespace Mine
theorem vgo_in {ks : List Int} (hk : ∀ k ∈ ks, 0 ≤ k ∧ k < 256) {p m q : Int} : ∀ (k t : Nat) (n : Int), t + k = 9 → 0 ≤ n → n < 128 ^ t → vgo ks p k n t = some (m, q) → p + t < q ∧ q ≤ ks.length ∧ 0 ≤ m ∧ m < 2 ^ 64
  | 0, t, n, _, _, _, h => by cases h
  | k + 1, t, n, ht, h0, h1, h => by
    have hb : 0 ≤ byteAt ks (p + t) ∧ byteAt ks (p + t) < 256 := KBw.getD_in hk
    have h56 := pow128 (t := t) (by omega)
    rw [vgo] at h
    split at h
    · cases h
    · split at h
      · simp only [Option.some.injEq, Prod.mk.injEq] at h
        obtain ⟨rfl, rfl⟩ := h
        omega
      · split at h
        · simp only [Option.some.injEq, Prod.mk.injEq] at h
          obtain ⟨rfl, rfl⟩ := h
          omega
        · have := vgo_in hk k (t + 1) _ (by omega) (by omega) (pow128s _ _ h1 (by omega)) h
          omega
theorem vread_in {ks : List Int} (hk : ∀ k ∈ ks, 0 ≤ k ∧ k < 256) {p m q : Int} (h : vread ks p = some (m, q)) : p < q ∧ q ≤ ks.length ∧ 0 ≤ m ∧ m < 2 ^ 64 := by
  have := vgo_in hk 9 0 0 rfl (by omega) (by decide) h
  omega

noncomputable def typesGo (ks : List Int) (e : Int) : Nat → Int → Option (List Int × Int)
  | 0, p => some ([], p)
  | n + 1, p => if p < e then (match vread ks p with
      | none => none
      | some (k, q) => (typesGo ks e n q).map fun r => (k :: r.1, r.2)) else some ([], p)
noncomputable def headAt (ks : List Int) : Option (List Int × Int) := match vread ks 0 with
  | none => none
  | some (e, a) => if (ks.length : Int) < e ∨ e < a then none else match typesGo ks e (ks.length + 1) a with
    | none => none
    | some (ts, q) => if q ≠ e then none else some (ts, e)
structure HInv (ks : List Int) (e a : Int) (ts : List Int) (p : Int) : Prop where
  eq : typesGo ks e (ks.length + 1) a = (typesGo ks e (ks.length + 1 - ts.length) p).map fun r => (ts ++ r.1, r.2)
  lo : 0 ≤ p
  hi : p ≤ ks.length
  len : ts.length ≤ p
  big : ∀ k ∈ ts, 0 ≤ k ∧ k < 2 ^ 64
section
variable {ks ts : List Int} {e a p k q : Int}
theorem HInv.start (h0 : 0 ≤ a) (h1 : a ≤ ks.length) : HInv ks e a [] a := by
  refine ⟨?_, h0, h1, by simpa using h0, by simp⟩
  cases h : typesGo ks e (ks.length + 1) a <;> simp [h]
theorem HInv.step (h : HInv ks e a ts p) (hp : p < e) (hv : vread ks p = some (k, q)) (h1 : p < q) (h2 : q ≤ ks.length) (h3 : 0 ≤ k) (h4 : k < 2 ^ 64) : HInv ks e a (ts ++ [k]) q := by
  obtain ⟨g1, g2, g3, g4, g5⟩ := h
  refine ⟨?_, by omega, h2, by rw [List.length_append, List.length_singleton]; omega, ?_⟩
  · rw [g1, show ks.length + 1 - ts.length = (ks.length + 1 - (ts.length + 1)) + 1 from by omega, typesGo, if_pos hp, hv, List.length_append, List.length_singleton]
    dsimp only
    cases typesGo ks e (ks.length + 1 - (ts.length + 1)) q <;> simp
  · intro y hy
    rcases List.mem_append.mp hy with hy | hy
    · exact g5 y hy
    · rw [List.mem_singleton.mp hy]; exact ⟨h3, h4⟩
theorem HInv.out (h : HInv ks e a ts p) (hp : p < e) (hv : vread ks p = none) : typesGo ks e (ks.length + 1) a = none := by
  obtain ⟨g1, g2, g3, g4, g5⟩ := h
  have hl : p < ks.length + 1 := by omega
  rw [g1, show ks.length + 1 - ts.length = (ks.length + 1 - (ts.length + 1)) + 1 from by omega, typesGo, if_pos hp, hv]
  rfl
theorem HInv.done (h : HInv ks e a ts p) (hp : ¬ p < e) : typesGo ks e (ks.length + 1) a = some (ts, p) := by
  obtain ⟨g1, g2, g3, g4, g5⟩ := h
  rw [g1]
  cases hn : ks.length + 1 - ts.length with
  | zero => simp [typesGo]
  | succ n => simp [typesGo, if_neg hp]
theorem head_n1 (h : vread ks 0 = none) : headAt ks = none := by unfold headAt; rw [h]
theorem head_n2 (h : vread ks 0 = some (e, a)) (h2 : (ks.length : Int) < e ∨ e < a) : headAt ks = none := by unfold headAt; rw [h]; dsimp only; rw [if_pos h2]
theorem head_n3 (h : vread ks 0 = some (e, a)) (h2 : ¬ ((ks.length : Int) < e ∨ e < a)) (h3 : typesGo ks e (ks.length + 1) a = none) : headAt ks = none := by unfold headAt; rw [h]; dsimp only; rw [if_neg h2, h3]
theorem head_n4 (h : vread ks 0 = some (e, a)) (h2 : ¬ ((ks.length : Int) < e ∨ e < a)) (h3 : typesGo ks e (ks.length + 1) a = some (ts, q)) (h4 : q ≠ e) : headAt ks = none := by unfold headAt; rw [h]; dsimp only; rw [if_neg h2, h3]; dsimp only; rw [if_pos h4]
theorem head_s (h : vread ks 0 = some (e, a)) (h2 : ¬ ((ks.length : Int) < e ∨ e < a)) (h3 : typesGo ks e (ks.length + 1) a = some (ts, q)) (h4 : ¬ q ≠ e) : headAt ks = some (ts, e) := by unfold headAt; rw [h]; dsimp only; rw [if_neg h2, h3]; dsimp only; rw [if_neg h4]
end
end Mine
namespace Mine
noncomputable def valsGo (ks : List Int) : List Int → Int → Option (List Val × Int)
  | [], p => some ([], p)
  | k :: r, p => match valueAt ks p k with
    | none => none
    | some v => match sizeOf k with
      | none => none
      | some z => (valsGo ks r (p + z)).map fun q => (v :: q.1, q.2)
noncomputable def decodeOf (ks : List Int) : Option (List Val) := match headAt ks with
  | none => none
  | some (ts, e) => match valsGo ks ts e with
    | none => none
    | some (vs, q) => if q ≠ ks.length then none else some vs
inductive IsVal : Value → Val → Prop
  | none : IsVal .none .none
  | int {i : Int} {t : Tok} : IsVal (.int i t) (.int i)
  | text {x : List Int} {t : Tok} : IsVal (.str (textOf x) t) (.text x)
  | body {x : List Int} {b : Array UInt8} {t : Tok} (h : KBw.bInts b = x) : IsVal (.bytes b t) (.body x)
inductive ValsAre : List Value → List Val → Prop
  | nil : ValsAre [] []
  | cons {v : Value} {x : Val} {vs : List Value} {xs : List Val} : IsVal v x → ValsAre vs xs → ValsAre (v :: vs) (x :: xs)
theorem ValsAre.snoc {v : Value} {x : Val} (h : IsVal v x) : ∀ {vs : List Value} {xs : List Val}, ValsAre vs xs → ValsAre (vs ++ [v]) (xs ++ [x])
  | _, _, .nil => .cons h .nil
  | _, _, .cons a b => .cons a (ValsAre.snoc h b)
theorem ValsAre.length : ∀ {vs : List Value} {xs : List Val}, ValsAre vs xs → vs.length = xs.length
  | _, _, .nil => rfl
  | _, _, .cons _ b => by rw [List.length_cons, List.length_cons, b.length]
structure DInv (ks ts : List Int) (e : Int) (pre : List Int) (xs : List Val) (p : Int) : Prop where
  eq : ∀ post, ts = pre ++ post → valsGo ks ts e = (valsGo ks post p).map fun q => (xs ++ q.1, q.2)
  lo : 0 ≤ p
  hi : p ≤ ks.length
  len : xs.length = pre.length
theorem value_room {ks : List Int} {p k z : Int} {v : Val} (h : valueAt ks p k = some v) (hz : sizeOf k = some z) : p + z ≤ ks.length := by
  by_cases hc : (ks.length : Int) < p + z
  · rw [value_cut hz hc] at h; cases h
  · omega
theorem value_size {ks : List Int} {p k : Int} {v : Val} (h : valueAt ks p k = some v) : ∃ z, sizeOf k = some z := by
  cases hz : sizeOf k with
  | none => rw [value_no hz] at h; cases h
  | some z => exact ⟨z, rfl⟩
theorem DInv.start {ks ts : List Int} {e : Int} (h0 : 0 ≤ e) (h1 : e ≤ ks.length) : DInv ks ts e [] [] e := by
  refine ⟨fun post h => ?_, h0, h1, rfl⟩
  rw [List.nil_append] at h
  subst h
  cases valsGo ks ts e <;> simp
theorem DInv.step {ks ts pre post : List Int} {e p k z : Int} {xs : List Val} {v : Val} (h : DInv ks ts e pre xs p) (ht : ts = pre ++ k :: post) (hv : valueAt ks p k = some v) (hz : sizeOf k = some z) (h0 : 0 ≤ z) : DInv ks ts e (pre ++ [k]) (xs ++ [v]) (p + z) := by
  obtain ⟨g1, g2, g3, g4⟩ := h
  refine ⟨fun post' h' => ?_, by omega, value_room hv hz, by rw [List.length_append, List.length_append, g4]; rfl⟩
  have e' : post' = post := by
    rw [ht, List.append_assoc] at h'
    have := List.append_cancel_left h'
    exact (List.cons.inj this).2.symm
  subst e'
  rw [g1 _ ht, valsGo, hv]
  dsimp only
  rw [hz]
  dsimp only
  cases valsGo ks post' (p + z) <;> simp
theorem DInv.out {ks ts pre post : List Int} {e p k : Int} {xs : List Val} (h : DInv ks ts e pre xs p) (ht : ts = pre ++ k :: post) (hv : valueAt ks p k = none) : valsGo ks ts e = none := by
  rw [h.eq _ ht, valsGo, hv]; rfl
theorem DInv.done {ks ts : List Int} {e p : Int} {xs : List Val} (h : DInv ks ts e ts xs p) : valsGo ks ts e = some (xs, p) := by
  rw [h.eq [] (by simp)]; simp [valsGo]
theorem decode_n1 {ks : List Int} (h : headAt ks = none) : decodeOf ks = none := by unfold decodeOf; rw [h]
theorem decode_n2 {ks ts : List Int} {e : Int} (h : headAt ks = some (ts, e)) (h2 : valsGo ks ts e = none) : decodeOf ks = none := by unfold decodeOf; rw [h]; dsimp only; rw [h2]
theorem decode_n3 {ks ts : List Int} {e q : Int} {xs : List Val} (h : headAt ks = some (ts, e)) (h2 : valsGo ks ts e = some (xs, q)) (h3 : q ≠ ks.length) : decodeOf ks = none := by unfold decodeOf; rw [h]; dsimp only; rw [h2]; dsimp only; rw [if_pos h3]
theorem decode_s {ks ts : List Int} {e q : Int} {xs : List Val} (h : headAt ks = some (ts, e)) (h2 : valsGo ks ts e = some (xs, q)) (h3 : q = ks.length) : decodeOf ks = some xs := by unfold decodeOf; rw [h]; dsimp only; rw [h2]; dsimp only; rw [if_neg (by omega)]
end Mine
namespace Mine
theorem value_abs {ks : List Int} {p k : Int} {v : Val} (h : valueAt ks p k = some v) (hz : sizeOf k = none) : False := by rw [value_no hz] at h; cases h
end Mine
namespace Mine
noncomputable def colGo (ks : List Int) (e i : Int) : Nat → Int → Int → Int → Option Val
  | 0, _, _, _ => some .none
  | n + 1, p, a, c => if p < e then (match vread ks p with
      | none => none
      | some (k, q) => if c = i then valueAt ks a k else match sizeOf k with
        | none => none
        | some z => colGo ks e i n q (a + z) (c + 1)) else some .none
noncomputable def colOf (ks : List Int) (i : Int) : Option Val := match vread ks 0 with
  | none => none
  | some (e, a) => if (ks.length : Int) < e ∨ e < a then none else colGo ks e i (ks.length + 1) a e 0
theorem size_lt {k z : Int} (h : sizeOf k = some z) (h0 : 0 ≤ k) (h1 : k < 2 ^ 64) : 0 ≤ z ∧ z < 2 ^ 64 := by
  by_cases h12 : k < 12
  · have := size_le8 h h0 h12; omega
  · unfold sizeOf at h
    rw [if_pos (by omega), Int.fdiv_eq_ediv_of_nonneg _ (by decide)] at h
    cases h
    omega
structure CoInv (ks : List Int) (e i a₀ p a c : Int) : Prop where
  eq : colGo ks e i (ks.length + 1) a₀ e 0 = colGo ks e i (ks.length + 1 - c.toNat) p a c
  c0 : 0 ≤ c
  cp : c ≤ p
  hi : p ≤ ks.length
  a0 : 0 ≤ a
  a1 : a ≤ 4096 + c * 18446744073709551616
section
variable {ks : List Int} {e i a₀ p a c k q z : Int}
theorem CoInv.start (h0 : 0 ≤ a₀) (h1 : a₀ ≤ ks.length) (h2 : 0 ≤ e) (h3 : e ≤ 4096) : CoInv ks e i a₀ a₀ e 0 := ⟨rfl, by omega, h0, h1, h2, by omega⟩
theorem CoInv.unf (h : CoInv ks e i a₀ p a c) (hp : p < e) : colGo ks e i (ks.length + 1) a₀ e 0 = (match vread ks p with
      | none => none
      | some (k, q) => if c = i then valueAt ks a k else match sizeOf k with
        | none => none
        | some z => colGo ks e i (ks.length + 1 - (c + 1).toNat) q (a + z) (c + 1)) := by
  obtain ⟨g1, g2, g3, g4, g5, g6⟩ := h
  rw [g1, show ks.length + 1 - c.toNat = (ks.length + 1 - (c + 1).toNat) + 1 from by omega, colGo, if_pos hp]
theorem CoInv.step (h : CoInv ks e i a₀ p a c) (hp : p < e) (hv : vread ks p = some (k, q)) (hc : c ≠ i) (hz : sizeOf k = some z) (h1 : p < q) (h2 : q ≤ ks.length) (h3 : 0 ≤ k) (h4 : k < 2 ^ 64) : CoInv ks e i a₀ q (a + z) (c + 1) := by
  have hs := size_lt hz h3 h4
  have hu := h.unf hp
  obtain ⟨g1, g2, g3, g4, g5, g6⟩ := h
  refine ⟨?_, by omega, by omega, h2, by omega, by omega⟩
  rw [hu, hv]
  dsimp only
  rw [if_neg hc, hz]
theorem CoInv.n1 (h : CoInv ks e i a₀ p a c) (hp : p < e) (hv : vread ks p = none) : colGo ks e i (ks.length + 1) a₀ e 0 = none := by rw [h.unf hp, hv]
theorem CoInv.val (h : CoInv ks e i a₀ p a c) (hp : p < e) (hv : vread ks p = some (k, q)) (hc : c = i) : colGo ks e i (ks.length + 1) a₀ e 0 = valueAt ks a k := by rw [h.unf hp, hv]; dsimp only; rw [if_pos hc]
theorem CoInv.n2 (h : CoInv ks e i a₀ p a c) (hp : p < e) (hv : vread ks p = some (k, q)) (hc : c ≠ i) (hz : sizeOf k = none) : colGo ks e i (ks.length + 1) a₀ e 0 = none := by rw [h.unf hp, hv]; dsimp only; rw [if_neg hc, hz]
theorem CoInv.done (h : CoInv ks e i a₀ p a c) (hp : ¬ p < e) : colGo ks e i (ks.length + 1) a₀ e 0 = some .none := by
  rw [h.eq]
  cases ks.length + 1 - c.toNat with
  | zero => rfl
  | succ n => rw [colGo, if_neg hp]
theorem col_n1 (h : vread ks 0 = none) : colOf ks i = none := by unfold colOf; rw [h]
theorem col_n2 (h : vread ks 0 = some (e, a)) (h2 : (ks.length : Int) < e ∨ e < a) : colOf ks i = none := by unfold colOf; rw [h]; dsimp only; rw [if_pos h2]
theorem col_s (h : vread ks 0 = some (e, a)) (h2 : ¬ ((ks.length : Int) < e ∨ e < a)) : colOf ks i = colGo ks e i (ks.length + 1) a e 0 := by unfold colOf; rw [h]; dsimp only; rw [if_neg h2]
end
end Mine
namespace Mine
/-- the law's own reader keeps the place fixed: the same answer -/
structure NInv (ks : List Int) (p : Int) (pre : List Int) (n : Int) : Prop where
  eq : vread ks p = vgo ks p (9 - pre.length) n pre.length
  lo : 0 ≤ n
  hi : n < 128 ^ pre.length
section
variable {ks : List Int} {p n k : Int} {pre : List Int}
theorem NInv.toV (h : NInv ks p pre n) : VInv ks p pre n (p + pre.length) := ⟨h.eq, rfl, h.lo, h.hi⟩
theorem NInv.start (ks : List Int) (p : Int) : NInv ks p [] 0 := ⟨rfl, by omega, by simp⟩
theorem NInv.small (h : NInv ks p pre n) (ht : pre.length < 9) : 0 ≤ n ∧ n < 72057594037927936 := ⟨h.lo, Int.lt_of_lt_of_le h.hi (pow128 ht)⟩
theorem NInv.next (h : NInv ks p pre n) (e : k = pre.length) (ht : pre.length < 9) (h8 : k ≠ 8) (hs : ¬ (ks.length : Int) ≤ p + k) (hb : ¬ ks.getD (p + k).toNat 0 < 128) :
    NInv ks p (pre ++ [k]) (n * 128 + (ks.getD (p + k).toNat 0).fmod 128) := by
  subst e
  have e2 : ks.getD (p + pre.length).toNat 0 = byteAt ks (p + pre.length) := rfl
  rw [e2] at hb ⊢
  rw [Int.fmod_eq_emod_of_nonneg _ (by decide)]
  refine ⟨?_, by have := h.lo; omega, ?_⟩
  · rw [h.eq, vgo_on ht (by omega) hs hb, List.length_append]; rfl
  · rw [List.length_append]; exact pow128s _ _ h.hi (by omega)
theorem NInv.last (h : NInv ks p pre n) (e : k = pre.length) (h8 : k = 8) (hs : ¬ (ks.length : Int) ≤ p + k) : vread ks p = some (n * 256 + ks.getD (p + k).toNat 0, p + 9) := by
  subst e
  have e2 : ks.getD (p + pre.length).toNat 0 = byteAt ks (p + pre.length) := rfl
  rw [e2, h.eq, vgo_last (by omega) hs]
  congr 2
  omega
theorem NInv.fin (h : NInv ks p pre n) (e : k = pre.length) (ht : pre.length < 9) (h8 : k ≠ 8) (hs : ¬ (ks.length : Int) ≤ p + k) (hb : ks.getD (p + k).toNat 0 < 128) : vread ks p = some (n * 128 + (ks.getD (p + k).toNat 0).fmod 128, p + k + 1) := by
  subst e
  have e2 : ks.getD (p + pre.length).toNat 0 = byteAt ks (p + pre.length) := rfl
  rw [e2] at hb ⊢
  rw [Int.fmod_eq_emod_of_nonneg _ (by decide), h.eq, vgo_end ht (by omega) hs hb]
theorem NInv.out (h : NInv ks p pre n) (e : k = pre.length) (ht : pre.length < 9) (hs : (ks.length : Int) ≤ p + k) : vread ks p = none := by
  subst e
  rw [h.eq, vgo_stop ht hs]
theorem NInv.done (h : NInv ks p pre n) (ht : pre.length = 9) : vread ks p = none := by rw [h.eq, ht]; rfl
end
end Mine
namespace Mine
noncomputable def signedOf (xs : List Int) : Int := if (xs.head?.any fun x => decide (128 ≤ x)) = true then KFB.value xs - 256 ^ xs.length else KFB.value xs
/-- the law's own _law_value -/
noncomputable def lvalOf (k : Int) (xs : List Int) : Val := if k = 0 then .none else if k = 8 then .int 0 else if k = 9 then .int 1 else if k < 8 then .int (signedOf xs) else if k.fmod 2 = 1 then .text xs else .body xs
end Mine
namespace Mine
theorem fb8 {k : Int} {n : Nat} (h : k < 8 → n ≤ 8) (h8 : k < 8) : n ≤ 8 := h h8
end Mine
end
section
open PySem PySem.W PyProof.Rows
namespace Mine
section
variable {k : Int} {xs : List Int}
theorem lval_0 (h : k = 0) : lvalOf k xs = .none := by unfold lvalOf; rw [if_pos h]
theorem lval_89 (h0 : k ≠ 0) (h : ([8, 9].any fun x => x == k) = true) : lvalOf k xs = .int (k - 8) := by
  rw [any89, decide_eq_true_eq] at h
  unfold lvalOf
  rw [if_neg h0]
  by_cases h8 : k = 8
  · rw [if_pos h8, h8]; rfl
  · rw [if_neg h8, if_pos (by omega), show k = 9 from by omega]; rfl
theorem lval_8 (h0 : k ≠ 0) (h : ([8, 9].any fun x => x == k) = false) (h8 : k < 8) : lvalOf k xs = .int (signedOf xs) := by
  unfold lvalOf
  rw [if_neg h0, if_neg (by omega), if_neg (by omega), if_pos h8]
theorem lval_t (h : ([8, 9].any fun x => x == k) = false) (h8 : ¬ k < 8) (h2 : k.fmod 2 = 1) : lvalOf k xs = .text xs := by
  rw [any89, decide_eq_false_iff_not] at h
  unfold lvalOf
  rw [if_neg (by omega), if_neg (by omega), if_neg (by omega), if_neg h8, if_pos h2]
theorem lval_b (h : ([8, 9].any fun x => x == k) = false) (h8 : ¬ k < 8) (h2 : k.fmod 2 ≠ 1) : lvalOf k xs = .body xs := by
  rw [any89, decide_eq_false_iff_not] at h
  unfold lvalOf
  rw [if_neg (by omega), if_neg (by omega), if_neg (by omega), if_neg h8, if_neg h2]
end
end Mine
end
section
open PySem PySem.W PyProof.Rows
namespace Mine
theorem bodyOf_eq {ks : List Int} {p z : Int} (h0 : 0 ≤ p) (hz : 0 ≤ z) (h1 : p + z ≤ ks.length) : bodyOf ks p z = (ks.drop p.toNat).take z.toNat := by
  unfold bodyOf
  rw [clipAt_in h0 (by omega), clipAt_in (by omega) h1, show (p + z).toNat - p.toNat = z.toNat from by omega]
theorem bodyOf_len {ks : List Int} {p z : Int} (h0 : 0 ≤ p) (hz : 0 ≤ z) (h1 : p + z ≤ ks.length) : (bodyOf ks p z).length = z.toNat := by
  rw [bodyOf_eq h0 hz h1, List.length_take, List.length_drop]
  omega
theorem value_snoc (l : List Int) (a : Int) : KFB.value (l ++ [a]) = KFB.value l * 256 + a := by
  unfold KFB.value
  rw [List.foldl_append]; rfl
theorem value_ubig {ks : List Int} {p : Int} (h0 : 0 ≤ p) : ∀ n : Nat, p + n ≤ ks.length → KFB.value ((ks.drop p.toNat).take n) = ubig ks p n
  | 0, _ => by simp [KFB.value, ubig]
  | n + 1, h => by
    have hn : n < (ks.drop p.toNat).length := by rw [List.length_drop]; omega
    rw [List.take_add_one, List.getElem?_eq_getElem hn]
    show KFB.value (_ ++ [_]) = _
    rw [value_snoc, value_ubig h0 n (by omega), ubig]
    congr 1
    rw [List.getElem_drop]
    unfold byteAt
    rw [List.getD_eq_getElem?_getD, show (p + (n : Int)).toNat = p.toNat + n from by omega, List.getElem?_eq_getElem (by omega)]
    rfl
theorem ubig_split {ks : List Int} (hk : ∀ k ∈ ks, 0 ≤ k ∧ k < 256) (p : Int) : ∀ n : Nat, byteAt ks p * 256 ^ n ≤ ubig ks p (n + 1) ∧ ubig ks p (n + 1) < (byteAt ks p + 1) * 256 ^ n
  | 0 => by simp [ubig]; omega
  | n + 1 => by
    have h := ubig_split hk p n
    have hb : 0 ≤ byteAt ks (p + (n + 1 : Nat)) ∧ byteAt ks (p + (n + 1 : Nat)) < 256 := KBw.getD_in hk
    have e : ubig ks p (n + 1 + 1) = ubig ks p (n + 1) * 256 + byteAt ks (p + (n + 1 : Nat)) := rfl
    rw [e, Int.pow_succ, ← Int.mul_assoc, ← Int.mul_assoc]
    generalize byteAt ks p * 256 ^ n = u at h ⊢
    generalize (byteAt ks p + 1) * 256 ^ n = v at h ⊢
    omega
theorem half256 (n : Nat) : ((256 : Int) ^ (n + 1)).fdiv 2 = 128 * 256 ^ n := by
  rw [Int.fdiv_eq_ediv_of_nonneg _ (by decide), Int.pow_succ]
  generalize (256 : Int) ^ n = z
  omega
theorem signed_fixed {ks : List Int} (hk : ∀ k ∈ ks, 0 ≤ k ∧ k < 256) {p z : Int} (h0 : 0 ≤ p) (hz : 0 ≤ z) (h1 : p + z ≤ ks.length) : signedOf (bodyOf ks p z) = fixedOf ks p z := by
  have hl := bodyOf_len h0 hz h1
  have hv : KFB.value (bodyOf ks p z) = ubig ks p z.toNat := by rw [bodyOf_eq h0 hz h1]; exact value_ubig h0 z.toNat (by omega)
  unfold signedOf fixedOf
  rw [hv, hl]
  cases hn : z.toNat with
  | zero =>
    have e : bodyOf ks p z = [] := List.eq_nil_of_length_eq_zero (by omega)
    rw [e, if_neg (by decide), if_neg (by omega)]
  | succ n =>
    have hh : (bodyOf ks p z).head? = some (byteAt ks p) := by
      rw [bodyOf_eq h0 hz h1, hn, List.head?_take, List.head?_drop, if_neg (by omega)]
      unfold byteAt
      rw [List.getD_eq_getElem?_getD, List.getElem?_eq_getElem (by omega)]
      rfl
    have hs := ubig_split hk p n
    rw [hh, Option.any_some, half256]
    have hpos : (0 : Int) < 256 ^ n := Int.pow_pos (by decide)
    by_cases hb : 128 ≤ byteAt ks p
    · rw [if_pos (decide_eq_true hb), if_pos]
      exact ⟨by omega, Int.le_trans (Int.mul_le_mul_of_nonneg_right hb (by omega)) hs.1⟩
    · rw [if_neg (by rw [decide_eq_false hb]; decide), if_neg]
      intro q
      have : (byteAt ks p + 1) * 256 ^ n ≤ 128 * 256 ^ n := Int.mul_le_mul_of_nonneg_right (by omega) (by omega)
      omega
theorem value_lval {ks : List Int} (hk : ∀ k ∈ ks, 0 ≤ k ∧ k < 256) {p k z : Int} (h0 : 0 ≤ p) (k0 : 0 ≤ k) (hs : sizeOf k = some z) (hz : 0 ≤ z) (h1 : p + z ≤ ks.length) : valueAt ks p k = some (lvalOf k (bodyOf ks p z)) := by
  rw [value_eq hs (by omega)]
  unfold lvalOf
  by_cases c0 : k = 0
  · rw [if_pos c0, if_pos c0]
  · rw [if_neg c0, if_neg c0]
    by_cases c8 : k = 8
    · rw [if_pos c8, if_pos c8]
    · rw [if_neg c8, if_neg c8]
      by_cases c9 : k = 9
      · rw [if_pos c9, if_pos c9]
      · rw [if_neg c9, if_neg c9]
        by_cases c7 : k < 8
        · rw [if_pos c7, if_pos (by omega), signed_fixed hk h0 hz h1]
        · have : ¬ k < 12 := by
            intro h12
            unfold sizeOf at hs
            rw [if_neg (by omega), if_neg (by omega), if_neg (by omega)] at hs
            cases hs
          rw [if_neg c7, if_neg this]
          split <;> rfl
end Mine
end
section
open PySem PySem.W PyProof.Rows
namespace Mine
/-- the law's own reader reads the types and the values in one loop -/
structure LInv (ks : List Int) (e a : Int) (ts : List Int) (xs : List Val) (p at_ : Int) : Prop where
  h : HInv ks e a ts p
  eq : ∀ post, valsGo ks (ts ++ post) e = (valsGo ks post at_).map fun q => (xs ++ q.1, q.2)
  lo : 0 ≤ at_
  hi : at_ ≤ ks.length
  len : xs.length = ts.length
section
variable {ks ts : List Int} {e a p q at_ k z : Int} {xs : List Val}
theorem LInv.start (h0 : 0 ≤ a) (h1 : a ≤ ks.length) (h2 : 0 ≤ e) (h3 : e ≤ ks.length) : LInv ks e a [] [] a e := by
  refine ⟨HInv.start h0 h1, fun post => ?_, h2, h3, rfl⟩
  rw [List.nil_append]
  cases valsGo ks post e <;> simp
theorem LInv.step (hk : ∀ k ∈ ks, 0 ≤ k ∧ k < 256) (h : LInv ks e a ts xs p at_) (hp : p < e) (hv : vread ks p = some (k, q)) (h1 : p < q) (h2 : q ≤ ks.length) (h3 : 0 ≤ k) (h4 : k < 2 ^ 64) (hz : sizeOf k = some z) (z0 : 0 ≤ z) (hr : ¬ (ks.length : Int) < at_ + z) :
    LInv ks e a (ts ++ [k]) (xs ++ [lvalOf k (bodyOf ks at_ z)]) q (at_ + z) := by
  obtain ⟨g1, g2, g3, g4, g5⟩ := h
  refine ⟨HInv.step g1 hp hv h1 h2 h3 h4, fun post => ?_, by omega, by omega, by rw [List.length_append, List.length_append, g5]; rfl⟩
  rw [List.append_assoc, g2, List.singleton_append, valsGo, value_lval hk g3 h3 hz z0 (by omega)]
  dsimp only
  rw [hz]
  dsimp only
  cases valsGo ks post (at_ + z) <;> simp
theorem LInv.typ (h : LInv ks e a ts xs p at_) (hp : p < e) (hv : vread ks p = some (k, q)) : typesGo ks e (ks.length + 1) a = none ∨ ∃ r p', typesGo ks e (ks.length + 1) a = some (ts ++ k :: r, p') := by
  obtain ⟨⟨g1, g2, g3, g4, g5⟩, _⟩ := h
  rw [g1, show ks.length + 1 - ts.length = (ks.length + 1 - (ts.length + 1)) + 1 from by omega, typesGo, if_pos hp, hv]
  dsimp only
  cases typesGo ks e (ks.length + 1 - (ts.length + 1)) q with
  | none => exact .inl rfl
  | some r => exact .inr ⟨r.1, r.2, rfl⟩
theorem LInv.out (h : LInv ks e a ts xs p at_) (he : vread ks 0 = some (e, a)) (hc : ¬ ((ks.length : Int) < e ∨ e < a)) (hp : p < e) (hv : vread ks p = some (k, q)) (hn : valueAt ks at_ k = none) : decodeOf ks = none := by
  rcases h.typ hp hv with ht | ⟨r, p', ht⟩
  · exact decode_n1 (head_n3 he hc ht)
  · by_cases hq : p' = e
    · refine decode_n2 (head_s he hc ht (fun c => c hq)) ?_
      rw [h.eq, valsGo, hn]
      rfl
    · exact decode_n1 (head_n4 he hc ht hq)
theorem LInv.novar (h : LInv ks e a ts xs p at_) (he : vread ks 0 = some (e, a)) (hc : ¬ ((ks.length : Int) < e ∨ e < a)) (hp : p < e) (hv : vread ks p = none) : decodeOf ks = none :=
  decode_n1 (head_n3 he hc (h.h.out hp hv))
theorem LInv.done (h : LInv ks e a ts xs p at_) (he : vread ks 0 = some (e, a)) (hc : ¬ ((ks.length : Int) < e ∨ e < a)) (hp : ¬ p < e) (h1 : p = e) (h2 : at_ = ks.length) : decodeOf ks = some xs := by
  refine decode_s (head_s he hc (h.h.done hp) (fun c => c h1)) (q := at_) ?_ h2
  have := h.eq []
  rw [List.append_nil] at this
  rw [this]
  simp [valsGo]
theorem LInv.end1 (h : LInv ks e a ts xs p at_) (he : vread ks 0 = some (e, a)) (hc : ¬ ((ks.length : Int) < e ∨ e < a)) (hp : ¬ p < e) (h1 : p ≠ e) : decodeOf ks = Option.none :=
  decode_n1 (head_n4 he hc (h.h.done hp) h1)
theorem LInv.end2 (h : LInv ks e a ts xs p at_) (he : vread ks 0 = some (e, a)) (hc : ¬ ((ks.length : Int) < e ∨ e < a)) (hp : ¬ p < e) (h2 : at_ ≠ ks.length) : decodeOf ks = Option.none := by
  by_cases h1 : p = e
  · refine decode_n3 (head_s he hc (h.h.done hp) (fun c => c h1)) (xs := xs) (q := at_) ?_ h2
    have := h.eq []
    rw [List.append_nil] at this
    rw [this]
    simp [valsGo]
  · exact h.end1 he hc hp h1
theorem lread_no (he : vread ks 0 = Option.none) : decodeOf ks = Option.none := decode_n1 (head_n1 he)
theorem lread_no2 (he : vread ks 0 = some (e, a)) (hc : (ks.length : Int) < e ∨ e < a) : decodeOf ks = Option.none := decode_n1 (head_n2 he hc)
end
end Mine
namespace Mine
theorem body8 {ks : List Int} {p k z : Int} (hs : sizeOf k = some z) (k0 : 0 ≤ k) (h0 : 0 ≤ p) (h1 : p + z ≤ ks.length) : k < 8 → (bodyOf ks p z).length ≤ 8 := fun h => by
  have := size_le8 hs k0 (by omega)
  rw [bodyOf_len h0 this.1 h1]
  omega
end Mine
namespace Mine
theorem picked_body {ks : List Int} {p z : Int} {b : Array UInt8} (h : KBw.bInts b = (ks.drop (clipAt ks.length p)).take (clipAt ks.length (p + z) - clipAt ks.length p)) : KBw.bInts b = bodyOf ks p z := h
end Mine
end
section
open PySem PySem.W PyProof.Rows PySem.Spec
namespace Mine
noncomputable def ovr : List (Str × Value) → (Str → Option Value) → Str → Option Value
  | [], u => u
  | p :: r, u => fun y => if y = p.1 then some p.2 else ovr r u y
theorem ovr_eq {u : Str → Option Value} : ∀ {l : List (Str × Value)}, (∀ p ∈ l, u p.1 = some p.2) → ovr l u = u
  | [], _ => rfl
  | p :: r, h => by
    funext y
    show (if y = p.1 then some p.2 else ovr r u y) = u y
    rw [ovr_eq fun q hq => h q (List.mem_cons_of_mem _ hq)]
    by_cases e : y = p.1
    · rw [if_pos e, e, h p List.mem_cons_self]
    · rw [if_neg e]
structure EndJ {σ : Type} (h₀ : Heap) (L : Addr) (s : Shared) (Led : σ → List (Addr × Obj)) (Nm : σ → List (Str × Value)) (P : σ → Prop) (μ : σ → Nat) (n : Nat) (s₃ : Shared) : Prop where
  ex : ∃ (c : σ) (h' : Heap) (tk : Nat) (m' : Str → Option Value), s₃ = { s with heap := h', toks := tk } ∧ Fr h₀ L h' m' ∧ News h₀ L h' (Led c) ∧ (∀ p ∈ Nm c, m' p.1 = some p.2) ∧ P c ∧ μ c < n
def TurnJ {σ : Type} (h₀ : Heap) (L : Addr) (s : Shared) (Led : σ → List (Addr × Obj)) (Nm : σ → List (Str × Value)) (P : σ → Prop) (μ : σ → Nat) (n : Nat) (Q : Flow → Shared → Prop) (f : Flow) (s₃ : Shared) : Prop :=
  match f with
  | .ret v => Q (.ret v) s₃
  | .brk => Q .next s₃
  | _ => EndJ h₀ L s Led Nm P μ n s₃
section
variable {prog : Program} {w : World} {A : Around} {E : Value → Shared → Prop} {Q : Flow → Shared → Prop} {s : Shared} {env : Env} {h₀ : Heap} {L : Addr}
theorem EndJ.mk' {σ : Type} {Led : σ → List (Addr × Obj)} {Nm : σ → List (Str × Value)} {P : σ → Prop} {μ : σ → Nat} {n : Nat} (c : σ) {h' : Heap} {tk : Nat} {m' : Str → Option Value} {news' : List (Addr × Obj)}
    (F : Fr h₀ L h' m') (N : News h₀ L h' news') (hs : ∀ p ∈ Led c, p ∈ news') (hn : ∀ p ∈ Nm c, m' p.1 = some p.2) (hp : P c) (hm : μ c < n) :
    EndJ h₀ L s Led Nm P μ n { s with heap := h', toks := tk } := ⟨c, h', tk, m', rfl, F, fun p hp => N p (hs p hp), hn, hp, hm⟩
theorem whileJ {σ : Type} {test : Expr} {body : List Stmt} {pos : Pos} {m : Str → Option Value} {news : List (Addr × Obj)} (Led : σ → List (Addr × Obj)) (Nm : σ → List (Str × Value)) (P : σ → Prop) (μ : σ → Nat) (c₀ : σ)
    (F : Fr h₀ L s.heap m) (N : News h₀ L s.heap news) (hs : ∀ p ∈ Led c₀, p ∈ news) (hn : ∀ p ∈ Nm c₀, m p.1 = some p.2) (hp : P c₀)
    (turn : ∀ (c : σ) (u : Str → Option Value) h tk, P c → Fr h₀ L h (ovr (Nm c) u) → News h₀ L h (Led c) →
      wpAny (model prog w) A (isTrue test env (eval test env)) (fun b s₂ =>
        if b = true then wpAny (model prog w) A (execs body env) (TurnJ h₀ L s Led Nm P μ (μ c) Q) E s₂ else Q .next s₂) E { s with heap := h, toks := tk })
    (hE : PassesOwn (model prog w) A env E := by passes_own) :
    wpAny (model prog w) A (exec (.While test body [] pos) env) Q E s := by
  refine While_inv2 (fun n m nx => ∃ c : σ, nx = Led c ∧ μ c = n ∧ P c ∧ ∀ p ∈ Nm c, m p.1 = some p.2) F (fun p hp => N p (hs p hp)) ⟨c₀, rfl, rfl, hp, hn⟩ ?_ hE
  rintro n m₁ nx h tk F₁ N₁ ⟨c, rfl, rfl, hP, hN⟩
  refine wpAny_mono (turn c m₁ h tk hP (by rw [ovr_eq hN]; exact F₁) N₁) (fun b s₂ p => ?_) fun _ _ x => x
  cases b with
  | false => simpa using p
  | true =>
    simp only [if_true] at p ⊢
    refine wpAny_mono p (fun f s₃ q => ?_) fun _ _ x => x
    cases f with
    | ret v => exact q
    | brk => exact q
    | next =>
      obtain ⟨c', h', tk', m', e1, F', N', hN', hP', hm⟩ := (q : EndJ _ _ _ _ _ _ _ _ _).ex
      exact ⟨h', tk', m', Led c', μ c', e1, F', N', hm, c', rfl, rfl, hP', hN'⟩
    | cont =>
      obtain ⟨c', h', tk', m', e1, F', N', hN', hP', hm⟩ := (q : EndJ _ _ _ _ _ _ _ _ _).ex
      exact ⟨h', tk', m', Led c', μ c', e1, F', N', hm, c', rfl, rfl, hP', hN'⟩
end
end Mine
namespace Mine
theorem name1 {h₀ h : Heap} {L x : Addr} {o : Obj} {r : List (Addr × Obj)} {P : Prop} (_N : News h₀ L h ((x, o) :: r)) (k : ∀ D, D = x → P) : P := k x rfl
end Mine
namespace Mine
theorem allLt_all {d : Addr} : ∀ {l : List (Addr × Obj)}, AllLt d l → ∀ p ∈ l, p.1 < d
  | [], _, _, hp => nomatch hp
  | _ :: _, h, _, hp => (List.mem_cons.mp hp).elim (fun e => e ▸ h.1) fun q => allLt_all h.2 _ q
end Mine
namespace Mine
theorem nameV {f : Option (Int × Int)} {n q : Int} {P : Prop} (_h : f = some (n, q)) (k : ∀ e a, e = n → a = q → P) : P := k n q rfl rfl
end Mine
namespace Mine
theorem news_sub2 {h₀ h : Heap} {L x y : Addr} {o o' : Obj} {news news' : List (Addr × Obj)} (N : News h₀ L h ((x, o) :: (y, o') :: news')) (hs : ∀ q ∈ news, q ∈ news') : News h₀ L h ((x, o) :: (y, o') :: news) := fun q hq => N q (by
  rcases List.mem_cons.mp hq with rfl | hq
  · exact List.mem_cons_self
  · rcases List.mem_cons.mp hq with rfl | hq
    · exact List.mem_cons_of_mem _ List.mem_cons_self
    · exact List.mem_cons_of_mem _ (List.mem_cons_of_mem _ (hs q hq)))
end Mine
namespace Mine
theorem nameP {α β : Type} {f : Option (α × β)} {n : α} {q : β} {P : Prop} (_h : f = some (n, q)) (k : ∀ e a, e = n → a = q → P) : P := k n q rfl rfl
theorem name3 {h₀ h : Heap} {L x y z : Addr} {o o' : Obj} {vs : List Value} {nn : Nat} {r : List (Addr × Obj)} {P : Prop} (_N : News h₀ L h ((x, o) :: (y, o') :: (z, listOf vs.toArray nn) :: r)) (k : ∀ V X D us mm, V = x → X = y → D = z → us = vs → mm = nn → P) : P := k _ _ _ _ _ rfl rfl rfl rfl rfl
end Mine
namespace Mine
theorem forall_app {l r : List (Addr × Obj)} {d : Addr} (a : ∀ p ∈ l, p.1 ≠ d) (b : ∀ p ∈ r, p.1 ≠ d) : ∀ p ∈ l ++ r, p.1 ≠ d := fun p hp => (List.mem_append.mp hp).elim (a p) (b p)
theorem allLt_ne {l : List (Addr × Obj)} {d : Addr} (a : AllLt d l) : ∀ p ∈ l, p.1 ≠ d := fun p hp => Nat.ne_of_lt (allLt_all a p hp)
theorem lt_ne {l : List (Addr × Obj)} {d : Addr} (a : ∀ p ∈ l, p.1 < d) : ∀ p ∈ l, p.1 ≠ d := fun p hp => Nat.ne_of_lt (a p hp)
end Mine
namespace Mine
theorem sub1 {α : Type} {a : α} {l r : List α} (h : ∀ q ∈ l, q ∈ r) : ∀ q ∈ a :: l, q ∈ a :: r := fun q hq => by
  rcases List.mem_cons.mp hq with rfl | hq
  · exact List.mem_cons_self
  · exact List.mem_cons_of_mem _ (h q hq)
theorem sub2 {α : Type} {a b : α} {l r : List α} (h : ∀ q ∈ l, q ∈ r) : ∀ q ∈ a :: b :: l, q ∈ a :: b :: r := sub1 (sub1 h)
end Mine
namespace Mine
theorem getD_at {α : Type} {l : List α} {n : Nat} {d : α} (h : n < l.length) : l[n]? = some (l.getD n d) := by
  rw [List.getD_eq_getElem?_getD, List.getElem?_eq_getElem h]; rfl
end Mine
end
section
open PySem PySem.W PyProof.Rows PySem.Spec
namespace Mine
def JF {σ : Type} (Led : σ → List (Addr × Obj)) (Nm : σ → List (Str × Value)) (P : List Int → σ → Prop) (pre : List Int) (m : Str → Option Value) (nx : List (Addr × Obj)) : Prop :=
  ∃ c : σ, nx = Led c ∧ P pre c ∧ ∀ p ∈ Nm c, m p.1 = some p.2
section
variable {prog : Program} {w : World} {A : Around} {E : Value → Shared → Prop} {Q : Flow → Shared → Prop} {s : Shared} {env : Env} {h₀ : Heap} {x : Str} {body : List Stmt}
theorem JF.endL {σ : Type} {Led : σ → List (Addr × Obj)} {Nm : σ → List (Str × Value)} {P : List Int → σ → Prop} {pre : List Int} {L l : Addr} {ol : Obj} {m' : Str → Option Value} {own news' : List (Addr × Obj)} {adr : List Addr} {s₁ : Shared} {h' : Heap} {tk : Nat} (c : σ)
    (F : Fr h₀ L h' m') (N : News h₀ L h' news') (hs : ∀ p ∈ Led c, p ∈ news') (ho : ∀ p ∈ own, p ∈ news') (ha : (Led c).map (·.1) = adr) (hl : (l, ol) ∈ Led c) (hn : ∀ p ∈ Nm c, m' p.1 = some p.2) (hp : P pre c) :
    InvEndN h₀ L (fun m' nx => (l, ol) ∈ nx ∧ JF Led Nm P pre m' nx) own adr s₁ { s₁ with heap := h', toks := tk } :=
  InvEndN.intro F N ⟨hl, c, rfl, hp, hn⟩ ha hs ho
theorem JF.endR {σ : Type} {Led : σ → List (Addr × Obj)} {Nm : σ → List (Str × Value)} {P : List Int → σ → Prop} {pre : List Int} {L : Addr} {m' : Str → Option Value} {own news' : List (Addr × Obj)} {adr : List Addr} {s₁ : Shared} {h' : Heap} {tk : Nat} (c : σ)
    (F : Fr h₀ L h' m') (N : News h₀ L h' news') (hs : ∀ p ∈ Led c, p ∈ news') (ho : ∀ p ∈ own, p ∈ news') (ha : (Led c).map (·.1) = adr) (hn : ∀ p ∈ Nm c, m' p.1 = some p.2) (hp : P pre c) :
    InvEndN h₀ L (JF Led Nm P pre) own adr s₁ { s₁ with heap := h', toks := tk } :=
  InvEndN.intro F N ⟨c, rfl, hp, hn⟩ ha hs ho
theorem ovr_in {x : Str} {v : Value} {u : Str → Option Value} {l : List (Str × Value)} {L : Addr} {h : Heap} (hn : ∀ p ∈ l, u p.1 = some p.2) (F : Fr h₀ L h (fun y => if y = x then some v else u y)) : Fr h₀ L h (fun y => if y = x then some v else ovr l u y) := by
  rw [ovr_eq hn]; exact F
theorem forL {σ : Type} {l : Addr} {vs : List Value} {ns : List Int} {nn : Nat} {m : Str → Option Value} {news : List (Addr × Obj)} (Led : σ → List (Addr × Obj)) (Nm : σ → List (Str × Value)) (P : List Int → σ → Prop) (c₀ : σ)
    (hh : A.handled = none) (hl : (l, listOf vs.toArray nn) ∈ Led c₀) (hi : IntsAre vs ns) (F : Fr h₀ env.locals s.heap m) (N : News h₀ env.locals s.heap news) (hs : ∀ p ∈ Led c₀, p ∈ news) (hn : ∀ p ∈ Nm c₀, m p.1 = some p.2) (hp : P [] c₀)
    (turn : ∀ (c : σ) pre post n t (u : Str → Option Value) h tk own, ns = pre ++ n :: post → OwnOff own ((Led c₀).map (·.1)) → P pre c →
      Fr h₀ env.locals h (fun y => if y = x then some (.int n t) else ovr (Nm c) u y) → News h₀ env.locals h (Led c ++ own) →
      wpAny (model prog w) A (execs body env) (InvPostN h₀ env.locals (fun m' nx => (l, listOf vs.toArray nn) ∈ nx ∧ JF Led Nm P (pre ++ [n]) m' nx) own ((Led c₀).map (·.1)) { s with heap := h, toks := tk } Q) E { s with heap := h, toks := tk })
    (done : ∀ (c : σ) (u : Str → Option Value) h tk, P ns c → Fr h₀ env.locals h (ovr (Nm c) u) → News h₀ env.locals h (Led c) → Q .next { s with heap := h, toks := tk }) :
    wpAny (model prog w) A (pyIter (.ref l)) (fun it s₂ => LoopAtV prog w A h₀ env x body Q E it s₂) E s := by
  refine iter_invNL (fun i m nx => JF Led Nm P (ns.take i) m nx) hh hl hi F (fun p hp => N p (hs p hp)) ⟨c₀, rfl, by simpa using hp, hn⟩ ?_ ?_
  · rintro i n t m₁ nx h tk own hi' _ hoff _ ⟨c, rfl, hp', hn'⟩ F₁ N₁
    have hs : ns.take (i + 1) = ns.take i ++ [n] := by simp [List.take_add_one, hi']
    have e : ns = ns.take i ++ n :: ns.drop (i + 1) := by
      have ht := List.take_append_drop (i + 1) ns
      rw [hs, List.append_assoc] at ht
      exact ht.symm
    rw [hs]
    exact turn c _ _ n t m₁ h tk own e hoff hp' (ovr_in hn' F₁) N₁
  · rintro m₁ nx h tk _ ⟨c, rfl, hp', hn'⟩ F₁ N₁
    rw [List.take_length] at hp'
    exact done c m₁ h tk hp' (by rw [ovr_eq hn']; exact F₁) N₁
theorem forR {σ : Type} {r : Addr} {a₀ b₀ : Int} {t₀ u₀ v₀ : Tok} {n : Nat} {m : Str → Option Value} {news : List (Addr × Obj)} (Led : σ → List (Addr × Obj)) (Nm : σ → List (Str × Value)) (P : List Int → σ → Prop) (c₀ : σ)
    (hh : A.handled = none) (hr : IsRange s.heap r a₀ b₀ 1 t₀ u₀ v₀) (hsmall : Builtin.Range.small a₀ b₀ 1 = true) (hz : Builtin.Range.rangeSize a₀ b₀ 1 = (n : Int)) (F : Fr h₀ env.locals s.heap m) (N : News h₀ env.locals s.heap news) (hs : ∀ p ∈ Led c₀, p ∈ news) (hn : ∀ p ∈ Nm c₀, m p.1 = some p.2) (hp : P [] c₀)
    (turn : ∀ (c : σ) (pre : List Int) (k : Int) t (u : Str → Option Value) h tk own, k = a₀ + (pre.length : Int) → pre.length < n → OwnOff own ((Led c₀).map (·.1)) → P pre c →
      Fr h₀ env.locals h (fun y => if y = x then some (.int k t) else ovr (Nm c) u y) → News h₀ env.locals h (Led c ++ own) →
      wpAny (model prog w) A (execs body env) (InvPostN h₀ env.locals (JF Led Nm P (pre ++ [k])) own ((Led c₀).map (·.1)) { s with heap := h, toks := tk } Q) E { s with heap := h, toks := tk })
    (done : ∀ (c : σ) (pre : List Int) (u : Str → Option Value) h tk, pre.length = n → P pre c → Fr h₀ env.locals h (ovr (Nm c) u) → News h₀ env.locals h (Led c) → Q .next { s with heap := h, toks := tk }) :
    wpAny (model prog w) A (pyIter (.ref r)) (fun it s₂ => LoopAtV prog w A h₀ env x body Q E it s₂) E s := by
  refine wpAny_pyIter_range hr hsmall ?_
  have W : Walks prog w A s.heap.objs.size [s.heap.objs.size] [s.heap.objs.size] n (fun i v => i < n ∧ ∃ t, v = .int (a₀ + i * 1) t)
      (fun i h => IsRangeIter h s.heap.objs.size (a₀ + (i : Nat) * 1) ((n : Int) - (i : Nat)) 1) := (Walks.range hh _ a₀ 1 n).bound
  have N₀ : News h₀ env.locals s.heap (Led c₀) := fun p hp => N p (hs p hp)
  refine loop_invN (fun i m nx => JF Led Nm P ((rangeKs a₀ n).take i) m nx) W ?_ ?_ ?_ ?_ (by show IsRangeIter _ _ _ _ _; rw [hz]; simpa using Heap.get?_push_size _ rfl) (F.push _) (fun p hp => ⟨Heap.get?_push_of_some _ (N₀ p hp).1, (N₀ p hp).2⟩) ⟨c₀, rfl, by simpa using hp, hn⟩ ?_ ?_
  · intro hm
    exact absurd F.ns.lt ((List.mem_singleton.mp hm) ▸ Nat.lt_irrefl _)
  · intro b hb
    rw [List.mem_singleton.mp hb]
    exact next_is_new F
  · intro p hp hI
    exact absurd (Heap.lt_size (N₀ p hp).1) ((List.mem_singleton.mp hI) ▸ Nat.lt_irrefl _)
  · intro p hp hI
    exact absurd (Heap.lt_size (N₀ p hp).1) ((List.mem_singleton.mp hI) ▸ Nat.lt_irrefl _)
  · rintro i v m₁ nx h tk own hi ⟨_, t, rfl⟩ _ hoff ⟨c, rfl, hp', hn'⟩ F₁ N₁
    have e1 : a₀ + (i : Int) * 1 = a₀ + (i : Int) := by omega
    rw [e1] at F₁
    have hk' : (rangeKs a₀ n)[i]? = some (a₀ + (i : Int)) := by simp [rangeKs, hi]
    have hs : (rangeKs a₀ n).take (i + 1) = (rangeKs a₀ n).take i ++ [a₀ + (i : Int)] := by simp [List.take_add_one, hk']
    have hlen : ((rangeKs a₀ n).take i).length = i := by rw [List.length_take, rangeKs_length]; omega
    rw [hs]
    exact turn c _ _ t m₁ h tk own (by rw [hlen]) (by rw [hlen]; exact hi) hoff hp' (ovr_in hn' F₁) N₁
  · rintro m₁ nx h tk ⟨c, rfl, hp', hn'⟩ F₁ N₁
    have hl : (rangeKs a₀ n).take n = rangeKs a₀ n := List.take_of_length_le (Nat.le_of_eq (rangeKs_length _ _))
    rw [hl] at hp'
    exact done c _ m₁ h tk (rangeKs_length _ _) hp' (by rw [ovr_eq hn']; exact F₁) N₁
end
end Mine
namespace Mine
theorem getD0 {a b : Int} : [a, b].getD (Int.toNat 0) 0 = a := rfl
theorem getD1 {a b : Int} : [a, b].getD (Int.toNat 1) 0 = b := rfl
theorem nameT {h₀ h : Heap} {L x y z : Addr} {o o' : Obj} {n q : Int} {t1 t2 : Tok} {r : List (Addr × Obj)} {P : Prop} (_N : News h₀ L h ((x, o) :: (y, o') :: (z, listOf #[.int n t1, .int q t2] 0) :: r)) (k : ∀ D V X s1 s2, D = x → V = y → X = z → s1 = t1 → s2 = t2 → P) : P := k _ _ _ _ _ rfl rfl rfl rfl rfl
end Mine
end
section
open PySem PySem.W PyProof.Rows PySem.Spec
namespace Mine
theorem last_one (ws : List Value) (v : Value) : slicePick (ws.toArray.push v) (some (-1)) none none = #[v] := by
  have h := slicePick_last (ws.toArray.push v) 1 (by decide)
  have e : (-((1 : Nat) : Int)) = -1 := by decide
  rw [e] at h
  rw [h, Array.size_push, List.size_toArray, Nat.add_sub_cancel, List.push_toArray]
  simp
theorem last_news {h₀ h : Heap} {L a : Addr} {ws : List Value} {v : Value} {news news' : List (Addr × Obj)} (N : News h₀ L h ((a, { cls := .type "list", data := .seq (slicePick (ws.toArray.push v) (some (-1)) none none) }) :: news')) (hs : ∀ p ∈ news, p ∈ news') : News h₀ L h ((a, listOf #[v] 0) :: news) := by
  rw [last_one] at N
  exact news_sub1 N hs
end Mine
end
section
open PySem PySem.W PyProof.Rows
namespace Mine
theorem ints_at : ∀ {vs : List Value} {ns : List Int}, IntsAre vs ns → ∀ {k : Nat}, k < ns.length → ∃ t, vs[k]? = some (.int (ns.getD k 0) t)
  | _, _, .nil, _, hk => by simp at hk
  | _, _, .cons n t r, 0, _ => ⟨t, rfl⟩
  | _, _, .cons n t r, k + 1, hk => by
    obtain ⟨t', h⟩ := ints_at r (k := k) (by simpa using hk)
    exact ⟨t', by simpa using h⟩
section
variable {prog : Program} {w : World} {A : Around} {E : Value → Shared → Prop} {s : Shared} {h₀ : Heap} {L : Addr} {m : Str → Option Value}
theorem item_ints {value slice : Expr} {S : Addr} {vs : List Value} {ns : List Int} {k : Int} {u : Tok} {Q : Value → Shared → Prop} (F : Fr h₀ L s.heap m) (hS : h₀.IsList S vs.toArray) (hI : IntsAre vs ns) (hl : ns.length ≤ 4096) (h0 : 0 ≤ k) (hk : k < ns.length)
    (h : ∀ t, Q (.int (ns.getD k.toNat 0) t) s)
    (hs : subscripted slice false (.ref S) (.int k u) = operate [.ref S, .int k u] (getItem (.ref S) (.int k u)) := by with_unfolding_all rfl) (hg : ∀ r, letTemporaryGo value (.ref S) r = pure () := by intro _; with_unfolding_all rfl) :
    wpAny (model prog w) A (subscriptTail value slice (.ref S) (.int k u)) Q E s := by
  obtain ⟨t, ht⟩ := ints_at hI (k := k.toNat) (by omega)
  exact item_list (Fr.lst F hS) h0 (by omega) (by simpa using ht) (h t) hs hg
theorem len_ints {S : Addr} {vs : List Value} {ns : List Int} {Q : Value → Shared → Prop} (F : Fr h₀ L s.heap m) (hS : h₀.IsList S vs.toArray) (hI : IntsAre vs ns) (hl : ns.length ≤ 4096)
    (h : ∀ t k, Q (.int ns.length t) { s with toks := k }) : wpAny (model prog w) A (PySem.call (.builtin "len") [.ref S]) Q E s := by
  have e := hI.sizeZ
  refine PyProof.Rows.len_list (Fr.lst F hS) (by rw [e]; omega) ?_
  rw [e]
  exact h _ _
end
end Mine
namespace Mine
theorem poolA {x : Int} {b : Bool} : 0 ≤ (if -1 - x > x then -1 - x else x) * (if b = true then (1 : Int) else 0) := Int.mul_nonneg (by split <;> omega) (by split <;> omega)
theorem poolB {x : Int} : 0 ≤ x.fmod 2147483647 := by rw [Int.fmod_eq_emod_of_nonneg _ (by decide)]; omega
theorem poolC {x : Int} : x.fmod 2147483647 < 2147483647 := by rw [Int.fmod_eq_emod_of_nonneg _ (by decide)]; omega
end Mine
namespace Mine
theorem mulM {x b : Int} : IntMulOk (x.fmod 2147483647) b := IntMulOk.of_left (intBits_le_64 (by have := poolB (x := x); have := poolC (x := x); omega) (by have := poolB (x := x); have := poolC (x := x); omega))
theorem fmodB {x n : Int} (h : 0 < n) : 0 ≤ x.fmod n := Int.fmod_nonneg_of_pos _ h
theorem fmodC {x n : Int} (h : 0 < n) : x.fmod n < n := Int.fmod_lt_of_pos _ h
theorem fdivB {x n : Int} (h : 0 < n) (hx : 0 ≤ x) : 0 ≤ x.fdiv n := by rw [Int.fdiv_eq_ediv_of_nonneg _ (by omega)]; exact Int.ediv_nonneg hx (by omega)
end Mine
namespace Mine
theorem getD_in {ns : List Int} {d : Int} (h0 : 0 ≤ d) (h1 : d < ns.length) : ns.getD d.toNat 0 ∈ ns := by
  rw [List.getD_eq_getElem?_getD, List.getElem?_eq_getElem (by omega)]
  exact List.getElem_mem _
end Mine
end
section
open PySem PySem.W PyProof.Rows
namespace Mine
theorem rng_size {d : Int} (h : 0 ≤ d) : Builtin.Range.rangeSize 0 d 1 = (d.toNat : Int) := by
  unfold Builtin.Range.rangeSize
  rw [if_pos (by decide)]
  split <;> omega
theorem rng_small {d : Int} (h : 0 ≤ d) (h2 : d ≤ 4096) : Builtin.Range.small 0 d 1 = true := small_one (by decide) (by decide) (by omega) (by omega)
theorem menu_in {d : Int} (h : d ∈ ([0, 1, 2, 3, 4, 5, 6, 8, 9, 12, 13, 14, 15, 19, 132, 133] : List Int)) : 0 ≤ d ∧ d ≤ 133 ∧ (¬ 11 < d → d < 10) := by
  have q : ∀ d ∈ ([0, 1, 2, 3, 4, 5, 6, 8, 9, 12, 13, 14, 15, 19, 132, 133] : List Int), 0 ≤ d ∧ d ≤ 133 ∧ (¬ 11 < d → d < 10) := by decide
  exact q d h
theorem sizes_in {d : Int} (h : d ∈ ([0, 1, 2, 3, 4, 6, 8, 0, 0, 0] : List Int)) : 0 ≤ d ∧ d ≤ 8 := by
  have q : ∀ d ∈ ([0, 1, 2, 3, 4, 6, 8, 0, 0, 0] : List Int), 0 ≤ d ∧ d ≤ 8 := by decide
  exact q d h
section
variable {prog : Program} {w : World} {A : Around} {E : Value → Shared → Prop} {s : Shared} {h₀ : Heap} {L : Addr} {m : Str → Option Value} {env : Env}
/-- one turn of a comprehension: the next state -/
def CEnd {σ : Type} (h₀ : Heap) (L : Addr) (m : Str → Option Value) (s₁ : Shared) (I : Addr) (oI : Obj) (C : Addr) (oC : Obj) (D : Addr) (ys : List Value) (Led : σ → List (Addr × Obj)) (P : List Value → σ → Prop) (y : Value) (s₂ : Shared) : Prop :=
  ∃ c' : σ, LCg.CompEnd h₀ L m s₁ I oI C oC D (LCg.lst ys) (fun _ => True) (fun y nw => nw = Led c' ∧ P (ys ++ [y]) c') y s₂
theorem CEnd.mk' {σ : Type} {I C D : Addr} {s₁ : Shared} {oI oC : Obj} {ys : List Value} {Led : σ → List (Addr × Obj)} {P : List Value → σ → Prop} {y : Value} {h' : Heap} {tk : Nat} {all : List (Addr × Obj)} (c : σ)
    (F : Fr h₀ L h' m) (N : News h₀ L h' all) (sub : ∀ p ∈ (I, oI) :: (C, oC) :: (D, LCg.lst ys) :: Led c, p ∈ all) (off : LCg.Off3 I C D (Led c)) (hp : P (ys ++ [y]) c) :
    CEnd h₀ L m s₁ I oI C oC D ys Led P y { s₁ with heap := h', toks := tk } := ⟨c, LCg.CompEnd.intro F N (Led c) sub off trivial ⟨rfl, hp⟩⟩
theorem compJ {σ : Type} {elt : Expr} {x : Str} {scope : Scope} {cl : List (Str × Addr)} {Pv : Nat → Value → Prop} {Fin : List Value → List (Addr × Obj) → Prop} (Led : σ → List (Addr × Obj)) (P : List Value → σ → Prop) {n : Nat} (c₀ : σ) (hp : P [] c₀)
    (turn : ∀ (c : σ) ys i v I oI C oC D m₂ h tk E', Pv i v → P ys c → LCg.NsObj oC m₂ → m₂ x = some v → Fr h₀ L h m → News h₀ L h ((I, oI) :: (C, oC) :: (D, LCg.lst ys) :: Led c) → LCg.Off3 I C D (Led c) → ((@Ne Nat I C) ∧ (@Ne Nat I D) ∧ (@Ne Nat C D)) →
      wpAny (model prog w) A (eval elt (compEnvC scope cl C env)) (CEnd h₀ L m { s with heap := h, toks := tk } I oI C oC D ys Led P) E' { s with heap := h, toks := tk })
    (done : ∀ (c : σ) ys, ys.length = n → P ys c → Fin ys (Led c)) :
    LCg.CompRest prog w A h₀ L m env elt x scope cl s (fun _ => True) Pv Fin n 0 [] (Led c₀) := by
  have key : ∀ k i ys (c : σ), ys.length + k = n → P ys c → LCg.CompRest prog w A h₀ L m env elt x scope cl s (fun _ => True) Pv Fin k i ys (Led c) := by
    intro k
    induction k with
    | zero => exact fun i ys c hl h => LCg.CompRest.zero (done c ys (by omega) h)
    | succ k ih =>
      intro i ys c hl h
      refine LCg.CompRest.succ ?_
      intro v I oI C oC D m₂ h' tk E' hv hC hx F N off ne
      refine wpAny_mono (turn c ys i v I oI C oC D m₂ h' tk E' hv h hC hx F N off ne) (fun y s₂ q => ?_) fun _ _ e => e
      obtain ⟨c', h₂, tk₂, nw, e1, F₂, N₂, off₂, hS, rfl, hP⟩ := q
      exact ⟨h₂, tk₂, _, e1, F₂, N₂, off₂, trivial, ih (i + 1) (ys ++ [y]) c' (by rw [List.length_append, List.length_singleton]; omega) hP⟩
  exact key n 0 [] c₀ (by simp) hp
end
end Mine
namespace Mine
theorem nameW {h₀ h : Heap} {L D C S : Addr} {oD oC : Obj} {a b : Int} {t1 t2 : Tok} {nn : Nat} {r : List (Addr × Obj)} {P : Prop} (_N : News h₀ L h ((D, oD) :: (C, oC) :: (S, listOf #[.int a t1, .int b t2] nn) :: r))
    (k : ∀ o1 a1 b1 s1 s2 n1, o1 = oC → a1 = a → b1 = b → s1 = t1 → s2 = t2 → n1 = nn → P) : P := k _ _ _ _ _ _ rfl rfl rfl rfl rfl rfl
theorem nameR {h : Heap} {r : Addr} {a b c : Int} {t u v : Tok} {P : Prop} (_h : IsRange h r a b c t u v) (k : ∀ d, d = b → P) : P := k _ rfl
end Mine
namespace Mine
theorem div3 {d : Int} (h0 : 0 ≤ d) (h1 : d < 4) : 0 ≤ d.fdiv 3 ∧ d.fdiv 3 ≤ 1 := by
  rw [Int.fdiv_eq_ediv_of_nonneg _ (by decide)]
  omega
theorem half_in {d : Int} (h0 : 11 < d) (h1 : d ≤ 133) : 0 ≤ (d - 12).fdiv 2 ∧ (d - 12).fdiv 2 ≤ 60 := by
  rw [Int.fdiv_eq_ediv_of_nonneg _ (by decide)]
  omega
theorem oct_in {d x : Int} (h0 : 0 ≤ x) (h1 : x < 256) (h : d ∈ ([0, 65, 128, 200, 255, x] : List Int)) : 0 ≤ d ∧ d < 256 := by
  simp only [List.mem_cons, List.mem_nil_iff, or_false] at h
  omega
theorem oct_in2 {d x : Int} (h0 : 0 ≤ x) (h1 : x < 256) (h : d ∈ ([0, 1, 7, 10, 11, 128, 255, x] : List Int)) : 0 ≤ d ∧ d < 256 := by
  simp only [List.mem_cons, List.mem_nil_iff, or_false] at h
  omega
section
variable {prog : Program} {w : World} {A : Around} {E : Value → Shared → Prop} {s : Shared} {h₀ : Heap} {L D : Addr} {m : Str → Option Value} {news : List (Addr × Obj)} {vs : List Value} {n : Nat} {k : Int} {u : Tok}
theorem sub_small {value slice : PySem.Expr} {Q : Value → Shared → Prop} (N : News h₀ L s.heap news) (hm : (D, listOf vs.toArray n) ∈ news) (hi : IntsAre vs [0, 1, 2, 3, 4, 6, 8, 0, 0, 0]) (h0 : 0 ≤ k) (h1 : k < 10) (h : ∀ x t, 0 ≤ x → x ≤ 8 → Q (.int x t) s)
    (hs : subscripted slice false (.ref D) (.int k u) = operate [.ref D, .int k u] (getItem (.ref D) (.int k u)) := by with_unfolding_all rfl) :
    wpAny (model prog w) A (subscriptTail value slice (.ref D) (.int k u)) Q E s :=
  ksa_sub N hm hi h0 (by simp only [List.length_cons, List.length_nil]; omega) (by omega) (fun t => by
    have := sizes_in (getD_in (ns := [0, 1, 2, 3, 4, 6, 8, 0, 0, 0]) h0 (by simp only [List.length_cons, List.length_nil]; omega))
    exact h _ t this.1 this.2) hs
end
end Mine
namespace Mine
theorem mul_one {prog : Program} {w : World} {A : Around} {E : Value → Shared → Prop} {s : Shared} {x : UInt8} {n : Int} {t u : Tok} {Q : Value → Shared → Prop} (h0 : 0 ≤ n) (hn : n ≤ 60) (h : ∀ c ks t' k, KBw.bInts c = ks → ks.length ≤ 60 → Q (.bytes c t') { s with toks := k }) :
    wpAny (model prog w) A (binaryOp .Mult (.bytes #[x] t) (.int n u)) Q E s := by
  refine bytes_mul_any (b := [x]) (by simp) (by omega) (by omega) (by simp) fun t' k => h _ _ t' k rfl ?_
  rw [KBw.ints_length]
  simp
  omega
end Mine
namespace Mine
theorem k8_pair {x : Int} (h8 : x ≤ 8) (h0 : 0 ≤ x) : 0 ≤ x ∧ x ≤ 8 := ⟨h0, h8⟩
end Mine
namespace Mine
theorem in_one {d : Int} (h0 : 0 ≤ d) (h1 : d < 256) : KBa.In [d] := fun q hq => by
  rw [List.mem_singleton.mp hq]; exact ⟨h0, h1⟩
end Mine
namespace Mine
theorem nameO {h₀ h : Heap} {L D C : Addr} {oD oC : Obj} {r : List (Addr × Obj)} {P : Prop} (_N : News h₀ L h ((D, oD) :: (C, oC) :: r)) (k : ∀ Y X o1 o2, Y = D → X = C → o1 = oD → o2 = oC → P) : P := k _ _ _ _ rfl rfl rfl rfl
theorem nameH {h₀ h : Heap} {L : Addr} {r : List (Addr × Obj)} {P : Prop} (_N : News h₀ L h r) (k : ∀ G M, G = h₀ → M = L → P) : P := k _ _ rfl rfl
end Mine
namespace Mine
theorem nameL {h : Heap} {S : Addr} {its : Array Value} {P : Prop} (_h : h.IsList S its) (k : ∀ S', S' = S → P) : P := k _ rfl
end Mine
end
section
open PySem PySem.W PyProof.Rows PySem.Spec
namespace Mine
/-- a for over a range, any name as its target (a cell too), whose ledger may grow from turn to turn -/
structure EndG {σ : Type} (h₀ : Heap) (L : Addr) (s : Shared) (Led : σ → List (Addr × Obj)) (Nm : σ → List (Str × Value)) (P : List Int → σ → Prop) (pre : List Int) (own : List (Addr × Obj)) (s₃ : Shared) : Prop where
  ex : ∃ (c : σ) (h' : Heap) (tk : Nat) (m' : Str → Option Value) (news' : List (Addr × Obj)), s₃ = { s with heap := h', toks := tk } ∧ Fr h₀ L h' m' ∧ News h₀ L h' news' ∧ (∀ p ∈ Led c, p ∈ news') ∧ (∀ p ∈ own, p ∈ news') ∧ OwnOff own ((Led c).map (·.1)) ∧ (∀ p ∈ Nm c, m' p.1 = some p.2) ∧ P pre c
def TurnG {σ : Type} (h₀ : Heap) (L : Addr) (s : Shared) (Led : σ → List (Addr × Obj)) (Nm : σ → List (Str × Value)) (P : List Int → σ → Prop) (pre : List Int) (own : List (Addr × Obj)) (Q : Flow → Shared → Prop) (f : Flow) (s₃ : Shared) : Prop :=
  match f with
  | .ret v => Q (.ret v) s₃
  | .brk => Q .next s₃
  | _ => EndG h₀ L s Led Nm P pre own s₃
section
variable {prog : Program} {w : World} {A : Around} {E : Value → Shared → Prop} {Q : Flow → Shared → Prop} {s : Shared} {env : Env} {h₀ : Heap} {x : Str} {px : Pos} {body : List Stmt}
theorem EndG.mk' {σ : Type} {L : Addr} {Led : σ → List (Addr × Obj)} {Nm : σ → List (Str × Value)} {P : List Int → σ → Prop} {pre : List Int} {own : List (Addr × Obj)} (c : σ) {h' : Heap} {tk : Nat} {m' : Str → Option Value} {news' : List (Addr × Obj)}
    (F : Fr h₀ L h' m') (N : News h₀ L h' news') (hs : ∀ p ∈ Led c, p ∈ news') (ho : ∀ p ∈ own, p ∈ news') (hoff : OwnOff own ((Led c).map (·.1))) (hn : ∀ p ∈ Nm c, m' p.1 = some p.2) (hp : P pre c) :
    EndG h₀ L s Led Nm P pre own { s with heap := h', toks := tk } := ⟨c, h', tk, m', news', rfl, F, N, hs, ho, hoff, hn, hp⟩
theorem forG {σ : Type} {r : Addr} {a₀ b₀ : Int} {t₀ u₀ v₀ : Tok} {n : Nat} {m : Str → Option Value} {news : List (Addr × Obj)} (Led : σ → List (Addr × Obj)) (Nm : σ → List (Str × Value)) (P : List Int → σ → Prop) (c₀ : σ)
    (hh : A.handled = none) (hr : IsRange s.heap r a₀ b₀ 1 t₀ u₀ v₀) (hsmall : Builtin.Range.small a₀ b₀ 1 = true) (hz : Builtin.Range.rangeSize a₀ b₀ 1 = (n : Int)) (F : Fr h₀ env.locals s.heap m) (N : News h₀ env.locals s.heap news) (hs : ∀ p ∈ Led c₀, p ∈ news) (hn : ∀ p ∈ Nm c₀, m p.1 = some p.2) (hp : P [] c₀)
    (turn : ∀ (c : σ) (pre : List Int) (k : Int) t (u : Str → Option Value) h tk own, k = a₀ + (pre.length : Int) → pre.length < n → OwnOff own ((Led c).map (·.1)) → P pre c →
      Fr h₀ env.locals h (ovr (Nm c) u) → News h₀ env.locals h (Led c ++ own) →
      wpAny (model prog w) A (storeName env x (.int k t)) (fun _ s₂ => wpAny (model prog w) A (execs body env) (TurnG h₀ env.locals { s with heap := h, toks := tk } Led Nm P (pre ++ [k]) own Q) E s₂) E { s with heap := h, toks := tk })
    (done : ∀ (c : σ) (pre : List Int) (u : Str → Option Value) h tk, pre.length = n → P pre c → Fr h₀ env.locals h (ovr (Nm c) u) → News h₀ env.locals h (Led c) → Q .next { s with heap := h, toks := tk }) :
    wpAny (model prog w) A (pyIter (.ref r)) (fun it s₂ => TurnsAt prog w A h₀ env (.Name x px) body Q E it s₂) E s := by
  refine wpAny_pyIter_range hr hsmall ?_
  have W : Walks prog w A s.heap.objs.size [s.heap.objs.size] [s.heap.objs.size] n (fun i v => i < n ∧ ∃ t, v = .int (a₀ + i * 1) t)
      (fun i h => IsRangeIter h s.heap.objs.size (a₀ + (i : Nat) * 1) ((n : Int) - (i : Nat)) 1) := (Walks.range hh _ a₀ 1 n).bound
  have N₀ : News h₀ env.locals s.heap (Led c₀) := fun p hp => N p (hs p hp)
  have none₀ : h₀.get? s.heap.objs.size = none := next_is_new F
  refine ⟨s.heap.objs.size, _, _, n, _, _, _, m, Led c₀, fun i m nx => JF Led Nm P ((rangeKs a₀ n).take i) m nx, rfl, KTurns.ofWalks W (fun _ _ _ _ _ _ q => PySem.wpAny_pure q), ?_, ?_, ?_, (by show IsRangeIter _ _ _ _ _; rw [hz]; simpa using Heap.get?_push_size _ rfl), F.push _, (fun p hp => ⟨Heap.get?_push_of_some _ (N₀ p hp).1, (N₀ p hp).2⟩), ⟨c₀, rfl, by simpa using hp, hn⟩, ?_, ?_⟩
  · intro hm
    exact absurd F.ns.lt ((List.mem_singleton.mp hm) ▸ Nat.lt_irrefl _)
  · intro b hb
    rw [List.mem_singleton.mp hb]
    exact none₀
  · intro p hp hI
    exact absurd (Heap.lt_size (N₀ p hp).1) ((List.mem_singleton.mp hI) ▸ Nat.lt_irrefl _)
  · rintro i v m₁ news₁ h₁ tk₁ own hi ⟨_, t, rfl⟩ ⟨c, rfl, hp', hn'⟩ hoff hfp hown hall hst F₁ N₁
    have e1 : a₀ + (i : Int) * 1 = a₀ + (i : Int) := by omega
    rw [e1]
    have hk' : (rangeKs a₀ n)[i]? = some (a₀ + (i : Int)) := by simp [rangeKs, hi]
    have hs : (rangeKs a₀ n).take (i + 1) = (rangeKs a₀ n).take i ++ [a₀ + (i : Int)] := by simp [List.take_add_one, hk']
    have hlen : ((rangeKs a₀ n).take i).length = i := by rw [List.length_take, rangeKs_length]; omega
    have hme : (s.heap.objs.size, _) ∈ own := hall s.heap.objs.size (List.mem_singleton.mpr rfl) none₀ _ hst
    dsimp only
    rw [hs]
    refine wpAny_assign_Name (wpAny_mono (turn c _ _ t m₁ h₁ tk₁ own (by rw [hlen]) (by rw [hlen]; exact hi) (fun q hq b hb e => ?_) hp' (by rw [ovr_eq hn']; exact F₁)
      (fun p hp => N₁ p ((List.mem_append.mp hp).elim (fun h => List.mem_append.mpr (.inr h)) fun h => List.mem_append.mpr (.inl h)))) (fun _ s₂ h₂ => wpAny_mono h₂ (fun f s₃ q => ?_) fun _ _ e => e) fun _ _ e => e)
    · obtain ⟨p, hp, rfl⟩ := List.mem_map.mp hb
      exact hoff p hp (e ▸ hfp q hq)
    · have fin : EndG h₀ env.locals { s with heap := h₁, toks := tk₁ } Led Nm P ((rangeKs a₀ n).take i ++ [a₀ + (i : Int)]) own s₃ →
        LoopStepU h₀ env.locals [s.heap.objs.size] own (fun m nx => JF Led Nm P ((rangeKs a₀ n).take i ++ [a₀ + (i : Int)]) m nx) { s with heap := h₁, toks := tk₁ } .next s₃ := by
        rintro ⟨c', h', tk, m', news', e, F', N', k1, k2, k3, k4, k5⟩
        refine ⟨rfl, h', tk, m', Led c', e, F', fun p hp => N' p ((List.mem_append.mp hp).elim (k2 p) (k1 p)), fun p hp hq => ?_, c', rfl, k5, k4⟩
        exact k3 _ hme p.1 (List.mem_map_of_mem hp) (List.mem_singleton.mp hq).symm
      cases f with
      | ret v => exact q
      | brk => exact q
      | next => exact fin q
      | cont => exact fin q
  · rintro h' tk m' news' F' N' _ ⟨c, rfl, hp', hn'⟩
    have hl : (rangeKs a₀ n).take n = rangeKs a₀ n := List.take_of_length_le (Nat.le_of_eq (rangeKs_length _ _))
    rw [hl] at hp'
    exact done c _ m' h' tk (rangeKs_length _ _) hp' (by rw [ovr_eq hn']; exact F') N'
/-- an if without an else whose test comes out False: its ends joined -/
structure MidEnd {σ : Type} (h₀ : Heap) (L : Addr) (m : Str → Option Value) (s : Shared) (Led : σ → List (Addr × Obj)) (P : σ → Prop) (b : Bool) (s₂ : Shared) : Prop where
  ex : b = false ∧ ∃ (c : σ) (h' : Heap) (tk : Nat) (news' : List (Addr × Obj)), s₂ = { s with heap := h', toks := tk } ∧ Fr h₀ L h' m ∧ News h₀ L h' news' ∧ (∀ p ∈ Led c, p ∈ news') ∧ P c
theorem MidEnd.mk' {σ : Type} {L : Addr} {m : Str → Option Value} {Led : σ → List (Addr × Obj)} {P : σ → Prop} (c : σ) {h' : Heap} {tk : Nat} {news' : List (Addr × Obj)} (F : Fr h₀ L h' m) (N : News h₀ L h' news') (hs : ∀ p ∈ Led c, p ∈ news') (hp : P c) :
    MidEnd h₀ L m s Led P false { s with heap := h', toks := tk } := ⟨rfl, c, h', tk, news', rfl, F, N, hs, hp⟩
theorem if_mid {σ : Type} {L : Addr} {m : Str → Option Value} {news : List (Addr × Obj)} {test : Expr} {then_ : List Stmt} {pos : Pos} (Led : σ → List (Addr × Obj)) (P : σ → Prop) (_F : Fr h₀ L s.heap m) (_N : News h₀ L s.heap news)
    (hif : wpAny (model prog w) A (isTrue test env (eval test env)) (MidEnd h₀ L m s Led P) E s)
    (next : ∀ c h' tk, P c → Fr h₀ L h' m → News h₀ L h' (Led c) → Q .next { s with heap := h', toks := tk }) :
    wpAny (model prog w) A (exec (.If test then_ [] pos) env) Q E s := by
  refine wpAny_If (wpAny_mono hif (fun b s₂ h => ?_) fun _ _ e => e)
  obtain ⟨rfl, c, h', tk, news', rfl, F', N', hs, hp⟩ := h.ex
  exact wpAny_execs_nil (next c h' tk hp F' fun p q => N' p (hs p q))
theorem if_midT {σ : Type} {L : Addr} {m : Str → Option Value} {Y X : Addr} {oo oc : Obj} {tail own : List (Addr × Obj)} {test : Expr} {then_ : List Stmt} {pos : Pos} (Tl : σ → List (Addr × Obj)) (P : σ → Prop) (_F : Fr h₀ L s.heap m) (_N : News h₀ L s.heap ((Y, oo) :: (X, oc) :: (tail ++ own)))
    (hif : wpAny (model prog w) A (isTrue test env (eval test env)) (MidEnd h₀ L m s (fun c => (Y, oo) :: (X, oc) :: (Tl c ++ own)) P) E s)
    (next : ∀ c h' tk, P c → Fr h₀ L h' m → News h₀ L h' ((Y, oo) :: (X, oc) :: (Tl c ++ own)) → Q .next { s with heap := h', toks := tk }) :
    wpAny (model prog w) A (exec (.If test then_ [] pos) env) Q E s := if_mid _ P _F _N hif next
end
theorem name_c2 {h₀ h : Heap} {L f x : Addr} {fo ox : Obj} {r : List (Addr × Obj)} {P : Prop} (_N : News h₀ L h ((f, fo) :: (x, ox) :: r)) (k : ∀ x' o', x' = x → o' = ox → P) : P := k _ _ rfl rfl
theorem name_c4 {h₀ h : Heap} {L d1 d2 f x : Addr} {o1 o2 fo ox : Obj} {r : List (Addr × Obj)} {P : Prop} (_N : News h₀ L h ((d1, o1) :: (d2, o2) :: (f, fo) :: (x, ox) :: r)) (k : ∀ x' o', x' = x → o' = ox → P) : P := k _ _ rfl rfl
theorem off_nil {own : List (Addr × Obj)} : OwnOff own [] := fun _ _ _ h => nomatch h
theorem off_cons {own : List (Addr × Obj)} {b : Addr} {l : List Addr} (h : ∀ q ∈ own, q.1 ≠ b) (r : OwnOff own l) : OwnOff own (b :: l) := fun q hq c hc => by
  rcases List.mem_cons.mp hc with rfl | hc
  · exact h q hq
  · exact r q hq c hc
end Mine
end
section
open PySem PySem.W PyProof.Rows PySem.Calls
set_option maxRecDepth 100000
namespace Mine
section
variable {prog : Program} {w : World} {A : Around} {E : Value → Shared → Prop} {s : Shared}
theorem has_bytes : typeLookup (.type "bytes") "__bytes__" = pure (some (.builtin "bytes.__bytes__")) := by rw [typeLookup_type, builtinLookup_eq_fast]; kernel_rfl
theorem new_of_bytes {b : Array UInt8} {t : Tok} {Q : Value → Shared → Prop} (hQ : Q (.bytes b t) s) :
    codeAny (model prog w) A (.call (.builtin "bytes.__new__") ⟨[.type "bytes", .bytes b t], []⟩) (wants Q E) s := by
  refine codeAny_of_tree ?_
  show wpAny _ A.in1 (do checkBuiltinCall "bytes.__new__" ⟨[.type "bytes", .bytes b t], []⟩; again (.builtin "bytes.__new__" ⟨[.type "bytes", .bytes b t], []⟩)) _ _ s
  refine wpAny_bind (wpAny_of_eq (F.bm_newCall _) (wpAny_pure ⟨plainId_quiet F.bm_plain _, codeAny_builtin F.bm_entry ?_⟩))
  rw [Around.under_plainId F.bm_plain _]
  have hT : s.TypeIs (.bytes b t) "bytes" := typeIs_bytes _ _ _
  unfold Builtin.«bytes.__new__»
  refine wpAny_bind (wpAny_of_eq (a := true) rfl ?_)
  refine bm_if_false rfl ?_
  refine wpAny_bind (wpAny_of_eq F.bm_sub ?_)
  refine bm_if_false rfl ?_
  refine wpAny_bind (wpAny_of_eq (F.bm_bind _) ?_)
  refine wpAny_bind (wpAny_of_eq (a := ()) rfl ?_)
  refine wpAny_bind (wpAny_of_eq (a := ()) rfl ?_)
  refine bm_if_false rfl ?_
  refine wpAny_bind (wpAny_specialOf hT has_bytes ?_)
  refine wpAny_bind (wpAny_rule ?_)
  refine wpAny_bind (wpAny_typeOf hT ?_)
  refine bm_if_true (by decide) ?_
  show wpAny _ _ (if (Value.type "bytes" == Value.type "bytes") = true then _ else _) _ _ _
  refine bm_if_true (by decide) ?_
  first
    | exact wpAny_pure hQ
    | exact wpAny_bind (wpAny_pure (wpAny_pure hQ))
theorem call_bytes_bytes {b : Array UInt8} {t : Tok} {Q : Value → Shared → Prop} (hQ : Q (.bytes b t) s) : wpAny (model prog w) A (PySem.call (.type "bytes") [.bytes b t]) Q E s := by
  refine callType_codes (Q₁ := fun obj s₁ => s₁.TypeIs obj "bytes" ∧ Q obj s₁) F.bm_called (F.bm_typeCall _) F.entry_object_init
    (new_of_bytes ⟨typeIs_bytes _ _ _, hQ⟩) fun obj s₁ h₁ => ?_
  exact ⟨h₁.1, F.args_object_init_2 obj _, object_init_meets F.bm_called.init.lookup F.bm_called.made (by decide) prog w A.in1 _ s₁ ⟨h₁.1, rfl, h₁.2⟩⟩
end
end Mine
end
section
open PySem PySem.W PyProof.Rows
set_option maxRecDepth 100000
namespace Mine
section
variable {prog : Program} {w : World} {M : Model} {A : Around} {E : Value → Shared → Prop} {s : Shared} {K : Frag} {h₀ : Heap} {L : Addr} {m : PySem.Str → Option Value} {news : List (Addr × Obj)}
theorem callWith_fieldsKW {pos : Pos} {u : Addr} {first : List Value} {args : List (Bool × Sem Value)} {keywords : List (Option Str × Sem Value)} {Q : Value → Shared → Prop} (hplain : args.any (·.1) = false) (hkw : keywords.any (·.1.isNone) = false)
    (h : wpAny M A (evalArgs (.ref u) true args keywords) (fun x s₁ => KFB.StandsAt u s₁.heap ∧ wpAny M A (PySem.call (.ref u) (first ++ x.pos) x.kw) Q E s₁) E s) : wpAny M A (callWith pos (.ref u) first args keywords) Q E s := by
  unfold callWith
  refine PySem.wpAny_bind (wpAny_holding (wpAny_mono h (fun x s₁ h₁ => PySem.wpAny_bind (wpAny_standAt ?_)) fun _ _ x => x))
  obtain ⟨ho, hcall⟩ := h₁
  simp only [hplain, hkw, Bool.or_false]
  refine PySem.wpAny_bind (m := keeperOf (.ref u)) ?_
  unfold keeperOf
  refine PySem.wpAny_bind (wpAny_load ho ?_)
  simp only [KFB.bound, show (Value.type "builtin_function_or_method" != Value.type "method") = true by decide, show (Value.type "builtin_function_or_method" == Value.type "builtin_function_or_method" || Value.type "builtin_function_or_method" == Value.type "method-wrapper") = true by decide, if_true]
  refine wpAny_pure ?_
  exact PySem.wpAny_bind (wpAny_mono hcall (fun r s₂ hr => PySem.wpAny_bind (wpAny_holding (wpAny_point (wpAny_pure hr)))) fun _ _ x => x)
theorem callWith_boundKW {pos : Pos} {u : Addr} {first : List Value} {env : Env} {e : Expr} {rest : List Expr} {kws : List Keyword} {Q : Value → Shared → Prop} (_N : News h₀ L s.heap news) (_hm : (u, KFB.bound) ∈ news)
    (h : wpAny M A (spliced (backTo pos (starEach (e :: rest) env))) (fun vs s₁ => wpAny M A (evalAll ((backToKw pos (keywordEach kws env)).map (·.2)))
      (fun kvs s₂ => KFB.StandsAt u s₂.heap ∧ wpAny M A (PySem.call (.ref u) (first ++ vs) (((backToKw pos (keywordEach kws env)).filterMap (·.1)).zip kvs)) Q E s₂) E s₁) E s)
    (he : backTo pos (starEach (e :: rest) env) = (false, eval e env) :: backTo pos (starEach rest env) := by rfl)
    (hplain : (backTo pos (starEach (e :: rest) env)).any (·.1) = false := by rfl)
    (hall : (backToKw pos (keywordEach kws env)).all (·.1.isSome) = true := by rfl)
    (hkw : (backToKw pos (keywordEach kws env)).any (·.1.isNone) = false := by rfl) :
    wpAny M A (callWith pos (.ref u) first (backTo pos (starEach (e :: rest) env)) (backToKw pos (keywordEach kws env))) Q E s := by
  refine callWith_fieldsKW hplain hkw ?_
  rw [he] at h ⊢
  exact evalArgs_kwB hall h
theorem grownI {z : Int} {Q : Value → Shared → Prop} (hn : z.natAbs < 2 ^ 65) (h : Q (.int z s.toks) { s with toks := s.toks + 1 }) : wpAny M A (mkIntGrown z) Q E s := by
  unfold mkIntGrown
  have hl : ¬ (z.natAbs.log2 ≥ bitsLine) := by
    have hb : bitsLine = 134217728 := by first | rfl | decide
    by_cases hz : z.natAbs = 0
    · rw [hz, hb]
      decide
    · have h1 := (Nat.log2_lt hz).mpr hn
      omega
  rw [if_neg hl]
  exact wpAny_mkInt h
theorem value_in : ∀ (l : List UInt8) , 0 ≤ KFB.value (l.map fun c => ((c.toNat : Nat) : Int)) ∧ KFB.value (l.map fun c => ((c.toNat : Nat) : Int)) < 256 ^ l.length := fun l => by
  have h := KFB.fold_lt l 0
  have e := KFB.fold_cast l 0
  unfold KFB.value
  rw [Int.natCast_zero] at e
  rw [← e]
  rw [Nat.zero_add, Nat.one_mul] at h
  refine ⟨Int.natCast_nonneg _, ?_⟩
  have := Int.ofNat_lt.mpr h
  rw [Int.natCast_pow] at this
  exact this
theorem head128 (l : List UInt8) : (l.head?.any fun x => decide (x ≥ 128)) = ((l.map fun c => ((c.toNat : Nat) : Int)).head?.any fun x => decide (128 ≤ x)) := by
  cases l with
  | nil => rfl
  | cons c r =>
    simp only [List.head?_cons, List.map_cons, Option.any_some, ge_iff_le, UInt8.le_iff_toNat_le]
    have : (128 : UInt8).toNat = 128 := rfl
    rw [this]
    by_cases h : 128 ≤ c.toNat
    · rw [decide_eq_true h, decide_eq_true (by omega)]
    · rw [decide_eq_false h, decide_eq_false (by omega)]
theorem nabs {x : Int} (h : x < 36893488147419103232) (h2 : -36893488147419103232 < x) : x.natAbs < 2 ^ 65 := by
  rcases Int.natAbs_eq x with e | e
  · rw [e] at h
    exact Int.ofNat_lt.mp h
  · rw [e] at h2
    exact Int.ofNat_lt.mp (Int.lt_of_neg_lt_neg h2)
theorem tree_bigS {b : Array UInt8} {t u : Tok} {P : Fin → Shared → Prop} (hl : b.size ≤ 8) (h : P (.done (.ret (.int (signedOf (KBw.bInts b)) s.toks))) { s with toks := s.toks + 1 }) :
    wpAny M A (Builtin.«int.from_bytes» ⟨[.type "int", .bytes b t, .str (PySem.Str.ofString "big") u], [(PySem.Str.ofString "signed", .bool true)]⟩) P E s := by
  have hv := value_in b.toList
  have hh := head128 b.toList
  have hp : (256 : Int) ^ b.toList.length ≤ 18446744073709551616 := pow256 (by rw [Array.length_toList]; exact hl)
  have e0 := KFB.foldI_eq b.toList 0
  rw [KFB.fold_cast b.toList 0, Int.natCast_zero] at e0
  unfold Builtin.«int.from_bytes»
  refine PySem.wpAny_bind (wpAny_of_eq (a := true) KFB.type_int ?_)
  refine KFB.if_not rfl ?_
  refine PySem.wpAny_bind (wpAny_of_eq (a := true) F.conv_sub_int ?_)
  refine KFB.if_not rfl ?_
  refine PySem.wpAny_bind (wpAny_of_eq (a := [some (.bytes b t), some (.str (PySem.Str.ofString "big") u), some (.bool true)]) (by kernel_rfl) ?_)
  refine PySem.wpAny_bind (wpAny_of_eq (a := PySem.Str.ofString "big") (by kernel_rfl) ?_)
  refine PySem.wpAny_bind (wpAny_of_eq (a := true) (by first | rfl | kernel_rfl) ?_)
  refine PySem.wpAny_bind (wpAny_of_eq (a := false) (by kernel_rfl) ?_)
  refine PySem.wpAny_bind (wpAny_of_eq (a := b) rfl ?_)
  show wpAny _ _ (mkIntGrown (if (true && b.toList.head?.any fun x => decide (x ≥ 128)) = true then b.toList.foldl (fun (acc : Int) (b : UInt8) => acc * 256 + (b.toNat : Int)) (0 : Int) - 256 ^ b.toList.length else b.toList.foldl (fun (acc : Int) (b : UInt8) => acc * 256 + (b.toNat : Int)) (0 : Int)) >>= fun v => _) _ _ _
  have e1 : (if (true && b.toList.head?.any fun x => decide (x ≥ 128)) = true then b.toList.foldl (fun (acc : Int) (b : UInt8) => acc * 256 + (b.toNat : Int)) (0 : Int) - 256 ^ b.toList.length else b.toList.foldl (fun (acc : Int) (b : UInt8) => acc * 256 + (b.toNat : Int)) (0 : Int)) = signedOf (KBw.bInts b) := by
    rw [Bool.true_and, hh]
    unfold signedOf
    rw [KBw.ints_length, Array.length_toList]
    refine congr (congr (congrArg _ ?_) ?_) ?_
    all_goals first | rfl | exact e0 | (congr 1)
  rw [e1]
  have hz : (signedOf (KBw.bInts b)).natAbs < 2 ^ 65 := by
    have : KBw.bInts b = b.toList.map fun c => ((c.toNat : Nat) : Int) := rfl
    unfold signedOf
    rw [this, List.length_map]
    generalize KFB.value (b.toList.map fun c => ((c.toNat : Nat) : Int)) = v at hv ⊢
    generalize (256 : Int) ^ b.toList.length = z at hv hp ⊢
    obtain ⟨hv1, hv2⟩ := hv
    clear e0 hh this
    split
    · exact nabs (by omega) (by omega)
    · exact nabs (by omega) (by omega)
  refine PySem.wpAny_bind (grownI hz ?_)
  refine KFB.if_so (by decide +kernel) ?_
  exact PySem.wpAny_bind (wpAny_pure (wpAny_pure h))
theorem check_fbS {b : Array UInt8} {t u : Tok} {o : PySem.Str} : checkBoundCall "int.from_bytes" ⟨[.type "int", .bytes b t, .str o u], [(PySem.Str.ofString "signed", .bool true)]⟩ = pure () := by first | kernel_rfl | rfl
theorem call_fbS {x : Addr} {b : Array UInt8} {t u : Tok} {ks : List Int} {Q : Value → Shared → Prop} (ho : KFB.StandsAt x s.heap) (hb : KBw.bInts b = ks) (hl : ks.length ≤ 8)
    (h : ∀ t' k, Q (.int (signedOf ks) t') { s with toks := k }) : wpAny (model prog w) A (PySem.call (.ref x) [.bytes b t, .str (PySem.Str.ofString "big") u] [(PySem.Str.ofString "signed", .bool true)]) Q E s := by
  subst hb
  refine PySem.wpAny_call (codeAny_of_tree ?_)
  show wpAny _ A.in1 (callAny (.ref x) ⟨[.bytes b t, .str (PySem.Str.ofString "big") u], [(PySem.Str.ofString "signed", .bool true)]⟩) _ _ s
  simp only [callAny]
  refine PySem.wpAny_bind (wpAny_load ho ?_)
  simp only [KFB.bound, show (Value.type "builtin_function_or_method" == Value.type "method" || Value.type "builtin_function_or_method" == Value.type "builtin_function_or_method" || Value.type "builtin_function_or_method" == Value.type "method-wrapper") = true by decide, if_true]
  refine KFB.if_so (by decide) ?_
  refine PySem.wpAny_bind (wpAny_of_eq (a := ()) check_fbS ?_)
  refine PySem.wpAny_bind (wpAny_pure (wpAny_pure ?_))
  exact ⟨KFB.quiet_fb, codeAny_builtin KFB.entry_fb (tree_bigS (by rw [← KBw.ints_length]; exact hl) (h _ _))⟩
end
end Mine
end
section
open PySem PySem.W PyProof.Rows PySem.SeqAt
namespace Mine
section
variable {A : Around} {s : Shared}
theorem eqAt_none : EqAt A s .none .none true := fun prog w E Q h => by
  unfold eqBool
  refine wpAny_holding ?_
  rw [if_pos (by rfl)]
  exact PySem.wpAny_bind (wpAny_rule (wpAny_pure h))
theorem eqAt_bytes {b c : Array UInt8} {t u : Tok} (hb : b = c) : EqAt A s (.bytes b t) (.bytes c u) true := fun prog w E Q h => by
  refine eqBool_bytes ?_
  rw [hb, decide_eq_true rfl]
  exact h
theorem bInts_inj {b c : Array UInt8} (h : KBw.bInts b = KBw.bInts c) : b = c := by
  have e : ∀ (l r : List UInt8), l.map (fun c => ((c.toNat : Nat) : Int)) = r.map (fun c => ((c.toNat : Nat) : Int)) → l = r := by
    intro l
    induction l with
    | nil => intro r h; cases r with
      | nil => rfl
      | cons a r => simp at h
    | cons a l ih => intro r h; cases r with
      | nil => simp at h
      | cons b r =>
        simp only [List.map_cons, List.cons.injEq] at h
        have h1 : a = b := UInt8.toNat_inj.mp (Int.ofNat_inj.mp h.1)
        rw [h1, ih r h.2]
  exact Array.toList_inj.mp (e _ _ h)
theorem eqAt_int {i : Int} {t u : Tok} : EqAt A s (.int i t) (.int i u) true := by
  have q := EqAt.int_int (A := A) (s := s) i t i u
  rwa [beq_self_eq_true] at q
theorem eqAt_text {x : Str} {t u : Tok} : EqAt A s (.str x t) (.str x u) true := by
  have q := EqAt.str_str (A := A) (s := s) x t x u
  rwa [beq_self_eq_true] at q
theorem all_true : ∀ (l : List Nat), (!l.all fun _ => true) = false
  | [] => rfl
  | _ :: r => by rw [List.all_cons, Bool.true_and]; exact all_true r
theorem eqAt_val {v v' : Value} {x : Val} (h : IsVal v x) (h' : IsVal v' x) : EqAt A s v v' true := by
  cases h with
  | none => cases h'; exact eqAt_none
  | int => cases h' with
    | int => exact eqAt_int
  | text => cases h' with
    | text => exact eqAt_text
  | body hb => cases h' with
    | body hc => exact eqAt_bytes (bInts_inj (hb.trans hc.symm))
theorem vals_at : ∀ {vs ws : List Value} {xs : List Val}, ValsAre vs xs → ValsAre ws xs → ∀ (j : Nat) (h1 : j < vs.length) (h2 : j < ws.length), ∃ x, IsVal vs[j] x ∧ IsVal ws[j] x
  | _, _, _, .nil, _, j, h1, _ => by simp at h1
  | _, _, _, .cons a r, .cons b q, 0, _, _ => ⟨_, a, b⟩
  | _, _, _, .cons a r, .cons b q, j + 1, h1, h2 => vals_at r q j (by simpa using h1) (by simpa using h2)
end
section
variable {prog : Program} {w : World} {A : Around} {E : Value → Shared → Prop} {s : Shared} {a b : Addr} {vs ws : List Value} {xs : List Val} {Q : Value → Shared → Prop}
theorem ne_vals (ha : s.heap.IsList a vs.toArray) (hb : s.heap.IsList b ws.toArray) (h1 : ValsAre vs xs) (h2 : ValsAre ws xs) (hu : A.units < cLine) (h : Q (.bool false) s) : wpAny (model prog w) A (compareOp .NotEq (.ref a) (.ref b)) Q E s := by
  have hl : vs.toArray.size = ws.toArray.size := by rw [List.size_toArray, List.size_toArray, h1.length, h2.length]
  refine RcNeAt.lists (e := fun _ => true) ha hb hl hu (fun j g1 g2 => ?_) prog w E Q ?_
  · obtain ⟨x, e1, e2⟩ := vals_at h1 h2 j (by simpa using g1) (by simpa using g2)
    exact eqAt_val (by simpa using e1) (by simpa using e2)
  · rw [all_true]; exact h
theorem ne_dec {ks : List Int} {ys : List Val} (ha : s.heap.IsList a vs.toArray) (hb : s.heap.IsList b ws.toArray) (e1 : decodeOf ks = some xs) (e2 : decodeOf ks = some ys) (h1 : ValsAre vs xs) (h2 : ValsAre ws ys) (hu : A.units < cLine) (h : Q (.bool false) s) : wpAny (model prog w) A (compareOp .NotEq (.ref a) (.ref b)) Q E s := by
  rw [e1] at e2
  cases e2
  exact ne_vals ha hb h1 h2 hu h
theorem ne_col {ks : List Int} {i : Int} {v v' : Value} {x y : Val} (ha : s.heap.IsList a #[v]) (hb : s.heap.IsList b #[v']) (e1 : colOf ks i = some x) (e2 : colOf ks i = some y) (h1 : IsVal v x) (h2 : IsVal v' y) (hu : A.units < cLine) (h : Q (.bool false) s) : wpAny (model prog w) A (compareOp .NotEq (.ref a) (.ref b)) Q E s := by
  rw [e1] at e2
  cases e2
  exact ne_vals (vs := [v]) (ws := [v']) ha hb (.cons h1 .nil) (.cons h2 .nil) hu h
theorem dec_no {ks : List Int} (e1 : decodeOf ks = some xs) (e2 : decodeOf ks = none) : False := by rw [e1] at e2; cases e2
theorem col_no {ks : List Int} {i : Int} {x : Val} (e1 : colOf ks i = some x) (e2 : colOf ks i = none) : False := by rw [e1] at e2; cases e2
theorem ne_none (h : Q (.bool false) s) : wpAny (model prog w) A (compareOp .NotEq .none .none) Q E s := RcNeAt.none_none prog w E Q h
end
end Mine
end
set_option maxRecDepth 100000
set_option pp.maxSteps 2000
set_option pp.deepTerms false
namespace Mine
local macro_rules | `(tactic| walk_at "u5") => `(tactic| ((case kF => k_asm); (case kK => k_asm); (case kN => k_asm); (case kT => k_asm); (case kk => first | exact rfl | assumption)))
local macro_rules | `(tactic| walk_at "u6") => `(tactic| ((case kd => first | exact room1 (by assumption) (by exact rfl) | ktr_room); (case ku => first | exact room0 (by assumption) (by exact rfl) | exact room1 (by assumption) (by exact rfl) | ktr_units); k_whole; all_goals (intros; (try (rename (∀ p : Addr × Obj, p ∈ _ → p.1 < _) => l1'; k_lt l1')); (try dsimp only); (try k_fold))))
local macro_rules | `(tactic| walk_at "exec Raise some none") => `(tactic| (k_here; refine raise44 (by with_unfolding_all rfl) ?_))
local macro_rules | `(tactic| walk_at "call ref") => `(tactic| (k_here; (with_reducible show wpAny _ _ (PySem.call (Value.ref 44) [Value.str _ _]) _ _ _); (refine' corrupt44F ?k1 ?k2 ?k3 ?k4 ?_; (case k1 => k_asm); (case k2 => k_asm); (case k3 => k_asm); (case k4 => ktr_room)); intro h' tk' e' hm'))
local macro_rules | `(tactic| walk_at "leaving ref") => `(tactic| (k_here; first | (refine' leave44 ?k1 ?k0 ?k2 ?k3 ?_; (case k0 => assumption); (case k1 => assumption); (case k2 => assumption); (case k3 => k_asm); k_whole; intro h' t' R' U'; (try dsimp only at R' U' ⊢)) | (refine' leave_onK ?k1 ?k2 ?k3 ?k4 ?_; (case k3 => assumption); (case k1 => assumption); (case k4 => assumption); (case k2 => assumption); k_whole; intro h' R' U'; (try dsimp only at R' U' ⊢))))
local macro_rules | `(tactic| walk_at "pyIter ref") => `(tactic| (refine Stop.mk ?_))
local macro_rules | `(tactic| walk_at "exec While Compare cons nil") => `(tactic| (refine Stop.mk ?_))
local macro_rules | `(tactic| ktr_rel) => `(tactic| first | with_reducible assumption | (intro q9 hq9; first | exact hq9 | (simp only [List.mem_cons, List.mem_append] at hq9 ⊢; (repeat' (with_reducible refine Or.elim hq9 (fun hq9 => ?_) (fun hq9 => ?_))) <;> simp only [hq9, true_or, or_true])))
local macro_rules | `(tactic| walk_at "TurnJ") => `(tactic| (dsimp only [TurnJ]))
local macro_rules | `(tactic| k_all) => `(tactic| exact allLt_ne (by assumption))
local macro_rules | `(tactic| k_all) => `(tactic| exact lt_ne (by with_reducible assumption))
local macro_rules | `(tactic| k_all) => `(tactic| (refine forall_app ?a9 ?b9; (case a9 => k_all); (case b9 => exact OwnOff.ne (by assumption) (by k_memK))))
set_option maxHeartbeats 4000000 in
theorem lead_ct {w : World} {loose : List Str} {mean : ExcName → Option Value} {mg mb : Str → Option Value}
   {dp un : Nat} {gd : Option (List Code)} {cn : Str} {cs : Scope} {a : Addr} {ccd : Value} {cl : List (Str × Addr)} {outer : List Env} {A₀ : Around} {base h₀ : Heap} {L : Addr} {m : Str → Option Value} {s : Shared} {Q E : Value → Shared → Prop} {news : List (Addr × Obj)}
   (B : Below A₀ base outer h₀) (F : Fr h₀ L s.heap m) (K : (hd.heap_39 w.params).In h₀) (N : News h₀ L s.heap news) (T : Top topProg loose mean mg mb h₀) (hk : cs.kind = .function)
   {o : Int} {t : Tok} (ho : 0 ≤ o) (ho2 : o < 256) (hdp : dp + 8 < recursionLimit) (hun : un + 8 < cLine)
   (h1 : leadOf o = none → ∀ h' tk', Fr h₀ L h' m → News h₀ L h' news → Q .none { s with heap := h', toks := tk' })
   (h2 : ∀ f c l, leadOf o = some (f, c, l) → 0 ≤ f → f ≤ 3 → 0 ≤ c → c < 128 → 0 ≤ l → ∀ x t1 t2 t3 h' tk', Fr h₀ L h' m → News h₀ L h' ((x, tupO [.int f t1, .int c t2, .int l t3]) :: news) → (∀ p ∈ news, p.1 < x) → Q (.ref x) { s with heap := h', toks := tk' }) :
   wpAny (model (PySem.Challenge.rw_pb0446_01.row.prog) w) (ktrTop dp un gd cn cs L a ccd cl outer) (PySem.call (.ref 53) [.int o t]) Q E s := by
  revert K; k_fill; intro K
  refine wpAny_call ?_
  k_dflt cell_enter
  k_steps
  · have e := (by unfold leadOf; rw [if_pos (by assumption)] : leadOf o = some (_, _, _))
    obtain ⟨e1, e2, e3, e4, e5⟩ := leadOf_in ho e
    exact h2 _ _ _ e e1 e2 e3 e4 e5 _ _ _ _ _ _ (by assumption) (by assumption) (by assumption)
  · have e := (by unfold leadOf; rw [if_neg (by omega), if_pos ⟨by omega, by omega⟩] : leadOf o = some (_, _, _))
    obtain ⟨e1, e2, e3, e4, e5⟩ := leadOf_in ho e
    exact h2 _ _ _ e e1 e2 e3 e4 e5 _ _ _ _ _ _ (by assumption) (by assumption) (by assumption)
  · have e := (by unfold leadOf; rw [if_neg (by omega), if_neg (by omega), if_pos ⟨by omega, by omega⟩] : leadOf o = some (_, _, _))
    obtain ⟨e1, e2, e3, e4, e5⟩ := leadOf_in ho e
    exact h2 _ _ _ e e1 e2 e3 e4 e5 _ _ _ _ _ _ (by assumption) (by assumption) (by assumption)
  · have e := (by unfold leadOf; rw [if_neg (by omega), if_neg (by omega), if_neg (by omega), if_pos ⟨by omega, by omega⟩] : leadOf o = some (_, _, _))
    obtain ⟨e1, e2, e3, e4, e5⟩ := leadOf_in ho e
    exact h2 _ _ _ e e1 e2 e3 e4 e5 _ _ _ _ _ _ (by assumption) (by assumption) (by assumption)
  · exact h1 (by unfold leadOf; rw [if_neg (by omega), if_neg (by omega), if_neg (by omega), if_neg (by omega)]) _ _ (by assumption) (by assumption)
  · exact h1 (by unfold leadOf; rw [if_neg (by omega), if_neg (by omega), if_neg (by omega), if_neg (by omega)]) _ _ (by assumption) (by assumption)
set_option maxHeartbeats 4000000 in
theorem code_ct {w : World} {loose : List Str} {mean : ExcName → Option Value} {mg mb : Str → Option Value}
   {dp un : Nat} {gd : Option (List Code)} {cn : Str} {cs : Scope} {a : Addr} {ccd : Value} {cl : List (Str × Addr)} {outer : List Env} {A₀ : Around} {base h₀ : Heap} {L : Addr} {m : Str → Option Value} {s : Shared} {Q E : Value → Shared → Prop} {news : List (Addr × Obj)}
   (B : Below A₀ base outer h₀) (F : Fr h₀ L s.heap m) (K : (hd.heap_39 w.params).In h₀) (N : News h₀ L s.heap news) (T : Top topProg loose mean mg mb h₀) (hk : cs.kind = .function)
   {b : Array UInt8} {tb : Tok} {p : Int} {tp : Tok} {x : Addr} {f c l : Int} {t1 t2 t3 : Tok} {ks : List Int} (hks : KBw.bInts b = ks) (hb : ks.length ≤ 4096) (hp : 0 ≤ p) (hp2 : p < 2 ^ 40) (hx : (x, tupO [.int f t1, .int c t2, .int l t3]) ∈ news) (hf : 0 ≤ f) (hf3 : f ≤ 3) (hc : 0 ≤ c) (hc2 : c < 128) (hl : 0 ≤ l) (hdp : dp + 8 < recursionLimit) (hun : un + 8 < cLine)
   (h1 : codeAt ks p f c l = none → ∀ h' tk', Fr h₀ L h' m → News h₀ L h' news → Q .none { s with heap := h', toks := tk' })
   (h2 : ∀ z, codeAt ks p f c l = some z → 0 ≤ z → z ≤ 1114111 → ∀ t h' tk', Fr h₀ L h' m → News h₀ L h' news → Q (.int z t) { s with heap := h', toks := tk' }) :
   wpAny (model (PySem.Challenge.rw_pb0446_01.row.prog) w) (ktrTop dp un gd cn cs L a ccd cl outer) (PySem.call (.ref 67) [.bytes b tb, .int p tp, .ref x]) Q E s := by
  revert K; k_fill; intro K
  refine wpAny_call ?_
  k_dflt cell_enter
  have hin := bints_in hks
  k_steps
  · exact h1 (by unfold codeAt; rw [if_pos (by omega)]) _ _ (by assumption) (by assumption)
  · refine Stop.go ?_
    k_with "state" => first | exact CInv.start (by assumption) (by assumption) | exact CInv.next (by assumption) (by omega) (by assumption) (by simpa using by assumption)
    k_state (fun pre c' => CInv ks p f c pre c') "code"
    · have kS := CInv.small kInv (by omega)
      obtain ⟨kS1, kS2⟩ := kS
      k_steps
      exact h1 (CInv.out kInv (by omega) (by assumption) (by omega) (by assumption)) _ _ (by assumption) (news_sub (by assumption) (by ktr_rel))
    · have hn : (rangeKs p (p + f - p).toNat).length = f.toNat := by rw [rangeKs_length]; omega
      have hd := CInv.done (l := l) kInv hn (by omega)
      have kS := CInv.small kInv (by omega)
      obtain ⟨kS1, kS2⟩ := kS
      k_steps
      · exact h1 (by rw [hd, if_pos (by omega)]) _ _ (by assumption) (by assumption)
      · exact h1 (by rw [hd, if_pos (by omega)]) _ _ (by assumption) (by assumption)
      · exact h2 _ (by rw [hd, if_neg (by omega)]) (by assumption) (by omega) _ _ _ (by assumption) (by assumption)
set_option maxHeartbeats 4000000 in
theorem varint_ct {w : World} {loose : List Str} {mean : ExcName → Option Value} {mg mb : Str → Option Value}
   {dp un : Nat} {gd : Option (List Code)} {cn : Str} {cs : Scope} {a : Addr} {ccd : Value} {cl : List (Str × Addr)} {outer : List Env} {A₀ : Around} {base h₀ : Heap} {L : Addr} {m : Str → Option Value} {s : Shared} {Q E : Value → Shared → Prop} {news : List (Addr × Obj)}
   (B : Below A₀ base outer h₀) (F : Fr h₀ L s.heap m) (K : (hd.heap_39 w.params).In h₀) (N : News h₀ L s.heap news) (T : Top topProg loose mean mg mb h₀) (hk : cs.kind = .function)
   {b : Array UInt8} {tb : Tok} {p : Int} {tp : Tok} {ks : List Int} (hks : KBw.bInts b = ks) (hb : ks.length ≤ 4096) (hp : 0 ≤ p) (hp2 : p < 2^62) (hdp : dp + 8 < recursionLimit) (hun : un + 8 < cLine)
   (h2 : ∀ n q, vread ks p = some (n, q) → p < q → q ≤ ks.length → 0 ≤ n → n < 2 ^ 64 → ∀ x t1 t2 h' tk', Fr h₀ L h' m → News h₀ L h' ((x, tupO [.int n t1, .int q t2]) :: news) → (∀ p ∈ news, p.1 < x) → Q (.ref x) { s with heap := h', toks := tk' })
   (h3 : vread ks p = none → ∀ e t vs g₂ h' tk', Fr h₀ L g₂ m → g₂.UpToSlots h' → RaisedK base (envX cn cs L a ccd cl :: outer) e (.ref 44) t vs news h' → E (.ref e) { s with heap := h', toks := tk' }) :
   wpAny (model (PySem.Challenge.rw_pb0446_01.row.prog) w) (ktrTop dp un gd cn cs L a ccd cl outer) (PySem.call (.ref 75) [.bytes b tb, .int p tp]) Q E s := by
  revert K; k_fill; intro K
  refine wpAny_call ?_
  k_dflt cell_enter
  have hin := bints_in hks
  k_steps
  refine Stop.go ?_
  k_with "state" => first | exact VInv.start _ _ | exact VInv.next (by assumption) (by omega) (by omega) (by assumption) (by assumption)
  k_state (fun pre n at_ => VInv ks p pre n at_) "number" "at"
  · obtain ⟨kS1, kS2, kS3⟩ := VInv.small kInv (by omega)
    k_steps
    · exact h3 (VInv.out kInv (by omega) (by assumption)) _ _ _ _ _ _ (by assumption) (by assumption) (raisedK_sub (by assumption) (by ktr_rel))
    · have e := VInv.last kInv (by omega) (by assumption) (by assumption) (by assumption)
      obtain ⟨e1, e2, e3, e4⟩ := vread_in hin e
      exact h2 _ _ e e1 e2 e3 e4 _ _ _ _ _ (by assumption) (news_sub1 (by assumption) (by ktr_rel)) (lt_sub (by assumption) (by ktr_rel))
    · have e := VInv.fin kInv (by omega) (by omega) (by assumption) (by assumption)
      obtain ⟨e1, e2, e3, e4⟩ := vread_in hin e
      exact h2 _ _ e e1 e2 e3 e4 _ _ _ _ _ (by assumption) (news_sub1 (by assumption) (by ktr_rel)) (lt_sub (by assumption) (by ktr_rel))
  · k_steps
    exact h3 (VInv.done kInv (by rw [rangeKs_length]; rfl)) _ _ _ _ _ _ (by assumption) (by assumption) (raisedK_sub (by assumption) (by ktr_rel))
set_option maxHeartbeats 4000000 in
theorem size_ct {w : World} {loose : List Str} {mean : ExcName → Option Value} {mg mb : Str → Option Value}
   {dp un : Nat} {gd : Option (List Code)} {cn : Str} {cs : Scope} {a : Addr} {ccd : Value} {cl : List (Str × Addr)} {outer : List Env} {A₀ : Around} {base h₀ : Heap} {L : Addr} {m : Str → Option Value} {s : Shared} {Q E : Value → Shared → Prop} {news : List (Addr × Obj)}
   (B : Below A₀ base outer h₀) (F : Fr h₀ L s.heap m) (K : (hd.heap_39 w.params).In h₀) (N : News h₀ L s.heap news) (T : Top topProg loose mean mg mb h₀) (hk : cs.kind = .function)
   {o : Int} {t : Tok} (ho : 0 ≤ o) (ho2 : o < 2 ^ 70) (hdp : dp + 8 < recursionLimit) (hun : un + 8 < cLine)
   (h2 : ∀ z, sizeOf o = some z → 0 ≤ z → ∀ t h' tk', Fr h₀ L h' m → News h₀ L h' news → Q (.int z t) { s with heap := h', toks := tk' })
   (h3 : sizeOf o = none → ∀ e t vs g₂ h' tk', Fr h₀ L g₂ m → g₂.UpToSlots h' → RaisedK base (envX cn cs L a ccd cl :: outer) e (.ref 44) t vs news h' → E (.ref e) { s with heap := h', toks := tk' }) :
   wpAny (model (PySem.Challenge.rw_pb0446_01.row.prog) w) (ktrTop dp un gd cn cs L a ccd cl outer) (PySem.call (.ref 89) [.int o t]) Q E s := by
  revert K; k_fill; intro K
  refine wpAny_call ?_
  k_dflt cell_enter
  k_steps
  · exact h2 _ (by unfold sizeOf; rw [if_pos (by omega)]) (by rw [Int.fdiv_eq_ediv_of_nonneg _ (by decide)]; omega) _ _ _ (by assumption) (by assumption)
  · exact h2 _ (size_89 (by assumption)) (by decide) _ _ _ (by assumption) (news_sub (by assumption) (by ktr_rel))
  · exact h2 _ (size_7 (by assumption) (by assumption) (by assumption)) (sizes_small ho (by assumption)).1 _ _ _ (by assumption) (news_sub (by assumption) (by ktr_rel))
  · exact h3 (size_no (by assumption) (by assumption) (by assumption)) _ _ _ _ _ _ (by assumption) (by assumption) (raisedK_sub (by assumption) (by ktr_rel))
set_option maxHeartbeats 4000000 in
theorem fixed_ct {w : World} {loose : List Str} {mean : ExcName → Option Value} {mg mb : Str → Option Value}
   {dp un : Nat} {gd : Option (List Code)} {cn : Str} {cs : Scope} {a : Addr} {ccd : Value} {cl : List (Str × Addr)} {outer : List Env} {A₀ : Around} {base h₀ : Heap} {L : Addr} {m : Str → Option Value} {s : Shared} {Q E : Value → Shared → Prop} {news : List (Addr × Obj)}
   (B : Below A₀ base outer h₀) (F : Fr h₀ L s.heap m) (K : (hd.heap_39 w.params).In h₀) (N : News h₀ L s.heap news) (T : Top topProg loose mean mg mb h₀) (hk : cs.kind = .function)
   {b : Array UInt8} {tb : Tok} {p : Int} {tp : Tok} {z : Int} {tz : Tok} {ks : List Int} (hks : KBw.bInts b = ks) (hb : ks.length ≤ 4096) (hp : 0 ≤ p) (hz : 0 ≤ z) (hz8 : z ≤ 8) (hpz : p + z ≤ ks.length) (hdp : dp + 8 < recursionLimit) (hun : un + 8 < cLine)
   (h2 : ∀ t h' tk', Fr h₀ L h' m → News h₀ L h' news → Q (.int (fixedOf ks p z) t) { s with heap := h', toks := tk' }) :
   wpAny (model (PySem.Challenge.rw_pb0446_01.row.prog) w) (ktrTop dp un gd cn cs L a ccd cl outer) (PySem.call (.ref 82) [.bytes b tb, .int p tp, .int z tz]) Q E s := by
  revert K; k_fill; intro K
  refine wpAny_call ?_
  k_dflt cell_enter
  have hin := bints_in hks
  k_steps
  refine Stop.go ?_
  k_state (fun pre n => n = ubig ks p pre.length) "number"
  · have kS := ubig_small hin (by omega) kInv
    obtain ⟨kS1, kS2⟩ := kS
    k_with "state" => exact fixed_next (by assumption) (by assumption) (by assumption)
    k_steps
  · have hn : (rangeKs p (p + z - p).toNat).length = z.toNat := by rw [rangeKs_length]; omega
    k_steps
    · rw [← fixed_neg kInv hn (by assumption) (by assumption)]
      exact h2 _ _ _ (by assumption) (by assumption)
    · rw [← fixed_pos kInv hn (by assumption)]
      exact h2 _ _ _ (by assumption) (by assumption)
    · rw [← fixed_zero kInv hn (by assumption)]
      exact h2 _ _ _ (by assumption) (by assumption)
local macro_rules | `(tactic| walk_at "call ref") => `(tactic| (k_here; (with_reducible show wpAny _ _ (PySem.call (Value.ref 53) [Value.int _ _]) _ _ _); k_dflt (refine' lead_ct ?kB ?kF ?kK ?kN ?kT ?kk ?c1 ?c2 ?kd ?ku ?_ ?_; (case kB => k_asm); walk_at "u5"); (case c1 => first | assumption | omega); (case c2 => first | assumption | omega); walk_at "u6"))
local macro_rules | `(tactic| walk_at "call ref") => `(tactic| (k_here; (with_reducible show wpAny _ _ (PySem.call (Value.ref 67) [Value.bytes _ _, Value.int _ _, Value.ref _]) _ _ _); k_dflt (refine' code_ct ?kB ?kF ?kK ?kN ?kT ?kk ?hks ?hb ?hp ?hp2 ?hx ?hf ?hf3 ?hc ?hc2 ?hl ?kd ?ku ?_ ?_; (case kB => k_asm); walk_at "u5"); (case hks => assumption); (case hb => first | assumption | omega); (case hp => omega); (case hp2 => omega); (case hx => k_mem); (case hf => omega); (case hf3 => omega); (case hc => omega); (case hc2 => omega); (case hl => omega); walk_at "u6"))
structure TS where
  signs : List Str
  vs : List Value
  nn : Nat
  place : Int
  ta : Tok
set_option maxHeartbeats 4000000 in
theorem text_ct {w : World} {loose : List Str} {mean : ExcName → Option Value} {mg mb : Str → Option Value}
   {dp un : Nat} {gd : Option (List Code)} {cn : Str} {cs : Scope} {a : Addr} {ccd : Value} {cl : List (Str × Addr)} {outer : List Env} {A₀ : Around} {base h₀ : Heap} {L : Addr} {m : Str → Option Value} {s : Shared} {Q E : Value → Shared → Prop} {news : List (Addr × Obj)}
   (B : Below A₀ base outer h₀) (F : Fr h₀ L s.heap m) (K : (hd.heap_39 w.params).In h₀) (N : News h₀ L s.heap news) (T : Top topProg loose mean mg mb h₀) (hk : cs.kind = .function)
   {b : Array UInt8} {tb : Tok} {ks : List Int} (hks : KBw.bInts b = ks) (hb : ks.length ≤ 4096) (hdp : dp + 16 < recursionLimit) (hun : un + 16 < cLine)
   (h2 : ∀ t h' tk', Fr h₀ L h' m → News h₀ L h' news → Q (.str (textOf ks) t) { s with heap := h', toks := tk' }) :
   wpAny (model (PySem.Challenge.rw_pb0446_01.row.prog) w) (ktrTop dp un gd cn cs L a ccd cl outer) (PySem.call (.ref 60) [.bytes b tb]) Q E s := by
  revert K; k_fill; intro K
  refine wpAny_call ?_
  k_dflt cell_enter
  have hin := bints_in hks
  k_steps
  refine Stop.go ?_
  rename Fr _ _ _ _ => lF
  rename News _ _ _ _ => lN
  refine name1 lN fun D hD => ?_
  subst hD
  refine whileJ (σ := TS) (fun c => (D, listOf c.vs.toArray c.nn) :: news) (fun c => [(Str.ofString "octets", .bytes b tb), (Str.ofString "signs", .ref D), (Str.ofString "at", .int c.place c.ta)])
    (fun c => TInv ks c.signs c.place ∧ StrsAre c.vs c.signs) (fun c => (ks.length - c.place).toNat) ⟨[], [], 0, 0, _⟩ lF lN (fun q hq => hq) (by kst_all) ⟨TInv.start _, .nil⟩ ?_ (by with_unfolding_all passes_own)
  clear lF lN
  rintro ⟨signs, vs, nn, at_, ta⟩ u h tk ⟨hT, hS⟩ F₁ N₁
  dsimp only [ovr] at F₁ N₁ hT hS ⊢
  k_fold
  obtain ⟨kI1, kI2, kI3, kI4, kI5⟩ := id hT
  k_steps
  · (try dsimp only [TurnJ])
    rename News _ _ _ _ => nE
    (try simp only [List.push_toArray] at nE)
    refine' EndJ.mk' (TS.mk _ _ _ _ _) (by assumption) nE (fun q h => h) (by kst_all) (And.intro (TInv.nextR hT (by assumption) (sign_n1 (by assumption))) (StrsAre.append' hS (.cons _ _ .nil))) (by dsimp only; omega)
  · (try dsimp only [TurnJ])
    rename News _ _ _ _ => nE
    (try simp only [List.push_toArray] at nE)
    refine' EndJ.mk' (TS.mk _ _ _ _ _) (by assumption) nE (fun q h => List.mem_cons_of_mem _ h) (by kst_all) (And.intro (TInv.nextR hT (by assumption) (sign_n2 (by assumption) (by assumption))) (StrsAre.append' hS (.cons _ _ .nil))) (by dsimp only; omega)
  · (try dsimp only [TurnJ])
    rename News _ _ _ _ => nE
    (try simp only [List.push_toArray] at nE)
    refine' EndJ.mk' (TS.mk _ _ _ _ _) (by assumption) nE (fun q h => List.mem_cons_of_mem _ h) (by kst_all) (And.intro (TInv.nextC hT (by assumption) (by assumption) (by assumption) (by assumption)) (StrsAre.append' hS (.cons _ _ .nil))) (by dsimp only; omega)
  · rename News _ _ _ _ => nE
    refine join_listW (News.isList nE (by k_mem)) (by simpa using hS) (by decide +kernel) (by rw [sum_ones kI5]; omega) ?_
    intro t' k'
    rw [TInv.done hT (by assumption)]
    k_steps
    exact h2 _ _ _ (by assumption) (news_sub (by assumption) (by ktr_rel))
local macro_rules | `(tactic| walk_at "call ref") => `(tactic| (k_here; (with_reducible show wpAny _ _ (PySem.call (Value.ref 89) [Value.int _ _]) _ _ _); k_dflt (refine' size_ct ?kB ?kF ?kK ?kN ?kT ?kk ?ho ?ho2 ?kd ?ku ?_ ?_; (case kB => k_asm); walk_at "u5"); (case ho => first | assumption | omega); (case ho2 => first | assumption | omega); walk_at "u6"))
local macro_rules | `(tactic| walk_at "call ref") => `(tactic| (k_here; (with_reducible show wpAny _ _ (PySem.call (Value.ref 82) [Value.bytes _ _, Value.int _ _, Value.int _ _]) _ _ _); k_dflt (refine' fixed_ct ?kB ?kF ?kK ?kN ?kT ?kk ?hks ?hb ?hp ?hz ?hz8 ?hpz ?kd ?ku ?_; (case kB => k_asm); walk_at "u5"); (case hks => assumption); (case hb => first | assumption | omega); (case hp => omega); (case hz => omega); (case hz8 => first | omega | exact (size_le8 (by assumption) (by assumption) (by assumption)).2); (case hpz => omega); walk_at "u6"))
local macro_rules | `(tactic| walk_at "call ref") => `(tactic| (k_here; (with_reducible show wpAny _ _ (PySem.call (Value.ref 60) [Value.bytes _ _]) _ _ _); k_dflt (refine' text_ct ?kB ?kF ?kK ?kN ?kT ?kk ?hks ?hb ?kd ?ku ?_; (case kB => k_asm); walk_at "u5"); (case hks => assumption); (case hb => first | assumption | omega | (simp only [List.length_take, List.length_drop]; omega)); walk_at "u6"))
local macro_rules | `(tactic| walk_at "call type:bytes") => `(tactic| (k_here; (with_reducible show wpAny _ _ (PySem.call (Value.type "bytes") [Value.bytes _ _]) _ _ _); refine call_bytes_bytes ?_))
set_option maxHeartbeats 4000000 in
theorem value_ct {w : World} {loose : List Str} {mean : ExcName → Option Value} {mg mb : Str → Option Value}
   {dp un : Nat} {gd : Option (List Code)} {cn : Str} {cs : Scope} {a : Addr} {ccd : Value} {cl : List (Str × Addr)} {outer : List Env} {A₀ : Around} {base h₀ : Heap} {L : Addr} {m : Str → Option Value} {s : Shared} {Q E : Value → Shared → Prop} {news : List (Addr × Obj)}
   (B : Below A₀ base outer h₀) (F : Fr h₀ L s.heap m) (K : (hd.heap_39 w.params).In h₀) (N : News h₀ L s.heap news) (T : Top topProg loose mean mg mb h₀) (hk : cs.kind = .function)
   {b : Array UInt8} {tb : Tok} {p : Int} {tp : Tok} {k : Int} {tk : Tok} {ks : List Int} (hks : KBw.bInts b = ks) (hb : ks.length ≤ 4096) (hp : 0 ≤ p) (hp2 : p < 2 ^ 80) (hk0 : 0 ≤ k) (hk2 : k < 2 ^ 70) (hdp : dp + 24 < recursionLimit) (hun : un + 24 < cLine)
   (hn : valueAt ks p k = some .none → ∀ h' tk', Fr h₀ L h' m → News h₀ L h' news → Q .none { s with heap := h', toks := tk' })
   (hi : ∀ i, valueAt ks p k = some (.int i) → ∀ t h' tk', Fr h₀ L h' m → News h₀ L h' news → Q (.int i t) { s with heap := h', toks := tk' })
   (ht : ∀ x, valueAt ks p k = some (.text x) → ∀ t h' tk', Fr h₀ L h' m → News h₀ L h' news → Q (.str (textOf x) t) { s with heap := h', toks := tk' })
   (hy : ∀ x, valueAt ks p k = some (.body x) → ∀ b t h' tk', KBw.bInts b = x → Fr h₀ L h' m → News h₀ L h' news → Q (.bytes b t) { s with heap := h', toks := tk' })
   (h3 : valueAt ks p k = none → ∀ e t vs g₂ h' tk', Fr h₀ L g₂ m → g₂.UpToSlots h' → RaisedK base (envX cn cs L a ccd cl :: outer) e (.ref 44) t vs news h' → E (.ref e) { s with heap := h', toks := tk' }) :
   wpAny (model (PySem.Challenge.rw_pb0446_01.row.prog) w) (ktrTop dp un gd cn cs L a ccd cl outer) (PySem.call (.ref 96) [.bytes b tb, .int p tp, .int k tk]) Q E s := by
  revert K; k_fill; intro K
  refine wpAny_call ?_
  k_dflt cell_enter
  have hin := bints_in hks
  k_steps
  · exact h3 (value_cut (by assumption) (by omega)) _ _ _ _ _ _ (by assumption) (by assumption) (raisedK_sub (by assumption) (by ktr_rel))
  · exact hn (by rw [value_eq (by assumption) (by omega), if_pos (by assumption)]) _ _ (by assumption) (by assumption)
  · exact hi _ (by rw [value_eq (by assumption) (by omega), if_neg (by omega), if_pos (by assumption)]) _ _ _ (by assumption) (by assumption)
  · exact hi _ (by rw [value_eq (by assumption) (by omega), if_neg (by omega), if_neg (by omega), if_pos (by assumption)]) _ _ _ (by assumption) (by assumption)
  · exact hi _ (by rw [value_eq (by assumption) (by omega), if_neg (by omega), if_neg (by omega), if_neg (by omega), if_pos (by assumption)]) _ _ _ (by assumption) (by assumption)
  · exact ht _ (by rw [value_eq (by assumption) (by omega), if_neg (by omega), if_neg (by omega), if_neg (by omega), if_neg (by omega), if_pos (by assumption)]; try rfl) _ _ _ (by assumption) (by assumption)
  · exact hy _ (by rw [value_eq (by assumption) (by omega), if_neg (by omega), if_neg (by omega), if_neg (by omega), if_neg (by omega), if_neg (by assumption)]; try rfl) _ _ _ _ (by assumption) (by assumption) (by assumption)
  · exact h3 (value_no (by assumption)) _ _ _ _ _ _ (by assumption) (by assumption) (raisedK_sub (by assumption) (by ktr_rel))

theorem value_ctv {w : World} {loose : List Str} {mean : ExcName → Option Value} {mg mb : Str → Option Value}
   {dp un : Nat} {gd : Option (List Code)} {cn : Str} {cs : Scope} {a : Addr} {ccd : Value} {cl : List (Str × Addr)} {outer : List Env} {A₀ : Around} {base h₀ : Heap} {L : Addr} {m : Str → Option Value} {s : Shared} {Q E : Value → Shared → Prop} {news : List (Addr × Obj)}
   (B : Below A₀ base outer h₀) (F : Fr h₀ L s.heap m) (K : (hd.heap_39 w.params).In h₀) (N : News h₀ L s.heap news) (T : Top topProg loose mean mg mb h₀) (hk : cs.kind = .function)
   {b : Array UInt8} {tb : Tok} {p : Int} {tp : Tok} {k : Int} {tk : Tok} {ks : List Int} (hks : KBw.bInts b = ks) (hb : ks.length ≤ 4096) (hp : 0 ≤ p) (hp2 : p < 2 ^ 80) (hk0 : 0 ≤ k) (hk2 : k < 2 ^ 70) (hdp : dp + 24 < recursionLimit) (hun : un + 24 < cLine)
   (h2 : ∀ x, valueAt ks p k = some x → ∀ v h' tk', IsVal v x → Fr h₀ L h' m → News h₀ L h' news → Q v { s with heap := h', toks := tk' })
   (h3 : valueAt ks p k = none → ∀ e t vs g₂ h' tk', Fr h₀ L g₂ m → g₂.UpToSlots h' → RaisedK base (envX cn cs L a ccd cl :: outer) e (.ref 44) t vs news h' → E (.ref e) { s with heap := h', toks := tk' }) :
   wpAny (model (PySem.Challenge.rw_pb0446_01.row.prog) w) (ktrTop dp un gd cn cs L a ccd cl outer) (PySem.call (.ref 96) [.bytes b tb, .int p tp, .int k tk]) Q E s :=
  value_ct B F K N T hk hks hb hp hp2 hk0 hk2 hdp hun (fun e h' tk' F' N' => h2 _ e _ _ _ .none F' N') (fun i e t h' tk' F' N' => h2 _ e _ _ _ .int F' N') (fun x e t h' tk' F' N' => h2 _ e _ _ _ .text F' N') (fun x e b t h' tk' hb F' N' => h2 _ e _ _ _ (.body hb) F' N') h3
local macro_rules | `(tactic| walk_at "call ref") => `(tactic| (k_here; (with_reducible show wpAny _ _ (PySem.call (Value.ref 75) [Value.bytes _ _, Value.int _ _]) _ _ _); k_dflt (refine' varint_ct ?kB ?kF ?kK ?kN ?kT ?kk ?hks ?hb ?hp ?hp2 ?kd ?ku ?_ ?_; (case kB => k_asm); walk_at "u5"); (case hks => assumption); (case hb => first | assumption | omega); (case hp => omega); (case hp2 => omega); walk_at "u6"))
structure HS where
  ts : List Int
  vs : List Value
  nn : Nat
  place : Int
  ta : Tok
  te : Tok
set_option maxHeartbeats 4000000 in
theorem head_ct {w : World} {loose : List Str} {mean : ExcName → Option Value} {mg mb : Str → Option Value}
   {dp un : Nat} {gd : Option (List Code)} {cn : Str} {cs : Scope} {a : Addr} {ccd : Value} {cl : List (Str × Addr)} {outer : List Env} {A₀ : Around} {base h₀ : Heap} {L : Addr} {m : Str → Option Value} {s : Shared} {Q E : Value → Shared → Prop} {news : List (Addr × Obj)}
   (B : Below A₀ base outer h₀) (F : Fr h₀ L s.heap m) (K : (hd.heap_39 w.params).In h₀) (N : News h₀ L s.heap news) (T : Top topProg loose mean mg mb h₀) (hk : cs.kind = .function)
   {b : Array UInt8} {tb : Tok} {ks : List Int} (hks : KBw.bInts b = ks) (hb : ks.length ≤ 4096) (hdp : dp + 16 < recursionLimit) (hun : un + 16 < cLine)
   (h2 : ∀ ts e, headAt ks = some (ts, e) → (∀ k ∈ ts, 0 ≤ k ∧ k < 2 ^ 64) → ts.length ≤ ks.length → 0 ≤ e → e ≤ ks.length → ∀ x D vs nn t2 h' tk', IntsAre vs ts → Fr h₀ L h' m → News h₀ L h' ((x, tupO [.ref D, .int e t2]) :: (D, listOf vs.toArray nn) :: news) → (∀ p ∈ news, p.1 < D) → D < x → Q (.ref x) { s with heap := h', toks := tk' })
   (h3 : headAt ks = none → ∀ e t vs g₂ h' tk', Fr h₀ L g₂ m → g₂.UpToSlots h' → RaisedK base (envX cn cs L a ccd cl :: outer) e (.ref 44) t vs news h' → E (.ref e) { s with heap := h', toks := tk' }) :
   wpAny (model (PySem.Challenge.rw_pb0446_01.row.prog) w) (ktrTop dp un gd cn cs L a ccd cl outer) (PySem.call (.ref 103) [.bytes b tb]) Q E s := by
  revert K; k_fill; intro K
  refine wpAny_call ?_
  k_dflt cell_enter
  have hin := bints_in hks
  k_steps
  · exact h3 (head_n2 (by assumption) (.inl (by assumption))) _ _ _ _ _ _ (by assumption) (by assumption) (raisedK_sub (by assumption) (by ktr_rel))
  · exact h3 (head_n2 (by assumption) (.inr (by assumption))) _ _ _ _ _ _ (by assumption) (by assumption) (raisedK_sub (by assumption) (by ktr_rel))
  · refine Stop.go ?_
    rename Fr _ _ _ _ => lF
    rename News _ _ _ _ => lN
    rename _ ∧ AllLt _ _ => lA
    rename vread ks 0 = some _ => hv
    refine name1 lN fun D hD => ?_
    subst hD
    refine nameV hv fun e a₀ he ha => ?_
    subst he ha
    refine whileJ (σ := HS) (fun c => (D, listOf c.vs.toArray c.nn) :: news) (fun c => [(Str.ofString "octets", .bytes b tb), (Str.ofString "end", .int e c.te), (Str.ofString "types", .ref D), (Str.ofString "at", .int c.place c.ta)])
      (fun c => HInv ks e a₀ c.ts c.place ∧ IntsAre c.vs c.ts) (fun c => (ks.length - c.place).toNat) ⟨[], [], 0, _, _, _⟩ lF lN (by ktr_rel) (by kst_all) ⟨HInv.start (by omega) (by omega), .nil⟩ ?_ (by with_unfolding_all passes_own)
    clear lF lN
    rintro ⟨ts, vs, nn, at_, ta, te⟩ u h tk ⟨hT, hS⟩ F₁ N₁
    dsimp only [ovr] at F₁ N₁ hT hS ⊢
    k_fold
    obtain ⟨kI1, kI2, kI3, kI4, kI5⟩ := id hT
    k_steps
    · (try dsimp only [TurnJ])
      rename News _ _ _ _ => nE
      (try simp only [List.push_toArray] at nE)
      refine' EndJ.mk' (HS.mk _ _ _ _ _ _) (by assumption) nE (fun q h => List.mem_cons_of_mem _ h) (by kst_all) (And.intro (HInv.step hT (by assumption) (by assumption) (by assumption) (by assumption) (by assumption) (by assumption)) (IntsAre.append hS (.cons _ _ .nil))) (by dsimp only; omega)
    · exact h3 (head_n3 hv (by omega) (HInv.out hT (by assumption) (by assumption))) _ _ _ _ _ _ (by assumption) (by assumption) (raisedK_sub (by assumption) (by ktr_rel))
    · exact h3 (head_n4 hv (by omega) (HInv.done hT (by assumption)) (by assumption)) _ _ _ _ _ _ (by assumption) (by assumption) (raisedK_sub (by assumption) (by ktr_rel))
    · rename _ ∧ AllLt _ _ => l9
      have h9 := head_s hv (by omega) (HInv.done hT (by assumption)) (by omega)
      have h8 : ts.length ≤ ks.length := by omega
      exact h2 _ _ h9 hT.big h8 (by omega) (by omega) _ _ _ _ _ _ _ hS (by assumption) (news_sub2 (by assumption) (by ktr_rel)) (allLt_all lA.2) l9.1
  · exact h3 (head_n1 (by assumption)) _ _ _ _ _ _ (by assumption) (by assumption) (raisedK_sub (by assumption) (by ktr_rel))
local macro_rules | `(tactic| walk_at "call ref") => `(tactic| (k_here; (with_reducible show wpAny _ _ (PySem.call (Value.ref 96) [Value.bytes _ _, Value.int _ _, Value.int _ _]) _ _ _); k_dflt (refine' value_ctv ?kB ?kF ?kK ?kN ?kT ?kk ?hks ?hb ?hp ?hp2 ?hk0 ?hk2 ?kd ?ku ?_ ?_; (case kB => k_asm); walk_at "u5"); (case hks => assumption); (case hb => first | assumption | omega); (case hp => first | assumption | omega); (case hp2 => omega); (case hk0 => first | assumption | omega); (case hk2 => omega); walk_at "u6"))
local macro_rules | `(tactic| walk_at "call ref") => `(tactic| (k_here; (with_reducible show wpAny _ _ (PySem.call (Value.ref 103) [Value.bytes _ _]) _ _ _); k_dflt (refine' head_ct ?kB ?kF ?kK ?kN ?kT ?kk ?hks ?hb ?kd ?ku ?_ ?_; (case kB => k_asm); walk_at "u5"); (case hks => assumption); (case hb => first | assumption | omega); walk_at "u6"))
structure DS where
  xs : List Val
  ws : List Value
  nn : Nat
  place : Int
  ta : Tok
set_option maxHeartbeats 4000000 in
theorem decode_ct {w : World} {loose : List Str} {mean : ExcName → Option Value} {mg mb : Str → Option Value}
   {dp un : Nat} {gd : Option (List Code)} {cn : Str} {cs : Scope} {a : Addr} {ccd : Value} {cl : List (Str × Addr)} {outer : List Env} {A₀ : Around} {base h₀ : Heap} {L : Addr} {m : Str → Option Value} {s : Shared} {Q E : Value → Shared → Prop} {news : List (Addr × Obj)}
   (B : Below A₀ base outer h₀) (F : Fr h₀ L s.heap m) (K : (hd.heap_39 w.params).In h₀) (N : News h₀ L s.heap news) (T : Top topProg loose mean mg mb h₀) (hk : cs.kind = .function)
   {b : Array UInt8} {tb : Tok} {ks : List Int} (hks : KBw.bInts b = ks) (hb : ks.length ≤ 4096) (hdp : dp + 32 < recursionLimit) (hun : un + 32 < cLine)
   (h2 : ∀ xs, decodeOf ks = some xs → xs.length ≤ ks.length → ∀ D ws nn h' tk', ValsAre ws xs → Fr h₀ L h' m → News h₀ L h' ((D, listOf ws.toArray nn) :: news) → (∀ p ∈ news, p.1 < D) → Q (.ref D) { s with heap := h', toks := tk' })
   (h3 : decodeOf ks = none → ∀ e t vs g₂ h' tk', Fr h₀ L g₂ m → g₂.UpToSlots h' → RaisedK base (envX cn cs L a ccd cl :: outer) e (.ref 44) t vs news h' → E (.ref e) { s with heap := h', toks := tk' }) :
   wpAny (model (PySem.Challenge.rw_pb0446_01.row.prog) w) (ktrTop dp un gd cn cs L a ccd cl outer) (PySem.call (.ref 110) [.bytes b tb]) Q E s := by
  revert K; k_fill; intro K
  refine wpAny_call ?_
  k_dflt cell_enter
  have hin := bints_in hks
  k_steps
  · refine Stop.go ?_
    rename Fr _ _ _ _ => lF
    rename News _ _ _ _ => lN
    rename _ < _ ∧ _ < _ ∧ AllLt _ _ => lA
    rename headAt ks = some _ => hv
    rename ∀ k : Int, _ => hbig
    rename IntsAre _ _ => hI
    refine nameP hv fun ts e he ha => ?_
    subst he ha
    refine name3 lN fun V X D vs nn e1 e2 e3 e4 e5 => ?_
    subst e1 e2 e3 e4 e5
    obtain ⟨lA1, lA2, lA3⟩ := lA
    refine forL (σ := DS) (l := D) (nn := nn) (fun c => (V, listOf c.ws.toArray c.nn) :: (D, listOf vs.toArray nn) :: news) (fun c => [(Str.ofString "octets", .bytes b tb), (Str.ofString "types", .ref D), (Str.ofString "values", .ref V), (Str.ofString "at", .int c.place c.ta)])
      (fun pre c => DInv ks ts e pre c.xs c.place ∧ ValsAre c.ws c.xs) ⟨[], [], 0, _, _⟩ (by with_unfolding_all rfl) (List.mem_cons_of_mem _ List.mem_cons_self) hI lF lN (by ktr_rel) (by kst_all) ⟨DInv.start (by omega) (by omega), .nil⟩ ?_ ?_
    · clear lF lN
      rintro ⟨xs, ws, mm, at_, ta⟩ pre post k tk u h tk' own hE hoff ⟨hT, hS⟩ F₁ N₁
      dsimp only [ovr] at F₁ N₁ hT hS ⊢
      simp only [List.cons_append] at N₁
      k_fold
      obtain ⟨kI1, kI2, kI3, kI4⟩ := id hT
      obtain ⟨kb1, kb2⟩ := hbig k (by rw [hE]; simp)
      have hpl : pre.length < ts.length := by rw [hE]; simp
      have hwl : ws.length ≤ 4096 := by rw [hS.length]; omega
      have hwz : ws.toArray.size ≤ sizeLine := by rw [List.size_toArray, sizeLine_eq]; omega
      k_steps
      · rename News _ _ _ _ => nE
        (try simp only [List.push_toArray] at nE)
        refine' JF.endL (DS.mk _ _ _ _ _) (by assumption) nE (sub2 fun q h => List.mem_append_left _ h) (fun q h => List.mem_cons_of_mem _ (List.mem_cons_of_mem _ (List.mem_append_right _ h))) rfl (List.mem_cons_of_mem _ List.mem_cons_self) (by kst_all) (And.intro (DInv.step hT hE (by assumption) (by assumption) (by assumption)) (ValsAre.snoc (by assumption) hS))
      · exact (value_abs (by assumption) (by assumption)).elim
      · exact h3 (decode_n2 hv (DInv.out hT hE (by assumption))) _ _ _ _ _ _ (by assumption) (by assumption) (raisedK_sub (by assumption) (by ktr_rel))
    · clear lF lN
      rintro ⟨xs, ws, mm, at_, ta⟩ u h tk' ⟨hT, hS⟩ F₁ N₁
      dsimp only [ovr] at F₁ N₁ hT hS ⊢
      k_steps
      · exact h3 (decode_n3 hv (DInv.done hT) (by assumption)) _ _ _ _ _ _ (by assumption) (by assumption) (raisedK_sub (by assumption) (by ktr_rel))
      · have hwl : xs.length ≤ ks.length := by have := hT.len; omega
        exact h2 _ (decode_s hv (DInv.done hT) (by assumption)) hwl _ _ _ _ _ hS (by assumption) (news_sub1 (by assumption) (by ktr_rel)) (allLt_all lA3)
  · exact h3 (decode_n1 (by assumption)) _ _ _ _ _ _ (by assumption) (by assumption) (raisedK_sub (by assumption) (by ktr_rel))
structure KS where
  place : Int
  tp : Tok
  at_ : Int
  ta : Tok
  col : Int
  tc : Tok
  te : Tok

set_option maxHeartbeats 4000000 in
theorem col_ct {w : World} {loose : List Str} {mean : ExcName → Option Value} {mg mb : Str → Option Value}
   {dp un : Nat} {gd : Option (List Code)} {cn : Str} {cs : Scope} {a : Addr} {ccd : Value} {cl : List (Str × Addr)} {outer : List Env} {A₀ : Around} {base h₀ : Heap} {L : Addr} {m : Str → Option Value} {s : Shared} {Q E : Value → Shared → Prop} {news : List (Addr × Obj)}
   (B : Below A₀ base outer h₀) (F : Fr h₀ L s.heap m) (K : (hd.heap_39 w.params).In h₀) (N : News h₀ L s.heap news) (T : Top topProg loose mean mg mb h₀) (hk : cs.kind = .function)
   {b : Array UInt8} {tb : Tok} {i : Int} {ti : Tok} {ks : List Int} (hks : KBw.bInts b = ks) (hb : ks.length ≤ 4096) (hdp : dp + 32 < recursionLimit) (hun : un + 32 < cLine)
   (h2 : ∀ x, colOf ks i = some x → ∀ v h' tk', IsVal v x → Fr h₀ L h' m → News h₀ L h' news → Q v { s with heap := h', toks := tk' })
   (h3 : colOf ks i = none → ∀ e t vs g₂ h' tk', Fr h₀ L g₂ m → g₂.UpToSlots h' → RaisedK base (envX cn cs L a ccd cl :: outer) e (.ref 44) t vs news h' → E (.ref e) { s with heap := h', toks := tk' }) :
   wpAny (model (PySem.Challenge.rw_pb0446_01.row.prog) w) (ktrTop dp un gd cn cs L a ccd cl outer) (PySem.call (.ref 117) [.bytes b tb, .int i ti]) Q E s := by
  revert K; k_fill; intro K
  refine wpAny_call ?_
  k_dflt cell_enter
  have hin := bints_in hks
  k_steps
  · exact h3 (col_n2 (by assumption) (.inl (by assumption))) _ _ _ _ _ _ (by assumption) (by assumption) (raisedK_sub (by assumption) (by ktr_rel))
  · exact h3 (col_n2 (by assumption) (.inr (by assumption))) _ _ _ _ _ _ (by assumption) (by assumption) (raisedK_sub (by assumption) (by ktr_rel))
  · refine Stop.go ?_
    rename Fr _ _ _ _ => lF
    rename News _ _ _ _ => lN
    rename vread ks 0 = some _ => hv
    refine nameV hv fun e a₀ he ha => ?_
    subst he ha
    refine whileJ (σ := KS) (fun c => news) (fun c => [(Str.ofString "octets", .bytes b tb), (Str.ofString "i", .int i ti), (Str.ofString "end", .int e c.te), (Str.ofString "place", .int c.place c.tp), (Str.ofString "at", .int c.at_ c.ta), (Str.ofString "column", .int c.col c.tc)])
      (fun c => CoInv ks e i a₀ c.place c.at_ c.col) (fun c => (ks.length - c.place).toNat) ⟨_, _, _, _, _, _, _⟩ lF lN (by ktr_rel) (by kst_all) (CoInv.start (by omega) (by omega) (by omega) (by omega)) ?_ (by with_unfolding_all passes_own)
    clear lF lN
    rintro ⟨pl, tpl, at_, ta, col, tc, te⟩ u h tk hT F₁ N₁
    dsimp only [ovr] at F₁ N₁ hT ⊢
    k_fold
    obtain ⟨kI1, kI2, kI3, kI4, kI5, kI6⟩ := id hT
    have hcs := col_s (i := i) hv (by omega)
    k_steps
    · exact h2 _ (by rw [hcs, CoInv.val hT (by assumption) (by assumption) (by assumption)]; assumption) _ _ _ (by assumption) (by assumption) (news_sub (by assumption) (by ktr_rel))
    · exact h3 (by rw [hcs, CoInv.val hT (by assumption) (by assumption) (by assumption)]; assumption) _ _ _ _ _ _ (by assumption) (by assumption) (raisedK_sub (by assumption) (by ktr_rel))
    · rename News _ _ _ _ => nE
      refine' EndJ.mk' (KS.mk _ _ _ _ _ _ _) (by assumption) nE (by ktr_rel) (by kst_all) (CoInv.step hT (by assumption) (by assumption) (by assumption) (by assumption) (by assumption) (by assumption) (by assumption) (by assumption)) (by dsimp only; omega)
    · exact h3 (by rw [hcs, CoInv.n2 hT (by assumption) (by assumption) (by assumption) (by assumption)]) _ _ _ _ _ _ (by assumption) (by assumption) (raisedK_sub (by assumption) (by ktr_rel))
    · exact h3 (by rw [hcs, CoInv.n1 hT (by assumption) (by assumption)]) _ _ _ _ _ _ (by assumption) (by assumption) (raisedK_sub (by assumption) (by ktr_rel))
    · exact h2 _ (by rw [hcs, CoInv.done hT (by assumption)]) _ _ _ IsVal.none (by assumption) (by assumption)
  · exact h3 (col_n1 (by assumption)) _ _ _ _ _ _ (by assumption) (by assumption) (raisedK_sub (by assumption) (by ktr_rel))
set_option maxHeartbeats 4000000 in
theorem next_ct {w : World} {loose : List Str} {mean : ExcName → Option Value} {mg mb : Str → Option Value}
   {dp un : Nat} {gd : Option (List Code)} {cn : Str} {cs : Scope} {a : Addr} {ccd : Value} {cl : List (Str × Addr)} {outer : List Env} {A₀ : Around} {base h₀ : Heap} {L : Addr} {m : Str → Option Value} {s : Shared} {Q E : Value → Shared → Prop} {news : List (Addr × Obj)}
   (B : Below A₀ base outer h₀) (F : Fr h₀ L s.heap m) (K : (hd.heap_39 w.params).In h₀) (N : News h₀ L s.heap news) (T : Top topProg loose mean mg mb h₀) (hk : cs.kind = .function)
   {b : Array UInt8} {tb : Tok} {p : Int} {tp : Tok} {ks : List Int} (hks : KBw.bInts b = ks) (hb : ks.length ≤ 4096) (hp : 0 ≤ p) (hp2 : p < 2^62) (hdp : dp + 8 < recursionLimit) (hun : un + 8 < cLine)
   (h1 : vread ks p = none → ∀ h' tk', Fr h₀ L h' m → News h₀ L h' news → Q .none { s with heap := h', toks := tk' })
   (h2 : ∀ n q, vread ks p = some (n, q) → p < q → q ≤ ks.length → 0 ≤ n → n < 2 ^ 64 → ∀ x t1 t2 h' tk', Fr h₀ L h' m → News h₀ L h' ((x, listOf #[.int n t1, .int q t2] 0) :: news) → (∀ p ∈ news, p.1 < x) → Q (.ref x) { s with heap := h', toks := tk' }) :
   wpAny (model (PySem.Challenge.rw_pb0446_01.row.prog) w) (ktrTop dp un gd cn cs L a ccd cl outer) (PySem.call (.ref 164) [.bytes b tb, .int p tp]) Q E s := by
  revert K; k_fill; intro K
  refine wpAny_call ?_
  k_dflt cell_enter
  have hin := bints_in hks
  k_steps
  refine Stop.go ?_
  k_with "state" => first | exact NInv.start _ _ | exact NInv.next (by assumption) (by omega) (by omega) (by assumption) (by omega) (by assumption)
  k_state (fun pre n => NInv ks p pre n) "many_one"
  · obtain ⟨kS1, kS2⟩ := NInv.small kInv (by omega)
    have kE : kN = kPre.length := by omega
    k_steps
    · exact h1 (NInv.out kInv kE (by omega) (by assumption)) _ _ (by assumption) (news_sub (by assumption) (by ktr_rel))
    · have e := NInv.last kInv kE (by assumption) (by assumption)
      obtain ⟨e1, e2, e3, e4⟩ := vread_in hin e
      exact h2 _ _ e e1 e2 e3 e4 _ _ _ _ _ (by assumption) (news_sub1 (by assumption) (by ktr_rel)) (lt_sub (by assumption) (by ktr_rel))
    · have e := NInv.fin kInv kE (by omega) (by assumption) (by assumption) (by assumption)
      obtain ⟨e1, e2, e3, e4⟩ := vread_in hin e
      exact h2 _ _ e e1 e2 e3 e4 _ _ _ _ _ (by assumption) (news_sub1 (by assumption) (by ktr_rel)) (lt_sub (by assumption) (by ktr_rel))
  · k_steps
    exact h1 (NInv.done kInv (by rw [rangeKs_length]; rfl)) _ _ (by assumption) (by assumption)
set_option maxHeartbeats 4000000 in
theorem lsize_ct {w : World} {loose : List Str} {mean : ExcName → Option Value} {mg mb : Str → Option Value}
   {dp un : Nat} {gd : Option (List Code)} {cn : Str} {cs : Scope} {a : Addr} {ccd : Value} {cl : List (Str × Addr)} {outer : List Env} {A₀ : Around} {base h₀ : Heap} {L : Addr} {m : Str → Option Value} {s : Shared} {Q E : Value → Shared → Prop} {news : List (Addr × Obj)}
   (B : Below A₀ base outer h₀) (F : Fr h₀ L s.heap m) (K : (hd.heap_39 w.params).In h₀) (N : News h₀ L s.heap news) (T : Top topProg loose mean mg mb h₀) (hk : cs.kind = .function)
   {k : Int} {t : Tok} (hk0 : 0 ≤ k) (hk2 : k < 2 ^ 70) (hdp : dp + 8 < recursionLimit) (hun : un + 8 < cLine)
   (h1 : sizeOf k = none → ∀ h' tk', Fr h₀ L h' m → News h₀ L h' news → Q .none { s with heap := h', toks := tk' })
   (h2 : ∀ z, sizeOf k = some z → 0 ≤ z → ∀ t h' tk', Fr h₀ L h' m → News h₀ L h' news → Q (.int z t) { s with heap := h', toks := tk' }) :
   wpAny (model (PySem.Challenge.rw_pb0446_01.row.prog) w) (ktrTop dp un gd cn cs L a ccd cl outer) (PySem.call (.ref 171) [.int k t]) Q E s := by
  revert K; k_fill; intro K
  refine wpAny_call ?_
  k_dflt cell_enter
  k_steps
  · exact h2 _ (size_12 (by omega)) (by rw [Int.fdiv_eq_ediv_of_nonneg _ (by decide)]; omega) _ _ _ (by assumption) (by assumption)
  · rename News _ _ _ _ => nE
    have h12 : k < 12 := by omega
    refine item_litK (News.isList nE List.mem_cons_self) hk0 (by omega) (getD_at (d := .none) (by simp only [List.length_cons, List.length_nil]; omega)) ?_ (by with_unfolding_all rfl)
    k_steps
    have hcs : k = 0 ∨ k = 1 ∨ k = 2 ∨ k = 3 ∨ k = 4 ∨ k = 5 ∨ k = 6 ∨ k = 7 ∨ k = 8 ∨ k = 9 ∨ k = 10 ∨ k = 11 := by omega
    rcases hcs with hc | hc | hc | hc | hc | hc | hc | hc | hc | hc | hc | hc
    all_goals subst hc
    all_goals first
      | exact h2 _ (by decide) (by decide) _ _ _ (by assumption) (news_sub (by assumption) (by ktr_rel))
      | exact h1 (by decide) _ _ (by assumption) (news_sub (by assumption) (by ktr_rel))
local macro_rules | `(tactic| walk_at "callWith ref") => `(tactic| (k_here; (with_reducible show wpAny _ _ (callWith _ (Value.ref _) _ (backTo _ (starEach (_ :: _) _)) (backToKw _ (keywordEach (_ :: _) _))) _ _ _); kfb_any; k_dflt (refine' callWith_boundKW ?kfbN ?kfbM ?_; (case kfbN => k_asm); (case kfbM => k_mem); k_whole)))
local macro_rules | `(tactic| walk_at "call ref") => `(tactic| (k_here; (with_reducible show wpAny _ _ (PySem.call (Value.ref _) [Value.bytes _ _, Value.str _ _] _) _ _ _); kfb_any; k_dflt (refine call_fbS (KFB.at_of (by k_asm) (by k_mem)) (by assumption) (by first | assumption | omega | exact fb8 (by assumption) (by assumption)) ?_); intro _ _))
set_option maxHeartbeats 4000000 in
theorem lval_ct {w : World} {loose : List Str} {mean : ExcName → Option Value} {mg mb : Str → Option Value}
   {dp un : Nat} {gd : Option (List Code)} {cn : Str} {cs : Scope} {a : Addr} {ccd : Value} {cl : List (Str × Addr)} {outer : List Env} {A₀ : Around} {base h₀ : Heap} {L : Addr} {m : Str → Option Value} {s : Shared} {Q E : Value → Shared → Prop} {news : List (Addr × Obj)}
   (B : Below A₀ base outer h₀) (F : Fr h₀ L s.heap m) (K : (hd.heap_39 w.params).In h₀) (N : News h₀ L s.heap news) (T : Top topProg loose mean mg mb h₀) (hk : cs.kind = .function)
   {k : Int} {tk : Tok} {b : Array UInt8} {tb : Tok} {xs : List Int} (hks : KBw.bInts b = xs) (hb : xs.length ≤ 4096) (hk0 : 0 ≤ k) (hk2 : k < 2 ^ 70) (hx8 : k < 8 → xs.length ≤ 8) (hdp : dp + 24 < recursionLimit) (hun : un + 24 < cLine)
   (hn : lvalOf k xs = .none → ∀ h' tk', Fr h₀ L h' m → News h₀ L h' news → Q .none { s with heap := h', toks := tk' })
   (hi : ∀ i, lvalOf k xs = .int i → ∀ t h' tk', Fr h₀ L h' m → News h₀ L h' news → Q (.int i t) { s with heap := h', toks := tk' })
   (ht : ∀ x, lvalOf k xs = .text x → ∀ t h' tk', Fr h₀ L h' m → News h₀ L h' news → Q (.str (textOf x) t) { s with heap := h', toks := tk' })
   (hy : ∀ x, lvalOf k xs = .body x → ∀ b t h' tk', KBw.bInts b = x → Fr h₀ L h' m → News h₀ L h' news → Q (.bytes b t) { s with heap := h', toks := tk' }) :
   wpAny (model (PySem.Challenge.rw_pb0446_01.row.prog) w) (ktrTop dp un gd cn cs L a ccd cl outer) (PySem.call (.ref 185) [.int k tk, .bytes b tb]) Q E s := by
  revert K; k_fill; intro K
  refine wpAny_call ?_
  k_dflt cell_enter
  k_steps
  · exact hn (lval_0 (by assumption)) _ _ (by assumption) (by assumption)
  · omega
  · exact hn (lval_0 (by assumption)) _ _ (by assumption) (news_sub (by assumption) (by ktr_rel))
  · exact hi _ (lval_89 (by assumption) (by assumption)) _ _ _ (by assumption) (news_sub (by assumption) (by ktr_rel))
  · exact hi _ (lval_8 (by omega) (by assumption) (by assumption)) _ _ _ (by assumption) (news_sub (by assumption) (by ktr_rel))
  · exact ht _ (lval_t (by assumption) (by assumption) (by assumption)) _ _ _ (by assumption) (news_sub (by assumption) (by ktr_rel))
  · exact hy _ (lval_b (by assumption) (by assumption) (by assumption)) _ _ _ _ (by assumption) (by assumption) (news_sub (by assumption) (by ktr_rel))

theorem lval_ctv {w : World} {loose : List Str} {mean : ExcName → Option Value} {mg mb : Str → Option Value}
   {dp un : Nat} {gd : Option (List Code)} {cn : Str} {cs : Scope} {a : Addr} {ccd : Value} {cl : List (Str × Addr)} {outer : List Env} {A₀ : Around} {base h₀ : Heap} {L : Addr} {m : Str → Option Value} {s : Shared} {Q E : Value → Shared → Prop} {news : List (Addr × Obj)}
   (B : Below A₀ base outer h₀) (F : Fr h₀ L s.heap m) (K : (hd.heap_39 w.params).In h₀) (N : News h₀ L s.heap news) (T : Top topProg loose mean mg mb h₀) (hk : cs.kind = .function)
   {k : Int} {tk : Tok} {b : Array UInt8} {tb : Tok} {xs : List Int} (hks : KBw.bInts b = xs) (hb : xs.length ≤ 4096) (hk0 : 0 ≤ k) (hk2 : k < 2 ^ 70) (hx8 : k < 8 → xs.length ≤ 8) (hdp : dp + 24 < recursionLimit) (hun : un + 24 < cLine)
   (h2 : ∀ v h' tk', IsVal v (lvalOf k xs) → Fr h₀ L h' m → News h₀ L h' news → Q v { s with heap := h', toks := tk' }) :
   wpAny (model (PySem.Challenge.rw_pb0446_01.row.prog) w) (ktrTop dp un gd cn cs L a ccd cl outer) (PySem.call (.ref 185) [.int k tk, .bytes b tb]) Q E s :=
  lval_ct B F K N T hk hks hb hk0 hk2 hx8 hdp hun (fun e h' tk' F' N' => h2 _ _ _ (e ▸ .none) F' N') (fun i e t h' tk' F' N' => h2 _ _ _ (e ▸ .int) F' N') (fun x e t h' tk' F' N' => h2 _ _ _ (e ▸ .text) F' N') (fun x e b t h' tk' hb F' N' => h2 _ _ _ (e ▸ .body hb) F' N')
local macro_rules | `(tactic| walk_at "call ref") => `(tactic| (k_here; (with_reducible show wpAny _ _ (PySem.call (Value.ref 164) [Value.bytes _ _, Value.int _ _]) _ _ _); k_dflt (refine' next_ct ?kB ?kF ?kK ?kN ?kT ?kk ?hks ?hb ?hp ?hp2 ?kd ?ku ?_ ?_; (case kB => k_asm); walk_at "u5"); (case hks => assumption); (case hb => first | assumption | omega); (case hp => omega); (case hp2 => omega); walk_at "u6"))
local macro_rules | `(tactic| walk_at "call ref") => `(tactic| (k_here; (with_reducible show wpAny _ _ (PySem.call (Value.ref 171) [Value.int _ _]) _ _ _); k_dflt (refine' lsize_ct ?kB ?kF ?kK ?kN ?kT ?kk ?hk0 ?hk2 ?kd ?ku ?_ ?_; (case kB => k_asm); walk_at "u5"); (case hk0 => first | assumption | omega); (case hk2 => omega); walk_at "u6"))
local macro_rules | `(tactic| walk_at "call ref") => `(tactic| (k_here; (with_reducible show wpAny _ _ (PySem.call (Value.ref 185) [Value.int _ _, Value.bytes _ _]) _ _ _); k_dflt (refine' lval_ctv ?kB ?kF ?kK ?kN ?kT ?kk ?hks ?hb ?hk0 ?hk2 ?hx8 ?kd ?ku ?_; (case kB => k_asm); walk_at "u5"); (case hks => exact picked_body (by assumption)); (case hb => (rw [bodyOf_len (by omega) (by omega) (by omega)]; omega)); (case hk0 => first | assumption | omega); (case hk2 => omega); (case hx8 => exact body8 (by assumption) (by omega) (by omega) (by omega)); walk_at "u6"))
local macro_rules | `(tactic| walk_at "call ref") => `(tactic| (k_here; (with_reducible show wpAny _ _ (PySem.call (Value.ref _) (Value.int (List.getD _ _ _) _ :: _)) _ _ _); simp only [getD0, getD1]))
structure LS where
  ts : List Int
  xs : List Val
  ws : List Value
  nn : Nat
  place : Int
  tp : Tok
  at_ : Int
  ta : Tok
set_option maxHeartbeats 4000000 in
theorem lreadN_ct {w : World} {loose : List Str} {mean : ExcName → Option Value} {mg mb : Str → Option Value}
   {dp un : Nat} {gd : Option (List Code)} {cn : Str} {cs : Scope} {a : Addr} {ccd : Value} {cl : List (Str × Addr)} {outer : List Env} {A₀ : Around} {base h₀ : Heap} {L : Addr} {m : Str → Option Value} {s : Shared} {Q E : Value → Shared → Prop} {news : List (Addr × Obj)}
   (B : Below A₀ base outer h₀) (F : Fr h₀ L s.heap m) (K : (hd.heap_39 w.params).In h₀) (N : News h₀ L s.heap news) (T : Top topProg loose mean mg mb h₀) (hk : cs.kind = .function)
   {b : Array UInt8} {tb : Tok} {ks : List Int} (hks : KBw.bInts b = ks) (hb : ks.length ≤ 4096) (hdp : dp + 48 < recursionLimit) (hun : un + 48 < cLine)
   (h1 : decodeOf ks = none → ∀ h' tk', Fr h₀ L h' m → News h₀ L h' news → Q .none { s with heap := h', toks := tk' })
   (h2 : ∀ xs, decodeOf ks = some xs → xs.length ≤ ks.length → ∀ D ws nn h' tk', ValsAre ws xs → Fr h₀ L h' m → News h₀ L h' ((D, listOf ws.toArray nn) :: news) → (∀ p ∈ news, p.1 < D) → Q (.ref D) { s with heap := h', toks := tk' }) :
   wpAny (model (PySem.Challenge.rw_pb0446_01.row.prog) w) (ktrTop dp un gd cn cs L a ccd cl outer) (PySem.call (.ref 178) [.bytes b tb, .none]) Q E s := by
  revert K; k_fill; intro K
  refine wpAny_call ?_
  k_dflt cell_enter
  have hin := bints_in hks
  k_steps
  · exact h1 (lread_no (by assumption)) _ _ (by assumption) (by assumption)
  · exact h1 (lread_no2 (by assumption) (.inl (by assumption))) _ _ (by assumption) (news_sub (by assumption) (by ktr_rel))
  · exact h1 (lread_no2 (by assumption) (.inr (by assumption))) _ _ (by assumption) (news_sub (by assumption) (by ktr_rel))
  · refine Stop.go ?_
    rename Fr _ _ _ _ => lF
    rename News _ _ _ _ => lN
    rename _ < _ ∧ _ < _ ∧ AllLt _ news => lA
    rename _ < _ ∧ AllLt _ news => lB
    rename vread ks 0 = some _ => hv
    simp only [getD0, getD1] at lN lF
    refine nameT lN fun D V X s1 s2 e1 e2 e3 e4 e5 => ?_
    subst e1 e2 e3 e4 e5
    refine nameV hv fun e a₀ he ha => ?_
    subst he ha
    have hc1 : ¬ (ks.length : Int) < e := ‹¬ (ks.length : Int) < [e, a₀].getD (Int.toNat 0) 0›
    have hc2 : ¬ e < a₀ := ‹¬ [e, a₀].getD (Int.toNat 0) 0 < [e, a₀].getD (Int.toNat 1) 0›
    have hc : ¬ ((ks.length : Int) < e ∨ e < a₀) := by omega
    refine whileJ (σ := LS) (fun c => (V, listOf c.ws.toArray c.nn) :: (X, listOf #[.int e s1, .int a₀ s2] 0) :: news) (fun c => [(Str.ofString "octets_one", .bytes b tb), (Str.ofString "column", .none), (Str.ofString "told_one", .ref X), (Str.ofString "found_one", .ref V), (Str.ofString "place_one", .int c.place c.tp), (Str.ofString "at", .int c.at_ c.ta)])
      (fun c => LInv ks e a₀ c.ts c.xs c.place c.at_ ∧ ValsAre c.ws c.xs) (fun c => (ks.length - c.place).toNat) ⟨[], [], [], 0, _, _, _, _⟩ lF lN (by ktr_rel) (by kst_all) ⟨LInv.start (by omega) (by omega) (by omega) (by omega), .nil⟩ ?_ (by with_unfolding_all passes_own)
    clear lF lN
    rintro ⟨ts, xs, ws, nn, pl, tpl, at_, ta⟩ u h tk ⟨hT, hS⟩ F₁ N₁
    dsimp only [ovr] at F₁ N₁ hT hS ⊢
    k_fold
    obtain ⟨⟨kI1, kI2, kI3, kI4, kI5⟩, kJ1, kJ2, kJ3, kJ4⟩ := id hT
    have hwl : ws.length ≤ 4096 := by rw [hS.length]; omega
    have hwz : ws.toArray.size ≤ sizeLine := by rw [List.size_toArray, sizeLine_eq]; omega
    k_steps
    · exact h1 (LInv.novar hT hv hc ‹pl < [e, a₀].getD (Int.toNat 0) 0› (by assumption)) _ _ (by assumption) (news_sub (by assumption) (by ktr_rel))
    · exact h1 (LInv.out hT hv hc ‹pl < [e, a₀].getD (Int.toNat 0) 0› (by assumption) (value_no (by assumption))) _ _ (by assumption) (news_sub (by assumption) (by ktr_rel))
    · exact h1 (LInv.out hT hv hc ‹pl < [e, a₀].getD (Int.toNat 0) 0› (by assumption) (value_cut (by assumption) (by assumption))) _ _ (by assumption) (news_sub (by assumption) (by ktr_rel))
    · (try dsimp only [TurnJ])
      rename News _ _ _ _ => nE
      rename Fr _ _ _ _ => nF
      have hp : pl < e := ‹pl < [e, a₀].getD (Int.toNat 0) 0›
      (try simp only [List.push_toArray] at nE)
      (try simp only [getD0, getD1] at nF)
      refine' EndJ.mk' (LS.mk _ _ _ _ _ _ _ _) nF nE (fun q h => List.mem_cons_of_mem _ (List.mem_cons_of_mem _ h)) (by kst_all) (And.intro (LInv.step hin hT (by assumption) (by assumption) (by assumption) (by assumption) (by assumption) (by assumption) (by assumption) (by assumption) (by assumption)) (ValsAre.snoc (by assumption) hS)) (by dsimp only; omega)

    · have hxl : xs.length ≤ ks.length := by rw [kJ4]; omega
      exact h2 _ (LInv.done hT hv hc ‹¬ pl < [e, a₀].getD (Int.toNat 0) 0› ‹pl = [e, a₀].getD (Int.toNat 0) 0› (by assumption)) hxl _ _ _ _ _ hS (by assumption) (news_sub1 (by assumption) (by ktr_rel)) (allLt_all lB.2)
    · exact h1 (LInv.end2 hT hv hc ‹¬ pl < [e, a₀].getD (Int.toNat 0) 0› (by assumption)) _ _ (by assumption) (news_sub (by assumption) (by ktr_rel))
    · exact h1 (LInv.end1 hT hv hc ‹¬ pl < [e, a₀].getD (Int.toNat 0) 0› ‹pl ≠ [e, a₀].getD (Int.toNat 0) 0›) _ _ (by assumption) (news_sub (by assumption) (by ktr_rel))
theorem fit63 {ws : List Value} (h : ws.length ≤ 4096) : ((ws.toArray.size : Nat) : Int) < 2 ^ 63 := by rw [List.size_toArray]; omega
local macro_rules | `(tactic| walk_at "call builtin:len") => `(tactic| (k_here; (with_reducible show wpAny _ _ (PySem.call (Value.builtin "len") [Value.ref _]) _ _ _); k_dflt (refine PyProof.Rows.len_list (News.isList (by k_asm) (by k_mem)) (fit63 (by with_reducible assumption)) ?_); (try simp only [List.size_toArray])))
structure LC where
  ws : List Value
  nn : Nat
  place : Int
  tp : Tok
  at_ : Int
  ta : Tok
set_option maxHeartbeats 4000000 in
theorem lreadC_ct {w : World} {loose : List Str} {mean : ExcName → Option Value} {mg mb : Str → Option Value}
   {dp un : Nat} {gd : Option (List Code)} {cn : Str} {cs : Scope} {a : Addr} {ccd : Value} {cl : List (Str × Addr)} {outer : List Env} {A₀ : Around} {base h₀ : Heap} {L : Addr} {m : Str → Option Value} {s : Shared} {Q E : Value → Shared → Prop} {news : List (Addr × Obj)}
   (B : Below A₀ base outer h₀) (F : Fr h₀ L s.heap m) (K : (hd.heap_39 w.params).In h₀) (N : News h₀ L s.heap news) (T : Top topProg loose mean mg mb h₀) (hk : cs.kind = .function)
   {b : Array UInt8} {tb : Tok} {i : Int} {ti : Tok} {ks : List Int} (hks : KBw.bInts b = ks) (hb : ks.length ≤ 4096) (hdp : dp + 48 < recursionLimit) (hun : un + 48 < cLine)
   (h1 : colOf ks i = none → ∀ h' tk', Fr h₀ L h' m → News h₀ L h' news → Q .none { s with heap := h', toks := tk' })
   (h2 : ∀ x, colOf ks i = some x → ∀ D v nn h' tk', IsVal v x → Fr h₀ L h' m → News h₀ L h' ((D, listOf #[v] nn) :: news) → Q (.ref D) { s with heap := h', toks := tk' }) :
   wpAny (model (PySem.Challenge.rw_pb0446_01.row.prog) w) (ktrTop dp un gd cn cs L a ccd cl outer) (PySem.call (.ref 178) [.bytes b tb, .int i ti]) Q E s := by
  revert K; k_fill; intro K
  refine wpAny_call ?_
  k_dflt cell_enter
  have hin := bints_in hks
  k_steps
  · exact h1 (col_n1 (by assumption)) _ _ (by assumption) (by assumption)
  · exact h1 (col_n2 (by assumption) (.inl (by assumption))) _ _ (by assumption) (news_sub (by assumption) (by ktr_rel))
  · exact h1 (col_n2 (by assumption) (.inr (by assumption))) _ _ (by assumption) (news_sub (by assumption) (by ktr_rel))
  · refine Stop.go ?_
    rename Fr _ _ _ _ => lF
    rename News _ _ _ _ => lN
    rename _ < _ ∧ _ < _ ∧ AllLt _ news => lA
    rename _ < _ ∧ AllLt _ news => lB
    rename vread ks 0 = some _ => hv
    simp only [getD0, getD1] at lN lF
    refine nameT lN fun D V X s1 s2 e1 e2 e3 e4 e5 => ?_
    subst e1 e2 e3 e4 e5
    refine nameV hv fun e a₀ he ha => ?_
    subst he ha
    have hc1 : ¬ (ks.length : Int) < e := ‹¬ (ks.length : Int) < [e, a₀].getD (Int.toNat 0) 0›
    have hc2 : ¬ e < a₀ := ‹¬ [e, a₀].getD (Int.toNat 0) 0 < [e, a₀].getD (Int.toNat 1) 0›
    have hc : ¬ ((ks.length : Int) < e ∨ e < a₀) := by omega
    have hcs := col_s (i := i) hv hc
    refine whileJ (σ := LC) (fun c => (V, listOf c.ws.toArray c.nn) :: (X, listOf #[.int e s1, .int a₀ s2] 0) :: news) (fun c => [(Str.ofString "octets_one", .bytes b tb), (Str.ofString "column", .int i ti), (Str.ofString "told_one", .ref X), (Str.ofString "found_one", .ref V), (Str.ofString "place_one", .int c.place c.tp), (Str.ofString "at", .int c.at_ c.ta)])
      (fun c => CoInv ks e i a₀ c.place c.at_ c.ws.length) (fun c => (ks.length - c.place).toNat) ⟨[], 0, _, _, _, _⟩ lF lN (by ktr_rel) (by kst_all) (CoInv.start (by omega) (by omega) (by omega) (by omega)) ?_ (by with_unfolding_all passes_own)
    clear lF lN
    rintro ⟨ws, nn, pl, tpl, at_, ta⟩ u h tk hT F₁ N₁
    dsimp only [ovr] at F₁ N₁ hT ⊢
    k_fold
    obtain ⟨kI1, kI2, kI3, kI4, kI5, kI6⟩ := id hT
    have hwl : ws.length ≤ 4096 := by omega
    have hwz : ws.toArray.size ≤ sizeLine := by rw [List.size_toArray, sizeLine_eq]; omega
    k_steps
    · exact h1 (by rw [hcs, CoInv.n1 hT ‹pl < [e, a₀].getD (Int.toNat 0) 0› (by assumption)]) _ _ (by assumption) (news_sub (by assumption) (by ktr_rel))
    · exact h1 (by
        by_cases hi : (ws.length : Int) = i
        · rw [hcs, CoInv.val hT ‹pl < [e, a₀].getD (Int.toNat 0) 0› (by assumption) hi]; exact value_no (by assumption)
        · rw [hcs, CoInv.n2 hT ‹pl < [e, a₀].getD (Int.toNat 0) 0› (by assumption) hi (by assumption)]) _ _ (by assumption) (news_sub (by assumption) (by ktr_rel))
    · exact h1 (by rw [hcs, CoInv.val hT ‹pl < [e, a₀].getD (Int.toNat 0) 0› (by assumption) (by omega)]; exact value_cut (by assumption) (by assumption)) _ _ (by assumption) (news_sub (by assumption) (by ktr_rel))
    · exact h2 _ (by rw [hcs, CoInv.val hT ‹pl < [e, a₀].getD (Int.toNat 0) 0› (by assumption) (by omega), value_lval hin kI5 (by assumption) (by assumption) (by assumption) (by omega)]) _ _ _ _ _ (by assumption) (by assumption) (last_news (by assumption) (by ktr_rel))
    · rename News _ _ _ _ => nE
      rename Fr _ _ _ _ => nF
      have hp : pl < e := ‹pl < [e, a₀].getD (Int.toNat 0) 0›
      (try simp only [List.push_toArray] at nE)
      (try simp only [getD0, getD1] at nF)
      have hst := CoInv.step hT hp (by assumption) (by omega) (by assumption) (by assumption) (by assumption) (by assumption) (by assumption)
      refine' EndJ.mk' (LC.mk _ _ _ _ _ _) nF nE (fun q h => List.mem_cons_of_mem _ (List.mem_cons_of_mem _ h)) (by kst_all) (by rw [List.length_append, List.length_singleton]; exact hst) (by dsimp only; omega)
    · exact h2 _ (by rw [hcs, CoInv.done hT ‹¬ pl < [e, a₀].getD (Int.toNat 0) 0›]) _ _ _ _ _ IsVal.none (by assumption) (news_sub1 (by assumption) (by ktr_rel))
local macro_rules | `(tactic| walk_at "call builtin:len") => `(tactic| (k_here; (with_reducible show wpAny _ _ (PySem.call (Value.builtin "len") [Value.ref _]) _ _ _); k_dflt (refine len_ints (by k_asm) (by assumption) (by assumption) (by omega) ?_); intro _ _))
local macro_rules | `(tactic| walk_at "subscriptTail Name Name ref int") => `(tactic| (k_here; (with_reducible show wpAny _ _ (subscriptTail _ _ (Value.ref _) (Value.int _ _)) _ _ _); k_dflt (refine' item_ints ?jF ?jS ?jI ?jl ?j0 ?jk ?_; (case jF => k_asm); (case jS => assumption); (case jI => assumption)); (case jl => omega); (case j0 => omega); (case jk => omega); intro _))
set_option maxHeartbeats 4000000 in
theorem pool_ct {w : World} {loose : List Str} {mean : ExcName → Option Value} {mg mb : Str → Option Value}
   {dp un : Nat} {gd : Option (List Code)} {cn : Str} {cs : Scope} {a : Addr} {ccd : Value} {cl : List (Str × Addr)} {outer : List Env} {A₀ : Around} {base h₀ : Heap} {L : Addr} {m : Str → Option Value} {s : Shared} {Q E : Value → Shared → Prop} {news : List (Addr × Obj)}
   (B : Below A₀ base outer h₀) (F : Fr h₀ L s.heap m) (K : (hd.heap_39 w.params).In h₀) (N : News h₀ L s.heap news) (T : Top topProg loose mean mg mb h₀) (hk : cs.kind = .function)
   {S : Addr} {vs : List Value} {ns : List Int} {k : Int} {tk : Tok} (hS : h₀.IsList S vs.toArray) (hI : IntsAre vs ns) (hl : ns.length ≤ 63) (hk0 : 0 ≤ k) (hk2 : k ≤ 2) (hdp : dp + 8 < recursionLimit) (hun : un + 8 < cLine)
   (h1 : ∀ x a b t1 t2 h' tk', 0 ≤ a → 0 ≤ b → b < 2147483647 → Fr h₀ L h' m → News h₀ L h' ((x, listOf #[.int a t1, .int b t2] 0) :: news) → (∀ p ∈ news, p.1 < x) → Q (.ref x) { s with heap := h', toks := tk' }) :
   wpAny (model (PySem.Challenge.rw_pb0446_01.row.prog) w) (ktrTop dp un gd cn cs L a ccd cl outer) (PySem.call (.ref 124) [.ref S, .int k tk]) Q E s := by
  revert K; k_fill; intro K
  refine wpAny_call ?_
  k_dflt cell_enter
  rename Fr h₀ L _ m => FG
  have hS2 := Fr.lst FG hS
  k_steps
  all_goals refine h1 _ _ _ _ _ _ _ ?_ ?_ ?_ (by assumption) (by assumption) (by assumption)
  all_goals first | exact poolA | exact poolB | exact poolC | trace_state
local macro_rules | `(tactic| k_all) => `(tactic| with_reducible assumption)
local macro_rules | `(tactic| walk_at "binaryOp Mult int int") => `(tactic| (k_here; simp only [getD0, getD1]; (refine mul_int ?_ mulM)))
theorem news_mid {h₀ h : Heap} {L : Addr} {x : Addr × Obj} {pre post : List (Addr × Obj)} (N : News h₀ L h (pre ++ x :: post)) : News h₀ L h (x :: (pre ++ post)) := fun q hq => N q (by
  simp only [List.mem_cons, List.mem_append] at hq ⊢
  exact Or.elim hq (fun h => Or.inr (Or.inl h)) (fun h => Or.elim h Or.inl (fun h => Or.inr (Or.inr h))))
theorem news_mid' {h₀ h : Heap} {L : Addr} {x : Addr × Obj} {pre post : List (Addr × Obj)} (N : News h₀ L h (x :: (pre ++ post))) : News h₀ L h (pre ++ x :: post) := fun q hq => N q (by
  simp only [List.mem_cons, List.mem_append] at hq ⊢
  exact Or.elim hq (fun h => Or.inr (Or.inl h)) (fun h => Or.elim h Or.inl (fun h => Or.inr (Or.inr h))))
theorem all_app {P : Addr × Obj → Prop} {l r : List (Addr × Obj)} (a : ∀ p ∈ l, P p) (b : ∀ p ∈ r, P p) : ∀ p ∈ l ++ r, P p := fun p hp => (List.mem_append.mp hp).elim (a p) (b p)
set_option maxHeartbeats 4000000 in
theorem take0 {w : World} {loose : List Str} {mean : ExcName → Option Value} {mg mb : Str → Option Value}
   {dp un : Nat} {gd : Option (List Code)} {cn : Str} {cs : Scope} {a : Addr} {ccd : Value} {cl : List (Str × Addr)} {outer : List Env} {A₀ : Around} {base h₀ : Heap} {L : Addr} {m : Str → Option Value} {s : Shared} {Q E : Value → Shared → Prop} {news : List (Addr × Obj)} {S : Addr} {a₁ b₁ n : Int} {t1 t2 tn : Tok} {nn : Nat}
   (B : Below A₀ base outer h₀) (F : Fr h₀ L s.heap m) (K : (hd.heap_39 w.params).In h₀) (N : News h₀ L s.heap ((S, listOf #[.int a₁ t1, .int b₁ t2] nn) :: news)) (T : Top topProg loose mean mg mb h₀) (hk : cs.kind = .function)
   (hne : ∀ p ∈ news, p.1 ≠ S) (a0 : 0 ≤ a₁) (b0 : 0 ≤ b₁) (b1 : b₁ < 2147483647) (hn0 : 0 < n) (hn1 : n ≤ 4096) (hdp : dp + 8 < recursionLimit) (hun : un + 8 < cLine)
   (h1 : ∀ a b d t1 t2 td nn h' tk', 0 ≤ a → 0 ≤ b → b < 2147483647 → 0 ≤ d → d < n → Fr h₀ L h' m → News h₀ L h' ((S, listOf #[.int a t1, .int b t2] nn) :: news) → Q (.int d td) { s with heap := h', toks := tk' }) :
   wpAny (model (PySem.Challenge.rw_pb0446_01.row.prog) w) (ktrTop dp un gd cn cs L a ccd cl outer) (PySem.call (.ref 131) [.ref S, .int n tn]) Q E s := by
  revert K; k_fill; intro K
  refine wpAny_call ?_
  k_dflt cell_enter
  k_steps
  · refine h1 _ _ _ _ _ _ _ _ _ ?_ ?_ ?_ ?_ ?_ (by assumption) (by assumption)
    all_goals first | exact fdivB hn0 a0 | exact b0 | exact b1 | exact fmodB hn0 | exact fmodC hn0
  · refine h1 _ _ _ _ _ _ _ _ _ ?_ ?_ ?_ ?_ ?_ (by assumption) (by assumption)
    all_goals first | exact a0 | exact poolB | exact poolC | exact fmodB hn0 | exact fmodC hn0

set_option maxHeartbeats 4000000 in
theorem take_ct {w : World} {loose : List Str} {mean : ExcName → Option Value} {mg mb : Str → Option Value}
   {dp un : Nat} {gd : Option (List Code)} {cn : Str} {cs : Scope} {a : Addr} {ccd : Value} {cl : List (Str × Addr)} {outer : List Env} {A₀ : Around} {base h₀ : Heap} {L : Addr} {m : Str → Option Value} {s : Shared} {Q E : Value → Shared → Prop} {news : List (Addr × Obj)} {S : Addr} {a₁ b₁ n : Int} {t1 t2 tn : Tok} {nn : Nat} {g : Obj → List (Addr × Obj)}
   (B : Below A₀ base outer h₀) (F : Fr h₀ L s.heap m) (K : (hd.heap_39 w.params).In h₀) (N : News h₀ L s.heap news) (T : Top topProg loose mean mg mb h₀) (hk : cs.kind = .function)
   (U : UpdF S (listOf #[.int a₁ t1, .int b₁ t2] nn) news g) (a0 : 0 ≤ a₁) (b0 : 0 ≤ b₁) (b1 : b₁ < 2147483647) (hn0 : 0 < n) (hn1 : n ≤ 4096) (hdp : dp + 8 < recursionLimit) (hun : un + 8 < cLine)
   (h1 : ∀ a b d t1 t2 td nn h' tk', 0 ≤ a → 0 ≤ b → b < 2147483647 → 0 ≤ d → d < n → Fr h₀ L h' m → News h₀ L h' (g (listOf #[.int a t1, .int b t2] nn)) → Q (.int d td) { s with heap := h', toks := tk' }) :
   wpAny (model (PySem.Challenge.rw_pb0446_01.row.prog) w) (ktrTop dp un gd cn cs L a ccd cl outer) (PySem.call (.ref 131) [.ref S, .int n tn]) Q E s := by
  obtain ⟨pre, post, rfl, hg, hp, hq⟩ := U.split
  refine take0 (news := pre ++ post) B F K (news_mid N) T hk (all_app hp hq) a0 b0 b1 hn0 hn1 hdp hun ?_
  intro a b d t1 t2 td nn h' tk' q1 q2 q3 q4 q5 F' N'
  exact h1 a b d t1 t2 td nn h' tk' q1 q2 q3 q4 q5 F' (by rw [hg]; exact news_mid' N')
local macro_rules | `(tactic| walk_at "call ref") => `(tactic| (k_here; (with_reducible show wpAny _ _ (PySem.call (Value.ref 131) [Value.ref _, Value.int _ _]) _ _ _); k_dflt (refine' take_ct ?kB ?kF ?kK ?kN ?kT ?kk ?U ?a0 ?b0 ?b1 ?hn0 ?hn1 ?kd ?ku ?_; (case kB => k_asm); walk_at "u5"); (case U => k_updF); (case a0 => first | assumption | omega); (case b0 => first | assumption | omega); (case b1 => first | assumption | omega); (case hn0 => first | assumption | omega); (case hn1 => first | assumption | omega); walk_at "u6"))
theorem news_hd {h₀ h : Heap} {L : Addr} {x y : Addr × Obj} {pre post : List (Addr × Obj)} (hm : x ∈ pre ++ y :: post) (N : News h₀ L h (y :: (pre ++ post))) : News h₀ L h (x :: y :: (pre ++ post)) := fun q hq => by
  have hx : x ∈ y :: (pre ++ post) := by
    simp only [List.mem_cons, List.mem_append] at hm ⊢
    exact Or.elim hm (fun h => Or.inr (Or.inl h)) (fun h => Or.elim h Or.inl (fun h => Or.inr (Or.inr h)))
  exact N q ((List.mem_cons.mp hq).elim (fun e => e ▸ hx) id)
set_option maxHeartbeats 4000000 in
theorem one0 {w : World} {loose : List Str} {mean : ExcName → Option Value} {mg mb : Str → Option Value}
   {dp un : Nat} {gd : Option (List Code)} {cn : Str} {cs : Scope} {a : Addr} {ccd : Value} {cl : List (Str × Addr)} {outer : List Env} {A₀ : Around} {base h₀ : Heap} {L : Addr} {m : Str → Option Value} {s : Shared} {Q E : Value → Shared → Prop} {news : List (Addr × Obj)} {S T₁ : Addr} {a₁ b₁ : Int} {t1 t2 : Tok} {nn nt : Nat} {vs : List Value} {ns : List Int}
   (B : Below A₀ base outer h₀) (F : Fr h₀ L s.heap m) (K : (hd.heap_39 w.params).In h₀) (N : News h₀ L s.heap ((T₁, listOf vs.toArray nt) :: (S, listOf #[.int a₁ t1, .int b₁ t2] nn) :: news)) (T : Top topProg loose mean mg mb h₀) (hk : cs.kind = .function)
   (hne : ∀ p ∈ news, p.1 ≠ S) (hTS : T₁ ≠ S) (hI : IntsAre vs ns) (hl0 : 0 < ns.length) (hl1 : ns.length ≤ 4096) (a0 : 0 ≤ a₁) (b0 : 0 ≤ b₁) (b1 : b₁ < 2147483647) (hdp : dp + 16 < recursionLimit) (hun : un + 16 < cLine)
   (h1 : ∀ a b d t1 t2 td nn h' tk', 0 ≤ a → 0 ≤ b → b < 2147483647 → d ∈ ns → Fr h₀ L h' m → News h₀ L h' ((S, listOf #[.int a t1, .int b t2] nn) :: news) → Q (.int d td) { s with heap := h', toks := tk' }) :
   wpAny (model (PySem.Challenge.rw_pb0446_01.row.prog) w) (ktrTop dp un gd cn cs L a ccd cl outer) (PySem.call (.ref 138) [.ref S, .ref T₁]) Q E s := by
  revert K; k_fill; intro K
  refine wpAny_call ?_
  k_dflt cell_enter
  have hvn : vs.length = ns.length := hI.length
  have hv9 : vs.length ≤ 4096 := by omega
  k_steps
  refine h1 _ _ _ _ _ _ _ _ _ ?_ ?_ ?_ (getD_in (by assumption) (by omega)) (by assumption) (news_sub (by assumption) (fun q h => List.mem_cons_of_mem _ h))
  all_goals assumption

set_option maxHeartbeats 4000000 in
theorem one_ct {w : World} {loose : List Str} {mean : ExcName → Option Value} {mg mb : Str → Option Value}
   {dp un : Nat} {gd : Option (List Code)} {cn : Str} {cs : Scope} {a : Addr} {ccd : Value} {cl : List (Str × Addr)} {outer : List Env} {A₀ : Around} {base h₀ : Heap} {L : Addr} {m : Str → Option Value} {s : Shared} {Q E : Value → Shared → Prop} {news : List (Addr × Obj)} {S T₁ : Addr} {a₁ b₁ : Int} {t1 t2 : Tok} {nn nt : Nat} {vs : List Value} {ns : List Int} {g : Obj → List (Addr × Obj)}
   (B : Below A₀ base outer h₀) (F : Fr h₀ L s.heap m) (K : (hd.heap_39 w.params).In h₀) (N : News h₀ L s.heap news) (T : Top topProg loose mean mg mb h₀) (hk : cs.kind = .function)
   (U : UpdF S (listOf #[.int a₁ t1, .int b₁ t2] nn) news g) (hm : (T₁, listOf vs.toArray nt) ∈ news) (hTS : T₁ ≠ S) (hI : IntsAre vs ns) (hl0 : 0 < ns.length) (hl1 : ns.length ≤ 4096) (a0 : 0 ≤ a₁) (b0 : 0 ≤ b₁) (b1 : b₁ < 2147483647) (hdp : dp + 16 < recursionLimit) (hun : un + 16 < cLine)
   (h1 : ∀ a b d t1 t2 td nn h' tk', 0 ≤ a → 0 ≤ b → b < 2147483647 → d ∈ ns → Fr h₀ L h' m → News h₀ L h' (g (listOf #[.int a t1, .int b t2] nn)) → Q (.int d td) { s with heap := h', toks := tk' }) :
   wpAny (model (PySem.Challenge.rw_pb0446_01.row.prog) w) (ktrTop dp un gd cn cs L a ccd cl outer) (PySem.call (.ref 138) [.ref S, .ref T₁]) Q E s := by
  obtain ⟨pre, post, rfl, hg, hp, hq⟩ := U.split
  refine one0 (news := pre ++ post) B F K (news_hd hm (news_mid N)) T hk (all_app hp hq) hTS hI hl0 hl1 a0 b0 b1 hdp hun ?_
  intro a b d t1 t2 td nn h' tk' q1 q2 q3 q4 F' N'
  exact h1 a b d t1 t2 td nn h' tk' q1 q2 q3 q4 F' (by rw [hg]; exact news_mid' N')
local macro_rules | `(tactic| walk_at "exec While BoolOp cons nil") => `(tactic| (refine Stop.mk ?_))
local macro_rules | `(tactic| walk_at "call type:bytes") => `(tactic| (k_here; (with_reducible show wpAny _ _ (PySem.call (Value.type "bytes") [Value.ref _]) _ _ _); k_dflt (refine' KBa.make_K ?kbaF ?kbaN ?kbah ?kbal ?kbai ?kbar ?kban ?_; (case kbaF => k_asm); (case kbaN => k_asm); (case kbah => rfl); (case kbal => exact News.isList (by k_asm) (by k_mem)); (case kbai => assumption); (case kbar => assumption)); (case kban => omega); intro _ _ _ F' N' kbaIn))
structure NS where
  V : Addr
  vs : List Value
  ns : List Int
  nn : Nat
  many : Int
  tm : Tok
  extra : Int
  te : Tok
structure NumInv (B : Int) (vs : List Value) (ns : List Int) (many extra : Int) : Prop where
  isI : IntsAre vs ns
  inb : KBa.In ns
  m0 : 0 ≤ many
  e0 : 0 ≤ extra
  l0 : 0 < ns.length
  l1 : (ns.length : Int) + many + extra ≤ B
theorem NumInv.start {n e : Int} {t : Tok} (n0 : 0 ≤ n) (e0 : 0 ≤ e) : NumInv (1 + n / 128 + e) [.int (n.fmod 128) t] [n.fmod 128] (n.fdiv 128) e := by
  rw [Int.fdiv_eq_ediv_of_nonneg _ (by decide), Int.fmod_eq_emod_of_nonneg _ (by decide)]
  refine ⟨.cons _ _ .nil, fun q hq => ?_, by omega, e0, Nat.zero_lt_one, by simp only [List.length_cons, List.length_nil]; omega⟩
  rw [List.mem_singleton.mp hq]
  omega
theorem NumInv.step {B : Int} {vs ws : List Value} {ns : List Int} {many extra : Int} (h : NumInv B vs ns many extra) (hw : IntsAre ws ([128 + many.fmod 128] ++ ns)) (hx : 0 < many ∨ 0 < extra) : NumInv B ws ([128 + many.fmod 128] ++ ns) (many.fdiv 128) (extra - if (many == 0) = true then 1 else 0) := by
  have hs : (0 < many ∧ (extra - if (many == 0) = true then 1 else 0) = extra) ∨ (many = 0 ∧ 0 < extra ∧ (extra - if (many == 0) = true then 1 else 0) = extra - 1) := by
    by_cases hm : many = 0
    · subst hm
      exact .inr ⟨rfl, by omega, rfl⟩
    · have : (many == 0) = false := by simpa using hm
      rw [this]
      have := h.m0
      exact .inl ⟨by omega, by simp⟩
  generalize (extra - if (many == 0) = true then 1 else 0) = x at hs ⊢
  obtain ⟨h1, h2, h3, h4, h5, h6⟩ := h
  rw [Int.fmod_eq_emod_of_nonneg _ (by decide)] at hw ⊢
  rw [Int.fdiv_eq_ediv_of_nonneg _ (by decide)]
  refine ⟨hw, fun q hq => ?_, by omega, by omega, by simp, by simp only [List.length_cons, List.length_append, List.length_nil]; omega⟩
  rcases List.mem_cons.mp hq with e | hq
  · subst e; omega
  · exact h2 q hq
theorem NumInv.less {B : Int} {vs : List Value} {ns : List Int} {many extra : Int} (h : NumInv B vs ns many extra) (hx : 0 < many ∨ 0 < extra) : (many.fdiv 128 + (extra - if (many == 0) = true then 1 else 0)).toNat < (many + extra).toNat := by
  rw [Int.fdiv_eq_ediv_of_nonneg _ (by decide)]
  have h1 := h.m0
  have h2 := h.e0
  by_cases hm : many = 0
  · subst hm
    simp
    omega
  · have : (many == 0) = false := by simpa using hm
    rw [this]
    simp
    omega
theorem sub_hd {α : Type} {a : α} {l r : List α} (h : ∀ q ∈ l, q ∈ a :: r) : ∀ q ∈ a :: l, q ∈ a :: r := fun q hq => (List.mem_cons.mp hq).elim (fun e => e ▸ List.mem_cons_self) (h q)
set_option maxHeartbeats 4000000 in
theorem number_ct {w : World} {loose : List Str} {mean : ExcName → Option Value} {mg mb : Str → Option Value}
   {dp un : Nat} {gd : Option (List Code)} {cn : Str} {cs : Scope} {a : Addr} {ccd : Value} {cl : List (Str × Addr)} {outer : List Env} {A₀ : Around} {base h₀ : Heap} {L : Addr} {m : Str → Option Value} {s : Shared} {Q E : Value → Shared → Prop} {news : List (Addr × Obj)}
   (B : Below A₀ base outer h₀) (F : Fr h₀ L s.heap m) (K : (hd.heap_39 w.params).In h₀) (N : News h₀ L s.heap news) (T : Top topProg loose mean mg mb h₀) (hk : cs.kind = .function)
   {n e : Int} {tn te : Tok} (n0 : 0 ≤ n) (n1 : n ≤ 4096) (e0 : 0 ≤ e) (e1 : e ≤ 8) (hdp : dp + 8 < recursionLimit) (hun : un + 8 < cLine)
   (h1 : ∀ ks b t h' tk', KBw.bInts b = ks → 0 < ks.length → (ks.length : Int) ≤ 1 + n / 128 + e → Fr h₀ L h' m → News h₀ L h' news → Q (.bytes b t) { s with heap := h', toks := tk' }) :
   wpAny (model (PySem.Challenge.rw_pb0446_01.row.prog) w) (ktrTop dp un gd cn cs L a ccd cl outer) (PySem.call (.ref 145) [.int n tn, .int e te]) Q E s := by
  revert K; k_fill; intro K
  refine wpAny_call ?_
  k_dflt cell_enter
  k_steps
  refine Stop.go ?_
  rename Fr _ _ _ _ => lF
  rename News _ _ _ _ => lN
  refine whileJ (σ := NS) (fun c => (c.V, listOf c.vs.toArray c.nn) :: news) (fun c => [(Str.ofString "many_one", .int c.many c.tm), (Str.ofString "extra", .int c.extra c.te), (Str.ofString "found_one", .ref c.V)])
    (fun c => NumInv (1 + n / 128 + e) c.vs c.ns c.many c.extra) (fun c => (c.many + c.extra).toNat) ⟨_, [_], [_], _, _, _, _, _⟩ lF lN (by ktr_rel) (by kst_all) (NumInv.start n0 e0) ?_ (by with_unfolding_all passes_own)
  clear lF lN
  rintro ⟨V, vs, ns, nn, many, tm, extra, te⟩ u h tk hT F₁ N₁
  dsimp only [ovr] at F₁ N₁ hT ⊢
  k_fold
  obtain ⟨hI, kI2, kI3, kI4, kI5, kI6⟩ := id hT
  have hvn : vs.length = ns.length := hI.length
  have hv9 : vs.length ≤ 4096 := by omega
  have hwz : vs.toArray.size ≤ sizeLine := by rw [List.size_toArray, sizeLine_eq]; omega
  k_steps
  iterate 2
    · rename News _ _ _ _ => nE
      rename Fr _ _ _ _ => nF
      have hst := NumInv.step hT (by assumption) (by omega)
      have hmu : (many.fdiv 128 + (extra - if (many == 0) = true then 1 else 0)).toNat < (many + extra).toNat := NumInv.less hT (by omega)
      refine' EndJ.mk' (NS.mk _ _ _ _ _ _ _ _) nF nE (sub_hd fun q h => List.mem_cons_of_mem _ (List.mem_cons_of_mem _ (List.mem_cons_of_mem _ h))) (by kst_all) hst hmu
  · exact h1 ns _ _ _ _ (KBa.ints_make kI2) (by omega) (by omega) (by assumption) (news_sub (by assumption) (by ktr_rel))
local macro_rules | `(tactic| walk_at "call ref") => `(tactic| (k_here; (with_reducible show wpAny _ _ (PySem.call (Value.ref 138) [Value.ref _, Value.ref _]) _ _ _); k_dflt (refine' one_ct ?kB ?kF ?kK ?kN ?kT ?kk ?U ?hm ?hTS ?hI ?hl0 ?hl1 ?a0 ?b0 ?b1 ?kd ?ku ?_; (case kB => k_asm); walk_at "u5"); (case U => k_updF); (case hm => k_mem); (case hTS => k_ne); (case hI => l_ints); (case hl0 => exact Nat.le_of_ble_eq_true rfl); (case hl1 => exact Nat.le_of_ble_eq_true rfl); (case a0 => first | assumption | omega); (case b0 => first | assumption | omega); (case b1 => first | assumption | omega); (case kd => first | exact room1 (by assumption) (by exact rfl) | ktr_room); (case ku => first | exact room0 (by assumption) (by exact rfl) | exact room1 (by assumption) (by exact rfl) | ktr_units); k_whole; all_goals (intros; (try (rename (∀ p : Addr × Obj, p ∈ _ → p.1 < _) => l1'; k_lt l1')); (try (have mi9 := menu_in (by assumption); obtain ⟨mi1, mi2, mi3⟩ := mi9)); (try (rename _ ∈ ([0, 1, 7, 10, 11, 128, 255, _] : List Int) => m9; have mi9 := oct_in2 (by assumption) (by assumption) m9; obtain ⟨mi1, mi2⟩ := mi9)); (try dsimp only); (try k_fold))))
local macro_rules | `(tactic| walk_at "call ref") => `(tactic| (k_here; (with_reducible show wpAny _ _ (PySem.call (Value.ref 145) [Value.int _ _, Value.int _ _]) _ _ _); k_dflt (refine' number_ct ?kB ?kF ?kK ?kN ?kT ?kk ?n0 ?n1 ?e0 ?e1 ?kd ?ku ?_; (case kB => k_asm); walk_at "u5"); (case n0 => first | assumption | omega); (case n1 => first | assumption | omega); (case e0 => first | assumption | omega | exact (div3 (by assumption) (by assumption)).1); (case e1 => first | assumption | omega | exact Int.le_trans (div3 (by assumption) (by assumption)).2 (by decide)); walk_at "u6"))
local macro_rules | `(tactic| walk_at "subscriptTail") => `(tactic| (k_here; (with_reducible show wpAny _ _ (subscriptTail _ _ (Value.ref _) (Value.int _ _)) _ _ _); k_dflt (refine' sub_small ?k1 ?k2 ?k3 ?k4 ?k5 ?_ ?k7; (case k1 => k_asm); (case k2 => k_mem); (case k3 => l_ints)); (case k4 => omega); (case k5 => omega); (case k7 => with_unfolding_all rfl); intro x9 t9 hx0 hx8))
local macro_rules | `(tactic| walk_at "binaryOp Mult bytes int") => `(tactic| (k_here; (with_reducible show wpAny _ _ (binaryOp Operator.Mult (Value.bytes _ _) (Value.int _ _)) _ _ _); k_dflt (refine' mul_one ?h0 ?hn ?_; (case h0 => first | omega | exact (half_in (by assumption) (by assumption)).1); (case hn => first | omega | exact (half_in (by assumption) (by assumption)).2)); intro _ _ _ _ _ _))
local macro_rules | `(tactic| walk_at "CompSrc") => `(tactic| (refine Stop.mk ?_))
local macro_rules | `(tactic| walk_at "eval ListComp") => `(tactic| (refine Stop.mk ?_))
local macro_rules | `(tactic| walk_at "call type:bytes") => `(tactic| (k_here; (with_reducible show wpAny _ _ (PySem.call (Value.type "bytes") [Value.ref _]) _ _ _); k_dflt (refine' KBa.make_K ?kbaF ?kbaN ?kbah ?kbal ?kbai ?kbar ?kban ?_; (case kbaF => k_asm); (case kbaN => k_asm); (case kbah => rfl); (case kbal => exact News.isList (by k_asm) (by k_mem)); (case kbai => first | assumption | l_ints); (case kbar => first | assumption | exact in_one (by assumption) (by assumption))); (case kban => first | omega | exact Nat.le_of_ble_eq_true rfl); intro _ _ _ F' N' kbaIn))
structure WS where
  a : Int
  b : Int
  t1 : Tok
  t2 : Tok
  nn : Nat
  hb : Array UInt8
  ht : Tok
  bb : Array UInt8
  bt : Tok
  hs : List Int
  bs : List Int
structure CS where
  a : Int
  b : Int
  t1 : Tok
  t2 : Tok
  nn : Nat
structure CInv2 (ys : List Value) (c : CS) : Prop where
  a0 : 0 ≤ c.a
  b0 : 0 ≤ c.b
  b1 : c.b < 2147483647
  isI : ∃ ns, IntsAre ys ns ∧ KBa.In ns
theorem CInv2.snoc {ys : List Value} {d : Int} {t : Tok} (h : ∃ ns, IntsAre ys ns ∧ KBa.In ns) (d0 : 0 ≤ d) (d1 : d < 256) : ∃ ns, IntsAre (ys ++ [.int d t]) ns ∧ KBa.In ns := by
  obtain ⟨ns, h1, h2⟩ := h
  refine ⟨ns ++ [d], IntsAre.append h1 (.cons _ _ .nil), fun q hq => ?_⟩
  rcases List.mem_append.mp hq with hq | hq
  · exact h2 q hq
  · rw [List.mem_singleton.mp hq]; exact ⟨d0, d1⟩
structure WInv (k : Nat) (c : WS) : Prop where
  a0 : 0 ≤ c.a
  b0 : 0 ≤ c.b
  b1 : c.b < 2147483647
  hh : KBw.bInts c.hb = c.hs
  kk : KBw.bInts c.bb = c.bs
  h1 : c.hs.length ≤ 3 * k
  k1 : c.bs.length ≤ 60 * k
set_option maxHeartbeats 4000000 in
theorem written_ct {w : World} {loose : List Str} {mean : ExcName → Option Value} {mg mb : Str → Option Value}
   {dp un : Nat} {gd : Option (List Code)} {cn : Str} {cs : Scope} {a : Addr} {ccd : Value} {cl : List (Str × Addr)} {outer : List Env} {A₀ : Around} {base h₀ : Heap} {L : Addr} {m : Str → Option Value} {s : Shared} {Q E : Value → Shared → Prop} {news : List (Addr × Obj)} {S : Addr} {a₁ b₁ : Int} {t1 t2 : Tok} {nn : Nat}
   (B : Below A₀ base outer h₀) (F : Fr h₀ L s.heap m) (K : (hd.heap_39 w.params).In h₀) (N : News h₀ L s.heap ((S, listOf #[.int a₁ t1, .int b₁ t2] nn) :: news)) (T : Top topProg loose mean mg mb h₀) (hk : cs.kind = .function)
   (hne : ∀ p ∈ news, p.1 ≠ S) (a0 : 0 ≤ a₁) (b0 : 0 ≤ b₁) (b1 : b₁ < 2147483647) (hdp : dp + 24 < recursionLimit) (hun : un + 24 < cLine)
   (h1 : ∀ a b t1 t2 nn ks c t h' tk', 0 ≤ a → 0 ≤ b → b < 2147483647 → KBw.bInts c = ks → 0 < ks.length → ks.length ≤ 300 → Fr h₀ L h' m → News h₀ L h' ((S, listOf #[.int a t1, .int b t2] nn) :: news) → Q (.bytes c t) { s with heap := h', toks := tk' }) :
   wpAny (model (PySem.Challenge.rw_pb0446_01.row.prog) w) (ktrTop dp un gd cn cs L a ccd cl outer) (PySem.call (.ref 150) [.ref S]) Q E s := by
  revert K; k_fill; intro K
  refine wpAny_call ?_
  k_dflt (refine' code_defC ?k1 ?k2 ?k3 ?k4 ?k5 ?kA ?kF ?kK ?k6 ?k7 ?k8 ?k9 ?kB ?kD ?_ ?c2 ?c3 ?c4; (case kA => exact rfl); (case kF => exact rfl); (case kK => assumption); (case k1 => k_asm); (case k2 => k_asm); (case k3 => k_asm); (case k4 => k_asm); (case k5 => k_asm); (case k6 => k_is); (case k7 => k_is); (case k8 => ktr_room); (case k9 => exact BindsTo.of_eq rfl); (case kB => exact rfl); (case kD => decide +kernel); (case c2 => exact rfl); (case c3 => exact rfl); (case c4 => exact rfl); k_whole; intro g' L' h' tk' cells' FG' F' N' Y' B' X' T' l1; (try k_lt l1); k_cells Y'; (try simp only [List.cons_append, List.nil_append] at N'); (try dsimp only); (try k_lift B'); (try k_fold))
  k_steps
  refine Stop.go ?_
  rename Fr g' _ _ _ => lF
  rename News g' _ _ _ => lN
  rename IsRange _ _ _ _ _ _ _ _ => hr
  refine nameW lN fun o' a₂ b₂ s1 s2 n2 e1 e2 e3 e4 e5 e6 => ?_
  subst e1 e2 e3 e4 e5 e6
  refine nameR hr fun d e => ?_
  subst e
  refine forR (σ := WS) (n := d.toNat) (fun c => (L' + 1, o') :: (S, listOf #[.int c.a c.t1, .int c.b c.t2] c.nn) :: news) (fun c => [(Str.ofString "head_one", .bytes c.hb c.ht), (Str.ofString "bodies", .bytes c.bb c.bt)])
    (fun pre c => WInv pre.length c) ⟨a₂, b₂, s1, s2, n2, #[], _, #[], _, [], []⟩ (by with_unfolding_all rfl) hr (rng_small (by assumption) (by omega)) (rng_size (by assumption)) lF lN (by ktr_rel) (by kst_all) ⟨by assumption, by assumption, by assumption, rfl, rfl, Nat.zero_le _, Nat.zero_le _⟩ ?_ ?_
  · clear lF lN
    rintro ⟨a₃, b₃, s1, s2, nn, hb, ht, bb, bt, hs, bs⟩ pre k tk u h tk' own hE hpl hoff hT F₁ N₁
    dsimp only [ovr] at F₁ N₁ hT ⊢
    simp only [List.cons_append] at N₁
    k_fold
    obtain ⟨kI1, kI2, kI3, kI4, kI5, kI6, kI7⟩ := id hT
    dsimp only at kI1 kI2 kI3 kI4 kI5 kI6 kI7
    k_steps
    · rename Fr g' _ _ _ => nF
      rename News g' _ _ _ => nE
      rename (_ : Int) < 4 => k4
      have hd3 := div3 (by assumption) k4
      have hpl1 : (pre ++ [k]).length = pre.length + 1 := by rw [List.length_append, List.length_singleton]
      refine' JF.endR (WS.mk _ _ _ _ _ _ _ _ _ _ _) nF nE (fun q h => List.mem_cons_of_mem _ (List.mem_cons_of_mem _ (sub2 (fun q h => List.mem_append_left _ h) q h))) (fun q h => List.mem_cons_of_mem _ (List.mem_cons_of_mem _ (List.mem_cons_of_mem _ (List.mem_cons_of_mem _ (List.mem_append_right _ h))))) rfl (by kst_all) (WInv.mk ?_ ?_ ?_ (by assumption) (by assumption) (by rw [hpl1]; simp only [List.length_append]; omega) (by rw [hpl1]; simp only [List.length_append]; omega))
      all_goals (dsimp only; assumption)
    · refine Stop.go ?_
      k_dflt (refine LCg.ListComp_U (F₀ := by k_asm) (by rfl) (by decide) (by rfl) (by decide) (by rfl) ?_)
      k_steps
      refine Stop.go ?_
      rename Fr g' _ _ _ => cF
      rename News g' _ _ _ => cN
      rename IsRange _ _ _ _ _ _ _ _ => cR
      rename (11 : Int) < _ => k11
      rename _ ≤ (133 : Int) => k133
      have hm0 := half_in k11 k133

      refine LCg.CompSrc.range (by with_unfolding_all rfl) cF (news_sub cN (fun q h => List.mem_cons_of_mem _ h) : News g' L' _ ((L' + 1, o') :: (S, listOf #[.int _ _, .int _ _] _) :: (news ++ own))) cR (rng_small hm0.1 (by omega)) (rng_size hm0.1) (by rw [sizeLine_eq]; omega) ?_
      intro gg
      refine compJ (σ := CS) (fun c => (L' + 1, o') :: (S, listOf #[.int c.a c.t1, .int c.b c.t2] c.nn) :: (news ++ own)) CInv2 ⟨_, _, _, _, _⟩ ⟨by assumption, by assumption, by assumption, [], .nil, fun _ h => nomatch h⟩ ?_ ?_
      · clear cF cN cR
        rintro ⟨a₄, b₄, s3, s4, n4⟩ ys i v I oI C oC D m₂ h tk E' ⟨tv, hv⟩ ⟨c1, c2, c3, c4⟩ hC hx F N off ne
        subst hv
        simp only [LCg.Off3] at off
        dsimp only at c1 c2 c3
        k_steps
        rename _ ∈ ([0, 65, 128, 200, 255, _] : List Int) => hm
        have hd := oct_in (by assumption) (by assumption) hm
        rename Fr g' _ _ _ => nF
        rename News g' _ _ _ => nE
        refine CEnd.mk' ⟨_, _, _, _, _⟩ nF nE (fun q h => List.mem_cons_of_mem _ h) (by simp only [LCg.Off3]; exact off) ⟨?_, ?_, ?_, CInv2.snoc c4 hd.1 hd.2⟩
        all_goals (dsimp only; assumption)
      · clear cF cN cR
        rintro ⟨a₄, b₄, s3, s4, n4⟩ ys hyl ⟨c1, c2, c3, ns, hi, hin⟩
        have hyn := hi.length
        have hbm := KBa.ints_make hin
        unfold LCg.FinE
        intro D h tk F N o1
        dsimp only at c1 c2 c3 N
        k_steps
        rename Fr g' _ _ _ => nF
        rename News g' _ _ _ => nE
        rename (_ : Int) < 4 => k4
        have hd3 := div3 (by assumption) k4
        have hpl1 : (pre ++ [k]).length = pre.length + 1 := by rw [List.length_append, List.length_singleton]
        refine' JF.endR (WS.mk _ _ _ _ _ _ _ _ _ _ _) nF nE (fun q h => List.mem_cons_of_mem _ (sub2 (fun q h => List.mem_append_left _ h) q h)) (fun q h => List.mem_cons_of_mem _ (List.mem_cons_of_mem _ (List.mem_cons_of_mem _ (List.mem_append_right _ h)))) rfl (by kst_all) (WInv.mk ?_ ?_ ?_ (by assumption) (by assumption) (by rw [hpl1]; simp only [List.length_append]; omega) (by rw [hpl1]; simp only [List.length_append]; omega))
        all_goals (dsimp only; assumption)
    · refine Stop.go ?_
      k_dflt (refine LCg.ListComp_U (F₀ := by k_asm) (by rfl) (by decide) (by rfl) (by decide) (by rfl) ?_)
      k_steps
      refine Stop.go ?_
      rename Fr g' _ _ _ => cF
      rename News g' _ _ _ => cN
      rename IsRange _ _ _ _ _ _ _ _ => cR
      rename (_ : Int) ≤ 8 => k8
      have hm0 := k8_pair k8 (by assumption)

      refine LCg.CompSrc.range (by with_unfolding_all rfl) cF (news_sub cN (fun q h => List.mem_cons_of_mem _ (List.mem_cons_of_mem _ h)) : News g' L' _ ((L' + 1, o') :: (S, listOf #[.int _ _, .int _ _] _) :: (news ++ own))) cR (rng_small hm0.1 (by omega)) (rng_size hm0.1) (by rw [sizeLine_eq]; omega) ?_
      intro gg
      refine compJ (σ := CS) (fun c => (L' + 1, o') :: (S, listOf #[.int c.a c.t1, .int c.b c.t2] c.nn) :: (news ++ own)) CInv2 ⟨_, _, _, _, _⟩ ⟨by assumption, by assumption, by assumption, [], .nil, fun _ h => nomatch h⟩ ?_ ?_
      · clear cF cN cR
        rintro ⟨a₄, b₄, s3, s4, n4⟩ ys i v I oI C oC D m₂ h tk E' ⟨tv, hv⟩ ⟨c1, c2, c3, c4⟩ hC hx F N off ne
        subst hv
        simp only [LCg.Off3] at off
        dsimp only at c1 c2 c3
        k_steps
        rename _ ∈ ([0, 65, 128, 200, 255, _] : List Int) => hm
        have hd := oct_in (by assumption) (by assumption) hm
        rename Fr g' _ _ _ => nF
        rename News g' _ _ _ => nE
        refine CEnd.mk' ⟨_, _, _, _, _⟩ nF nE (fun q h => List.mem_cons_of_mem _ h) (by simp only [LCg.Off3]; exact off) ⟨?_, ?_, ?_, CInv2.snoc c4 hd.1 hd.2⟩
        all_goals (dsimp only; assumption)
      · clear cF cN cR
        rintro ⟨a₄, b₄, s3, s4, n4⟩ ys hyl ⟨c1, c2, c3, ns, hi, hin⟩
        have hyn := hi.length
        have hbm := KBa.ints_make hin
        unfold LCg.FinE
        intro D h tk F N o1
        dsimp only at c1 c2 c3 N
        k_steps
        rename Fr g' _ _ _ => nF
        rename News g' _ _ _ => nE
        rename (_ : Int) < 4 => k4
        have hd3 := div3 (by assumption) k4
        have hpl1 : (pre ++ [k]).length = pre.length + 1 := by rw [List.length_append, List.length_singleton]
        refine' JF.endR (WS.mk _ _ _ _ _ _ _ _ _ _ _) nF nE (fun q h => List.mem_cons_of_mem _ (sub2 (fun q h => List.mem_append_left _ h) q h)) (fun q h => List.mem_cons_of_mem _ (List.mem_cons_of_mem _ (List.mem_cons_of_mem _ (List.mem_append_right _ h)))) rfl (by kst_all) (WInv.mk ?_ ?_ ?_ (by assumption) (by assumption) (by rw [hpl1]; simp only [List.length_append]; omega) (by rw [hpl1]; simp only [List.length_append]; omega))
        all_goals (dsimp only; assumption)
  · clear lF lN
    rintro ⟨a₃, b₃, s1, s2, nn, hb, ht, bb, bt, hs, bs⟩ pre u h tk' hpl hT F₁ N₁
    dsimp only [ovr] at F₁ N₁ hT ⊢
    k_fold
    obtain ⟨kI1, kI2, kI3, kI4, kI5, kI6, kI7⟩ := id hT
    dsimp only at kI1 kI2 kI3 kI4 kI5 kI6 kI7
    k_steps
    refine h1 _ _ _ _ _ _ _ _ _ _ ?_ ?_ ?_ (by assumption) ?_ ?_ (by assumption) (news_sub (by assumption) (fun q h => List.mem_cons_of_mem _ h))
    all_goals first | assumption | (simp only [List.length_append]; omega)
set_option maxHeartbeats 4000000 in
theorem spoilt_ct {w : World} {loose : List Str} {mean : ExcName → Option Value} {mg mb : Str → Option Value}
   {dp un : Nat} {gd : Option (List Code)} {cn : Str} {cs : Scope} {a : Addr} {ccd : Value} {cl : List (Str × Addr)} {outer : List Env} {A₀ : Around} {base h₀ : Heap} {L : Addr} {m : Str → Option Value} {s : Shared} {Q E : Value → Shared → Prop} {news : List (Addr × Obj)} {S : Addr} {a₁ b₁ : Int} {t1 t2 : Tok} {nn : Nat} {c : Array UInt8} {tc : Tok} {ks : List Int}
   (B : Below A₀ base outer h₀) (F : Fr h₀ L s.heap m) (K : (hd.heap_39 w.params).In h₀) (N : News h₀ L s.heap ((S, listOf #[.int a₁ t1, .int b₁ t2] nn) :: news)) (T : Top topProg loose mean mg mb h₀) (hk : cs.kind = .function)
   (hne : ∀ p ∈ news, p.1 ≠ S) (hks : KBw.bInts c = ks) (hl0 : 0 < ks.length) (hl1 : ks.length ≤ 300) (a0 : 0 ≤ a₁) (b0 : 0 ≤ b₁) (b1 : b₁ < 2147483647) (hdp : dp + 24 < recursionLimit) (hun : un + 24 < cLine)
   (h1 : ∀ ks c t h' tk', KBw.bInts c = ks → ks.length ≤ 4096 → Fr h₀ L h' m → News h₀ L h' news → Q (.bytes c t) { s with heap := h', toks := tk' }) :
   wpAny (model (PySem.Challenge.rw_pb0446_01.row.prog) w) (ktrTop dp un gd cn cs L a ccd cl outer) (PySem.call (.ref 157) [.ref S, .bytes c tc]) Q E s := by
  revert K; k_fill; intro K
  refine wpAny_call ?_
  k_dflt cell_enter
  k_steps
  all_goals refine h1 _ _ _ _ _ (by assumption) ?_ (by assumption) (news_sub (by assumption) (by ktr_rel))
  all_goals first | omega | (simp only [List.length_append, List.length_take, List.length_drop, List.length_cons, List.length_nil]; omega)
theorem leave_onX {M : Model} {A : Around} {E : Value → Shared → Prop} {s' : Shared} {base g g₂ : Heap} {outer : List Env} {L a e t : Addr} {m : Str → Option Value} {name : Str} {scope : Scope} {cd : Value} {cl : List (Str × Addr)} {Q : Unit → Shared → Prop} {news : List (Addr × Obj)} {cls : Value} {vs : List Value} (K : Below A base outer g) (F : Fr g L g₂ m) (R : RaisedK base (envX name scope L a cd cl :: outer) e cls t vs news s'.heap) (hsm : g₂.UpToSlots s'.heap)
    (hQ : ∀ h', RaisedK base outer e cls t vs news h' → g.UpToSlots h' → Q () { s' with heap := h' }) :
    wpAny M (A.deeper (envX name scope L a cd cl)) (leaving (envX name scope L a cd cl) (.ref e)) Q E s' := by
  obtain ⟨⟨B, hB, hl, hfl, hnew⟩, htup⟩ := R
  exact wpAny_leaves_onW (Around.frames_deeper K.stack) rfl hfl fun h' x1 x2 => hQ h' ⟨⟨B, hB, hl, x1, hnew⟩, htup.of_slots x2⟩ ((Heap.UpToSlots.of_keeps F.keep).trans (hsm.trans x2))
local macro_rules | `(tactic| walk_at "leaving ref") => `(tactic| (k_here; (refine' leave_onX ?k1 ?k2 ?k3 ?k4 ?_; (case k3 => assumption); (case k1 => assumption); (case k4 => assumption); (case k2 => assumption); k_whole; intro h' R' U'; (try dsimp only at R' U' ⊢))))
local macro_rules | `(tactic| walk_at "eval Name") => `(tactic| (k_here; (first | (with_reducible show wpAny _ _ (eval (Expr.Name (Str.ofString "octets_one") _) _) _ _ _) | (with_reducible show wpAny _ _ (eval (Expr.Name (Str.ofString "column") _) _) _ _ _)); k_dflt (refine' nameX_F ?N ?c ?m ?d ?_ ?a ?b; (case a => rfl); (case b => rfl); (case N => k_asm); (case c => rfl); (case m => with_reducible assumption); (case d => with_reducible assumption); k_whole)))
local macro_rules | `(tactic| walk_at "call ref") => `(tactic| (k_here; (with_reducible show wpAny _ _ (PySem.call (Value.ref 110) [Value.bytes _ _]) _ _ _); k_dflt (refine' decode_ct ?kB ?kF ?kK ?kN ?kT ?kk ?hks ?hb ?kd ?ku ?_ ?_; (case kB => k_asm); walk_at "u5"); (case hks => assumption); (case hb => first | assumption | omega); walk_at "u6"))
local macro_rules | `(tactic| walk_at "call ref") => `(tactic| (k_here; (with_reducible show wpAny _ _ (PySem.call (Value.ref 117) [Value.bytes _ _, Value.int _ _]) _ _ _); k_dflt (refine' col_ct ?kB ?kF ?kK ?kN ?kT ?kk ?hks ?hb ?kd ?ku ?_ ?_; (case kB => k_asm); walk_at "u5"); (case hks => assumption); (case hb => first | assumption | omega); walk_at "u6"))
set_option maxHeartbeats 4000000 in
theorem lamD_ct {w : World} {loose : List Str} {mean : ExcName → Option Value} {mg mb : Str → Option Value}
   {dp un : Nat} {gd : Option (List Code)} {cn : Str} {cs : Scope} {a : Addr} {ccd : Value} {cl : List (Str × Addr)} {outer : List Env} {A₀ : Around} {base h₀ : Heap} {L : Addr} {m : Str → Option Value} {s : Shared} {Q E : Value → Shared → Prop} {news : List (Addr × Obj)}
   (B : Below A₀ base outer h₀) (F : Fr h₀ L s.heap m) (K : (hd.heap_39 w.params).In h₀) (N : News h₀ L s.heap news) (T : Top topProg loose mean mg mb h₀) (hk : cs.kind = .function)
   {f c' : Addr} {oc : Obj} {vq : Array Value} {tq : Tok} {name qual : Str} {pm ctv : Value} (hmc : (c', oc) ∈ news) (hoc : oc.data = .fields vq) (hov : vq[1]? = some (.str qual tq)) {c1 : Addr} {o1 : Obj} {b : Array UInt8} {tb : Tok} {ks : List Int} (hm1 : (c1, o1) ∈ news) (ho1 : o1.data = .cell (some (.bytes b tb))) (hks : KBw.bInts b = ks) (hb : ks.length ≤ 4096) (hmf : (f, kla_obj name qual ({ posonlyargs := [], args := [], vararg := none, kwonlyargs := [], kw_defaults := [], kwarg := none, defaults := [] } : Arguments) (Expr.Call (Expr.Name (Str.ofString "decode_record") { line := 225, col := 30, endLine := 225, endCol := 43 }) [Expr.Name (Str.ofString "octets_one") { line := 225, col := 44, endLine := 225, endCol := 54 }] [] { line := 225, col := 30, endLine := 225, endCol := 55 }) ({ kind := ScopeKind.function, names := [(Str.ofString "octets_one", NameKind.free), (Str.ofString "decode_record", NameKind.globalImplicit)], isGenerator := false, isCoroutine := false, more := [] } : Scope) [(Str.ofString "octets_one", c1)] pm c' ctv) ∈ news) (hdp : dp + 48 < recursionLimit) (hun : un + 48 < cLine)
   (h2 : ∀ xs, decodeOf ks = some xs → xs.length ≤ ks.length → ∀ D ws nn h' tk', ValsAre ws xs → Fr h₀ L h' m → News h₀ L h' ((D, listOf ws.toArray nn) :: news) → (∀ p ∈ news, p.1 < D) → Q (.ref D) { s with heap := h', toks := tk' })
   (h3 : decodeOf ks = none → ∀ e t vs g₂ h' tk', Fr h₀ L g₂ m → g₂.UpToSlots h' → RaisedK base (envX cn cs L a ccd cl :: outer) e (.ref 44) t vs news h' → E (.ref e) { s with heap := h', toks := tk' }) :
   wpAny (model (PySem.Challenge.rw_pb0446_01.row.prog) w) (ktrTop dp un gd cn cs L a ccd cl outer) (PySem.call (.ref f) []) Q E s := by
  revert K; k_fill; intro K
  refine wpAny_call ?_
  k_dflt (refine' kla_code (binds := []) ?k1 ?k2 ?k3 ?k4 ?k5 ?kA ?kF ?kK ?k6 ?k7 ?k8 ?k9 ?kB ?_ ?c2 ?c3 ?c4 ?c5; (case kA => exact rfl); (case kF => exact rfl); (case kK => assumption); (case k1 => k_asm); (case k2 => k_asm); (case k3 => k_asm); (case k4 => k_asm); (case k5 => k_asm); (case k6 => exact hmf); (case k7 => exact codeRec_news (by k_asm) hmc hoc hov); (case k8 => first | exact room1 (by assumption) (by exact rfl) | ktr_room); (case k9 => exact rfl); (case c5 => decide); (case kB => exact locs rfl); (case c2 => exact rfl); (case c3 => exact rfl); (case c4 => exact rfl); k_whole; intro g' L' h' FG' F' N' B' X' T'; (try dsimp only); (try k_lift B'); (try k_fold))
  clear hmf hmc hoc hov
  k_steps
  · exact h2 _ (by assumption) (by assumption) _ _ _ _ _ (by assumption) (by assumption) (by assumption) (by assumption)
  · exact h3 (by assumption) _ _ _ _ _ _ (by assumption) (by assumption) (by assumption)
set_option maxHeartbeats 4000000 in
theorem lamC_ct {w : World} {loose : List Str} {mean : ExcName → Option Value} {mg mb : Str → Option Value}
   {dp un : Nat} {gd : Option (List Code)} {cn : Str} {cs : Scope} {a : Addr} {ccd : Value} {cl : List (Str × Addr)} {outer : List Env} {A₀ : Around} {base h₀ : Heap} {L : Addr} {m : Str → Option Value} {s : Shared} {Q E : Value → Shared → Prop} {news : List (Addr × Obj)}
   (B : Below A₀ base outer h₀) (F : Fr h₀ L s.heap m) (K : (hd.heap_39 w.params).In h₀) (N : News h₀ L s.heap news) (T : Top topProg loose mean mg mb h₀) (hk : cs.kind = .function)
   {f c' : Addr} {oc : Obj} {vq : Array Value} {tq : Tok} {name qual : Str} {pm ctv : Value} (hmc : (c', oc) ∈ news) (hoc : oc.data = .fields vq) (hov : vq[1]? = some (.str qual tq)) {c1 : Addr} {o1 : Obj} {b : Array UInt8} {tb : Tok} {ks : List Int} (hm1 : (c1, o1) ∈ news) (ho1 : o1.data = .cell (some (.bytes b tb))) (hks : KBw.bInts b = ks) (hb : ks.length ≤ 4096) {c2 : Addr} {o2 : Obj} {i : Int} {ti : Tok} (hm2 : (c2, o2) ∈ news) (ho2 : o2.data = .cell (some (.int i ti))) (hmf : (f, kla_obj name qual ({ posonlyargs := [], args := [], vararg := none, kwonlyargs := [], kw_defaults := [], kwarg := none, defaults := [] } : Arguments) (Expr.List [Expr.Call (Expr.Name (Str.ofString "record_column") { line := 228, col := 35, endLine := 228, endCol := 48 }) [Expr.Name (Str.ofString "octets_one") { line := 228, col := 49, endLine := 228, endCol := 59 }, Expr.Name (Str.ofString "column") { line := 228, col := 61, endLine := 228, endCol := 67 }] [] { line := 228, col := 35, endLine := 228, endCol := 68 }] { line := 228, col := 34, endLine := 228, endCol := 69 }) ({ kind := ScopeKind.function, names := [(Str.ofString "column", NameKind.free), (Str.ofString "octets_one", NameKind.free), (Str.ofString "record_column", NameKind.globalImplicit)], isGenerator := false, isCoroutine := false, more := [] } : Scope) [(Str.ofString "octets_one", c1), (Str.ofString "column", c2)] pm c' ctv) ∈ news) (hdp : dp + 48 < recursionLimit) (hun : un + 48 < cLine)
   (h2 : ∀ x, colOf ks i = some x → ∀ D v nn h' tk', IsVal v x → Fr h₀ L h' m → News h₀ L h' ((D, listOf #[v] nn) :: news) → (∀ p ∈ news, p.1 < D) → Q (.ref D) { s with heap := h', toks := tk' })
   (h3 : colOf ks i = none → ∀ e t vs g₂ h' tk', Fr h₀ L g₂ m → g₂.UpToSlots h' → RaisedK base (envX cn cs L a ccd cl :: outer) e (.ref 44) t vs news h' → E (.ref e) { s with heap := h', toks := tk' }) :
   wpAny (model (PySem.Challenge.rw_pb0446_01.row.prog) w) (ktrTop dp un gd cn cs L a ccd cl outer) (PySem.call (.ref f) []) Q E s := by
  revert K; k_fill; intro K
  refine wpAny_call ?_
  k_dflt (refine' kla_code (binds := []) ?k1 ?k2 ?k3 ?k4 ?k5 ?kA ?kF ?kK ?k6 ?k7 ?k8 ?k9 ?kB ?_ ?c2 ?c3 ?c4 ?c5; (case kA => exact rfl); (case kF => exact rfl); (case kK => assumption); (case k1 => k_asm); (case k2 => k_asm); (case k3 => k_asm); (case k4 => k_asm); (case k5 => k_asm); (case k6 => exact hmf); (case k7 => exact codeRec_news (by k_asm) hmc hoc hov); (case k8 => first | exact room1 (by assumption) (by exact rfl) | ktr_room); (case k9 => exact rfl); (case c5 => decide); (case kB => exact locs rfl); (case c2 => exact rfl); (case c3 => exact rfl); (case c4 => exact rfl); k_whole; intro g' L' h' FG' F' N' B' X' T'; (try dsimp only); (try k_lift B'); (try k_fold))
  clear hmf hmc hoc hov
  k_steps
  · exact h2 _ (by assumption) _ _ _ _ _ (by assumption) (by assumption) (by assumption) (by assumption)
  · exact h3 (by assumption) _ _ _ _ _ _ (by assumption) (by assumption) (by assumption)
local macro_rules | `(tactic| walk_at "call ref") => `(tactic| (k_here; (with_reducible show wpAny _ _ (PySem.call (Value.ref _) []) _ _ _); refine Stop.mk ?_))
local macro_rules | `(tactic| walk_at "callWith ref") => `(tactic| (k_here; k_dflt (refine' callWith_F0 ?k1 ?_; (case k1 => exact FnAt.of (by k_asm) (by with_reducible assumption)); k_whole; try dsimp only [List.nil_append, List.cons_append])))
set_option maxHeartbeats 4000000 in
theorem heardD_ct {w : World} {loose : List Str} {mean : ExcName → Option Value} {mg mb : Str → Option Value}
   {dp un : Nat} {gd : Option (List Code)} {cn : Str} {cs : Scope} {a : Addr} {ccd : Value} {cl : List (Str × Addr)} {A₀ : Around} {h₀ : Heap} {L : Addr} {m : Str → Option Value} {s : Shared} {Q E : Value → Shared → Prop} {news : List (Addr × Obj)}
   (B : Below A₀ h₀ [] h₀) (F : Fr h₀ L s.heap m) (K : (hd.heap_39 w.params).In h₀) (N : News h₀ L s.heap news) (T : Top topProg loose mean mg mb h₀) (hk : cs.kind = .function)
   {f c' : Addr} {oc : Obj} {vq : Array Value} {tq : Tok} {name qual : Str} {pm ctv : Value} (hmc : (c', oc) ∈ news) (hoc : oc.data = .fields vq) (hov : vq[1]? = some (.str qual tq)) {c1 : Addr} {o1 : Obj} {b : Array UInt8} {tb : Tok} {ks : List Int} (hm1 : (c1, o1) ∈ news) (ho1 : o1.data = .cell (some (.bytes b tb))) (hks : KBw.bInts b = ks) (hb : ks.length ≤ 4096) (hmf : (f, kla_obj name qual ({ posonlyargs := [], args := [], vararg := none, kwonlyargs := [], kw_defaults := [], kwarg := none, defaults := [] } : Arguments) (Expr.Call (Expr.Name (Str.ofString "decode_record") { line := 225, col := 30, endLine := 225, endCol := 43 }) [Expr.Name (Str.ofString "octets_one") { line := 225, col := 44, endLine := 225, endCol := 54 }] [] { line := 225, col := 30, endLine := 225, endCol := 55 }) ({ kind := ScopeKind.function, names := [(Str.ofString "octets_one", NameKind.free), (Str.ofString "decode_record", NameKind.globalImplicit)], isGenerator := false, isCoroutine := false, more := [] } : Scope) [(Str.ofString "octets_one", c1)] pm c' ctv) ∈ news) (hdp : dp + 64 < recursionLimit) (hun : un + 64 < cLine)
   (h2 : ∀ xs, decodeOf ks = some xs → xs.length ≤ ks.length → ∀ D ws nn h' tk', ValsAre ws xs → Fr h₀ L h' m → News h₀ L h' ((D, listOf ws.toArray nn) :: news) → (∀ p ∈ news, p.1 < D) → Q (.ref D) { s with heap := h', toks := tk' })
   (h3 : decodeOf ks = none → ∀ h' tk', Fr h₀ L h' m → News h₀ L h' news → Q .none { s with heap := h', toks := tk' }) :
   wpAny (model (PySem.Challenge.rw_pb0446_01.row.prog) w) (ktrTop dp un gd cn cs L a ccd cl []) (PySem.call (.ref 192) [.ref f]) Q E s := by
  revert K; k_fill; intro K
  refine wpAny_call ?_
  refine heard_code (binds := [(Str.ofString "work_one", .ref f)]) B F N T.nolimit rfl rfl hk (K 192 _ rfl) rfl (codeRec_of K (by rfl)) (by ktr_room) (BindsTo.of_eq rfl) (locs rfl) (fun g L' h₁ FG F₁ N₁ BG st => ?_) (by decide)
  have Kg := keepsIn K st
  have Tg := T.keeps st
  refine wpAny_execs_cons ?_
  refine wpAny_Try_except ?_
  k_steps
  refine Stop.go ?_
  k_dflt (refine' lamD_ct BG ?kF Kg ?kN Tg rfl hmc hoc hov hm1 ho1 hks hb hmf ?kd ?ku ?h2 ?h3; (case kF => k_asm); (case kN => k_asm); (case kd => ktr_room); (case ku => ktr_units))
  case h2 => exact fun xs hx hl D ws nn h' tk' hv F' N' hlt => Or.inl (leaveK_ F' N' fun F'' N'' => h2 xs hx hl D ws nn h' tk' hv F'' N'' hlt)
  case h3 =>
    intro hn e t vs g₂ h' tk' F' U' R'
    exact caught44 rfl R' K T (mg44 K T) (fun h₆ st₆ up₆ nw₆ => ret_none (Or.inr ⟨st₆, (Heap.UpToSlots.of_keeps F'.keep).trans (U'.trans up₆), nw₆, fun F'' N'' => h3 hn h₆ tk' F'' N''⟩))
set_option maxHeartbeats 4000000 in
theorem heardC_ct {w : World} {loose : List Str} {mean : ExcName → Option Value} {mg mb : Str → Option Value}
   {dp un : Nat} {gd : Option (List Code)} {cn : Str} {cs : Scope} {a : Addr} {ccd : Value} {cl : List (Str × Addr)} {A₀ : Around} {h₀ : Heap} {L : Addr} {m : Str → Option Value} {s : Shared} {Q E : Value → Shared → Prop} {news : List (Addr × Obj)}
   (B : Below A₀ h₀ [] h₀) (F : Fr h₀ L s.heap m) (K : (hd.heap_39 w.params).In h₀) (N : News h₀ L s.heap news) (T : Top topProg loose mean mg mb h₀) (hk : cs.kind = .function)
   {f c' : Addr} {oc : Obj} {vq : Array Value} {tq : Tok} {name qual : Str} {pm ctv : Value} (hmc : (c', oc) ∈ news) (hoc : oc.data = .fields vq) (hov : vq[1]? = some (.str qual tq)) {c1 : Addr} {o1 : Obj} {b : Array UInt8} {tb : Tok} {ks : List Int} (hm1 : (c1, o1) ∈ news) (ho1 : o1.data = .cell (some (.bytes b tb))) (hks : KBw.bInts b = ks) (hb : ks.length ≤ 4096) {c2 : Addr} {o2 : Obj} {i : Int} {ti : Tok} (hm2 : (c2, o2) ∈ news) (ho2 : o2.data = .cell (some (.int i ti))) (hmf : (f, kla_obj name qual ({ posonlyargs := [], args := [], vararg := none, kwonlyargs := [], kw_defaults := [], kwarg := none, defaults := [] } : Arguments) (Expr.List [Expr.Call (Expr.Name (Str.ofString "record_column") { line := 228, col := 35, endLine := 228, endCol := 48 }) [Expr.Name (Str.ofString "octets_one") { line := 228, col := 49, endLine := 228, endCol := 59 }, Expr.Name (Str.ofString "column") { line := 228, col := 61, endLine := 228, endCol := 67 }] [] { line := 228, col := 35, endLine := 228, endCol := 68 }] { line := 228, col := 34, endLine := 228, endCol := 69 }) ({ kind := ScopeKind.function, names := [(Str.ofString "column", NameKind.free), (Str.ofString "octets_one", NameKind.free), (Str.ofString "record_column", NameKind.globalImplicit)], isGenerator := false, isCoroutine := false, more := [] } : Scope) [(Str.ofString "octets_one", c1), (Str.ofString "column", c2)] pm c' ctv) ∈ news) (hdp : dp + 64 < recursionLimit) (hun : un + 64 < cLine)
   (h2 : ∀ x, colOf ks i = some x → ∀ D v nn h' tk', IsVal v x → Fr h₀ L h' m → News h₀ L h' ((D, listOf #[v] nn) :: news) → (∀ p ∈ news, p.1 < D) → Q (.ref D) { s with heap := h', toks := tk' })
   (h3 : colOf ks i = none → ∀ h' tk', Fr h₀ L h' m → News h₀ L h' news → Q .none { s with heap := h', toks := tk' }) :
   wpAny (model (PySem.Challenge.rw_pb0446_01.row.prog) w) (ktrTop dp un gd cn cs L a ccd cl []) (PySem.call (.ref 192) [.ref f]) Q E s := by
  revert K; k_fill; intro K
  refine wpAny_call ?_
  refine heard_code (binds := [(Str.ofString "work_one", .ref f)]) B F N T.nolimit rfl rfl hk (K 192 _ rfl) rfl (codeRec_of K (by rfl)) (by ktr_room) (BindsTo.of_eq rfl) (locs rfl) (fun g L' h₁ FG F₁ N₁ BG st => ?_) (by decide)
  have Kg := keepsIn K st
  have Tg := T.keeps st
  refine wpAny_execs_cons ?_
  refine wpAny_Try_except ?_
  k_steps
  refine Stop.go ?_
  k_dflt (refine' lamC_ct BG ?kF Kg ?kN Tg rfl hmc hoc hov hm1 ho1 hks hb hm2 ho2 hmf ?kd ?ku ?h2 ?h3; (case kF => k_asm); (case kN => k_asm); (case kd => ktr_room); (case ku => ktr_units))
  case h2 => exact fun x hx D v nn h' tk' hv F' N' hlt => Or.inl (leaveK_ F' N' fun F'' N'' => h2 x hx D v nn h' tk' hv F'' N'' hlt)
  case h3 =>
    intro hn e t vs g₂ h' tk' F' U' R'
    exact caught44 rfl R' K T (mg44 K T) (fun h₆ st₆ up₆ nw₆ => ret_none (Or.inr ⟨st₆, (Heap.UpToSlots.of_keeps F'.keep).trans (U'.trans up₆), nw₆, fun F'' N'' => h3 hn h₆ tk' F'' N''⟩))
/-- a code object that the law's code table keeps for one of its two lambdas -/
noncomputable def CodeO (o : Obj) : Prop := ∃ vs t, o.data = .fields vs ∧ vs[1]? = some (.str (Str.ofString "law" ++ Str.ofString ".<locals>." ++ Str.ofString "<lambda>") t)
abbrev TB := Option (Addr × Obj × Option (Addr × Obj))
/-- the law's code table and what it keeps -/
noncomputable def tabL : TB → List (Addr × Obj)
  | none => [(194, tabObj #[])]
  | some (x, ox, none) => [(x, ox), (194, tabObj #[rawInt 225, rawInt 22, .ref x])]
  | some (x, ox, some (y, oy)) => [(y, oy), (x, ox), (194, tabObj #[rawInt 225, rawInt 22, .ref x, rawInt 228, rawInt 26, .ref y])]
structure TabOk (Z : Nat) (c : TB) : Prop where
  ne : ∀ p ∈ tabL c, @LT.lt Nat _ p.1 Z ∨ @LT.lt Nat _ (Z + 2) p.1
  cod : ∀ x ox yo, c = some (x, ox, yo) → CodeO ox ∧ ∀ y oy, yo = some (y, oy) → CodeO oy
  big : ∀ x ox yo, c = some (x, ox, yo) → @LT.lt Nat _ (Z + 2) x
noncomputable def full : TB → Prop
  | some (_, _, none) => False
  | _ => True
structure OS where
  oc : Obj
  oo : Obj
  tb : TB
structure CInn (Z : Nat) (x : Addr) (ox : Obj) (own : List (Addr × Obj)) (pre : List Int) (c : Obj × Option (Addr × Obj)) : Prop where
  c1 : ∃ v, c.1.data = .cell v
  t : TabOk Z (some (x, ox, c.2))
  o : OwnOff own ((tabL (some (x, ox, c.2))).map (·.1))
  f : pre ≠ [] → c.2 ≠ none
structure OInv (Z : Nat) (c : OS) : Prop where
  c1 : ∃ v, c.oc.data = .cell v
  c2 : ∃ v, c.oo.data = .cell v
  t : TabOk Z c.tb
  f : full c.tb

theorem tab0 {Z : Nat} (h : 194 < Z) : TabOk Z none where
  ne := fun p hp => by
    rw [List.mem_singleton.mp hp]; exact .inl h
  cod := fun _ _ _ h => nomatch h
  big := fun _ _ _ h => nomatch h
theorem tabX {Z : Nat} {Y X : Addr} {oo oc : Obj} {o2 o3 : Obj} {tb tb' : TB} {own own2 : List (Addr × Obj)} (e : X = Z + 1) (h : ∀ p ∈ tabL tb, @LT.lt Nat _ p.1 Z ∨ @LT.lt Nat _ (Z + 2) p.1) (ho : OwnOff own (((Y, oo) :: (X, oc) :: tabL tb').map (·.1))) (ho2 : OwnOff own2 (((Y, o2) :: (X, o3) :: (tabL tb ++ own)).map (·.1))) : ∀ p ∈ tabL tb ++ (own ++ own2), p.1 ≠ X := fun p hp => by
  rcases List.mem_append.mp hp with hp | hp
  · rw [e]
    rcases h p hp with h | h
    · exact Nat.ne_of_lt (by omega)
    · exact Nat.ne_of_gt (by omega)
  rcases List.mem_append.mp hp with hp | hp
  · exact ho p hp X (.tail _ (.head _))
  · exact ho2 p hp X (.tail _ (.head _))
theorem tab2 {Z : Nat} {x y : Addr} {ox oy : Obj} (h : TabOk Z (some (x, ox, none))) (hy : @LT.lt Nat _ (Z + 2) y) (hc : CodeO oy) : TabOk Z (some (x, ox, some (y, oy))) where
  ne := fun p hp => by
    rcases List.mem_cons.mp hp with rfl | hp
    · exact .inr hy
    rcases List.mem_cons.mp hp with rfl | hp
    · exact h.ne (x, ox) (.head _)
    · rw [List.mem_singleton.mp hp]
      exact h.ne (194, tabObj #[rawInt 225, rawInt 22, .ref x]) (.tail _ (.head _))
  cod := fun _ _ _ e => by
    cases e
    exact ⟨(h.cod _ _ _ rfl).1, fun _ _ e => by cases e; exact hc⟩
  big := fun _ _ _ e => by cases e; exact h.big _ _ _ rfl
theorem off2 {own : List (Addr × Obj)} {x y : Addr} {ox oy : Obj} (ho : OwnOff own ((tabL (some (x, ox, none))).map (·.1))) (h : ∀ q ∈ own, q.1 ≠ y) : OwnOff own ((tabL (some (x, ox, some (y, oy)))).map (·.1)) := off_cons h ho
theorem map_app {l r : List (Addr × Obj)} {b : Addr} (h : b ∈ l.map (·.1)) : b ∈ (l ++ r).map (·.1) := by
  rw [List.map_append]; exact List.mem_append_left _ h
theorem offA {own own2 : List (Addr × Obj)} {Y X : Addr} {o1 o2 : Obj} {tb : TB} (ho : OwnOff own2 (((Y, o1) :: (X, o2) :: (tabL tb ++ own)).map (·.1))) : OwnOff own2 ((tabL tb).map (·.1)) := fun q hq b hb => ho q hq b (.tail _ (.tail _ (map_app hb)))
theorem allLt_l {l r : List (Addr × Obj)} {x : Addr} (h : AllLt x (l ++ r)) : ∀ q ∈ l, q.1 ≠ x := fun q hq => Nat.ne_of_lt (allLt_all h q (List.mem_append_left _ hq))
theorem allLt_r {l r : List (Addr × Obj)} {x : Addr} (h : AllLt x (l ++ r)) : ∀ q ∈ r, q.1 ≠ x := fun q hq => Nat.ne_of_lt (allLt_all h q (List.mem_append_right _ hq))
theorem sub2T {Y X x y : Addr} {oo oc ox oy : Obj} {l : List (Addr × Obj)} : ∀ p ∈ (Y, oo) :: (X, oc) :: (tabL (some (x, ox, some (y, oy))) ++ l), p ∈ (y, oy) :: (Y, oo) :: (X, oc) :: (x, ox) :: (194, tabObj (#[rawInt 225, rawInt 22, .ref x] ++ #[rawInt ((228 : Nat) : Int), rawInt ((26 : Nat) : Int), .ref y])) :: l := fun p hp => by
  rcases List.mem_cons.mp hp with rfl | hp
  · exact .tail _ (.head _)
  rcases List.mem_cons.mp hp with rfl | hp
  · exact .tail _ (.tail _ (.head _))
  rcases List.mem_cons.mp hp with rfl | hp
  · exact .head _
  · exact .tail _ (.tail _ (.tail _ hp))
theorem subA {a b : Addr × Obj} {t own own2 : List (Addr × Obj)} : ∀ p ∈ a :: b :: (t ++ own), p ∈ a :: b :: (t ++ (own ++ own2)) := fun p hp => by
  rw [← List.append_assoc]
  exact List.mem_append_left (as := a :: b :: (t ++ own)) own2 hp
theorem subB {a b : Addr × Obj} {t own own2 : List (Addr × Obj)} : ∀ p ∈ own2, p ∈ a :: b :: (t ++ (own ++ own2)) := fun p hp => .tail _ (.tail _ (List.mem_append_right _ (List.mem_append_right _ hp)))
theorem subC {a b : Addr × Obj} {t own : List (Addr × Obj)} : ∀ p ∈ a :: b :: t, p ∈ a :: b :: (t ++ own) := fun p hp => List.mem_append_left (as := a :: b :: t) own hp
theorem subD {a b : Addr × Obj} {t own : List (Addr × Obj)} : ∀ p ∈ own, p ∈ a :: b :: (t ++ own) := fun p hp => .tail _ (.tail _ (List.mem_append_right _ hp))
theorem offB {own own2 : List (Addr × Obj)} {Y X : Addr} {o1 o2 o3 o4 : Obj} {tb tb' : TB} (ho : OwnOff own2 (((Y, o1) :: (X, o2) :: (tabL tb ++ own)).map (·.1))) (h : OwnOff own2 ((tabL tb').map (·.1))) : OwnOff own2 (((Y, o3) :: (X, o4) :: (tabL tb' ++ own)).map (·.1)) := by
  refine off_cons (fun q hq => ho q hq _ (.head _)) (off_cons (fun q hq => ho q hq _ (.tail _ (.head _))) fun q hq b hb => ?_)
  rw [List.map_append] at hb
  rcases List.mem_append.mp hb with hb | hb
  · exact h q hq b hb
  · exact ho q hq b (.tail _ (.tail _ (by rw [List.map_append]; exact List.mem_append_right _ hb)))
theorem offC {own : List (Addr × Obj)} {Y X : Addr} {o1 o2 o3 o4 : Obj} {tb tb' : TB} (ho : OwnOff own (((Y, o1) :: (X, o2) :: tabL tb).map (·.1))) (h : OwnOff own ((tabL tb').map (·.1))) : OwnOff own (((Y, o3) :: (X, o4) :: tabL tb').map (·.1)) :=
  off_cons (fun q hq => ho q hq _ (.head _)) (off_cons (fun q hq => ho q hq _ (.tail _ (.head _))) h)
theorem tab_has (tb : TB) : ∃ ps, (194, tabObj ps) ∈ tabL tb := by
  rcases tb with _ | ⟨x, ox, _ | ⟨y, oy⟩⟩
  · exact ⟨_, .head _⟩
  · exact ⟨_, .tail _ (.head _)⟩
  · exact ⟨_, .tail _ (.tail _ (.head _))⟩
theorem own194 {own own2 : List (Addr × Obj)} {x : Addr} {ox : Obj} (h : OwnOff own ((tabL (some (x, ox, none))).map (·.1))) (h2 : OwnOff own2 ((tabL (some (x, ox, none))).map (·.1))) : ∀ p ∈ own ++ own2, p.1 ≠ 194 := fun p hp => by
  rcases List.mem_append.mp hp with hp | hp
  · exact h p hp 194 (.tail _ (.head _))
  · exact h2 p hp 194 (.tail _ (.head _))
theorem tab_news {h₀ h : Heap} {L Y X : Addr} {oo oc : Obj} {tb : TB} {ps : Array Value} (N : News h₀ L h ((Y, oo) :: (X, oc) :: tabL tb)) (hp : (194, tabObj ps) ∈ tabL tb) : News h₀ L h [(194, tabObj ps)] := fun p q => by
  rw [List.mem_singleton.mp q]
  exact N _ (.tail _ (.tail _ hp))
theorem codeQ {vs : Array Value} {q' : Str} {t : Tok} (h : vs[1]? = some (.str (Str.ofString "law" ++ Str.ofString ".<locals>." ++ Str.ofString "<lambda>") t)) (e : Str.ofString "law" ++ Str.ofString ".<locals>." ++ Str.ofString "<lambda>" = q') : vs[1]? = some (.str q' t) := e ▸ h
theorem codeO {o : Obj} {vs : Array Value} {t : Tok} (h : o.data = .fields vs) (h2 : vs[1]? = some (.str (Str.ofString "law" ++ Str.ofString ".<locals>." ++ Str.ofString "<lambda>") t)) : CodeO o := ⟨vs, t, h, h2⟩
theorem tab1 {Z : Nat} {x : Addr} {ox : Obj} (h : 194 < Z) (hx : @LT.lt Nat _ (Z + 2) x) (hc : CodeO ox) : TabOk Z (some (x, ox, none)) where
  ne := fun p hp => by
    rcases List.mem_cons.mp hp with rfl | hp
    · exact .inr hx
    · rw [List.mem_singleton.mp hp]; exact .inl h
  cod := fun _ _ _ h => by cases h; exact ⟨hc, fun _ _ h => nomatch h⟩
  big := fun _ _ _ h => by cases h; exact hx
theorem allLt_neq {own : List (Addr × Obj)} {x : Addr} (h : AllLt x own) : ∀ q ∈ own, q.1 ≠ x := fun q hq => Nat.ne_of_lt (allLt_all h q hq)
theorem off1 {own : List (Addr × Obj)} {Y X x : Addr} {oo oc ox : Obj} (ho : OwnOff own (((Y, oo) :: (X, oc) :: tabL none).map (·.1))) (h : AllLt x own) : OwnOff own ((tabL (some (x, ox, none))).map (·.1)) :=
  off_cons (allLt_neq h) (off_cons (fun q hq => ho q hq 194 (.tail _ (.tail _ (.head _)))) off_nil)
theorem offT {own : List (Addr × Obj)} {Y X : Addr} {oo oc : Obj} {tb : TB} (ho : OwnOff own (((Y, oo) :: (X, oc) :: tabL tb).map (·.1))) : OwnOff own ((tabL tb).map (·.1)) := fun q hq b hb => ho q hq b (.tail _ (.tail _ hb))
theorem sub1T {Y X x : Addr} {oo oc ox : Obj} {own : List (Addr × Obj)} : ∀ p ∈ (Y, oo) :: (X, oc) :: (tabL (some (x, ox, none)) ++ own), p ∈ (x, ox) :: (Y, oo) :: (X, oc) :: (194, tabObj (#[] ++ #[rawInt ((225 : Nat) : Int), rawInt ((22 : Nat) : Int), .ref x])) :: own := fun p hp => by
  rcases List.mem_cons.mp hp with rfl | hp
  · exact .tail _ (.head _)
  rcases List.mem_cons.mp hp with rfl | hp
  · exact .tail _ (.tail _ (.head _))
  rcases List.mem_cons.mp hp with rfl | hp
  · exact .head _
  · exact .tail _ (.tail _ (.tail _ hp))
theorem tabY {Z : Nat} {Y X : Addr} {oo oc : Obj} {tb : TB} {own : List (Addr × Obj)} (e : Y = Z + 1 + 1) (h : ∀ p ∈ tabL tb, @LT.lt Nat _ p.1 Z ∨ @LT.lt Nat _ (Z + 2) p.1) (ho : OwnOff own (((Y, oo) :: (X, oc) :: tabL tb).map (·.1))) : ∀ p ∈ tabL tb ++ own, p.1 ≠ Y := fun p hp => by
  rcases List.mem_append.mp hp with hp | hp
  · rw [e]
    rcases h p hp with h | h
    · exact Nat.ne_of_lt (by omega)
    · exact Nat.ne_of_gt (by omega)
  · exact ho p hp Y List.mem_cons_self
local macro_rules | `(tactic| walk_at "exec For Name Call cons nil") => `(tactic| (k_here; (rename Fr _ _ _ _ => lF'); (with_unfolding_all refine' For_turns lF' ?_; k_whole)))
local macro_rules | `(tactic| walk_at "call ref") => `(tactic| (k_here; (with_reducible show wpAny _ _ (PySem.call (Value.ref 124) [Value.ref _, Value.int _ _]) _ _ _); k_dflt (refine' pool_ct ?kB ?kF ?kK ?kN ?kT ?kk ?hS ?hI ?hl ?hk0 ?hk2 ?kd ?ku ?_; (case kB => k_asm); walk_at "u5"); (case hS => assumption); (case hI => assumption); (case hl => omega); (case hk0 => first | assumption | omega); (case hk2 => first | assumption | omega); walk_at "u6"))
local macro_rules | `(tactic| walk_at "call ref") => `(tactic| (k_here; (with_reducible show wpAny _ _ (PySem.call (Value.ref 150) [Value.ref _]) _ _ _); k_dflt (refine' written_ct ?kB ?kF ?kK ?kN ?kT ?kk ?hne ?a0 ?b0 ?b1 ?kd ?ku ?_; (case kB => k_asm); walk_at "u5"); (case hne => k_all); (case a0 => first | assumption | omega); (case b0 => first | assumption | omega); (case b1 => first | assumption | omega); walk_at "u6"))
local macro_rules | `(tactic| walk_at "call ref") => `(tactic| (k_here; (with_reducible show wpAny _ _ (PySem.call (Value.ref 157) [Value.ref _, Value.bytes _ _]) _ _ _); k_dflt (refine' spoilt_ct ?kB ?kF ?kK ?kN ?kT ?kk ?hne ?hks ?hl0 ?hl1 ?a0 ?b0 ?b1 ?kd ?ku ?_; (case kB => k_asm); walk_at "u5"); (case hne => k_all); (case hks => assumption); (case hl0 => first | assumption | omega); (case hl1 => first | assumption | omega); (case a0 => first | assumption | omega); (case b0 => first | assumption | omega); (case b1 => first | assumption | omega); walk_at "u6"))
local macro_rules | `(tactic| walk_at "call ref") => `(tactic| (k_here; (with_reducible show wpAny _ _ (PySem.call (Value.ref 178) [Value.bytes _ _, Value.none]) _ _ _); k_dflt (refine' lreadN_ct ?kB ?kF ?kK ?kN ?kT ?kk ?hks ?hb ?kd ?ku ?_ ?_; (case kB => k_asm); walk_at "u5"); (case hks => assumption); (case hb => first | assumption | omega); walk_at "u6"))
local macro_rules | `(tactic| walk_at "call ref") => `(tactic| (k_here; (with_reducible show wpAny _ _ (PySem.call (Value.ref 178) [Value.bytes _ _, Value.int _ _]) _ _ _); k_dflt (refine' lreadC_ct ?kB ?kF ?kK ?kN ?kT ?kk ?hks ?hb ?kd ?ku ?_ ?_; (case kB => k_asm); walk_at "u5"); (case hks => assumption); (case hb => first | assumption | omega); walk_at "u6"))
local macro_rules | `(tactic| walk_at "exec If") => `(tactic| (refine Stop.mk ?_))
local macro_rules | `(tactic| walk_at "u7") => `(tactic| ((case hmf => k_mem); (case hmc => k_mem); (case hoc => with_reducible assumption); (case hov => first | with_reducible assumption | exact codeQ (by with_reducible assumption) rfl); (case hm1 => k_mem); (case ho1 => with_reducible assumption); (case hks => with_reducible assumption); (case hb => with_reducible assumption)))
local macro_rules | `(tactic| walk_at "u8") => `(tactic| ((case ha => exact News.isList (by k_asm) (by k_mem)); (case hb => exact News.isList (by k_asm) (by k_mem)); (case h1 => with_reducible assumption); (case h2 => with_reducible assumption); (case e1 => with_reducible assumption); (case e2 => with_reducible assumption); (case hu => ktr_units)))
local macro_rules | `(tactic| walk_at "compareOp NotEq ref ref") => `(tactic| (k_here; k_dflt (first | (refine' ne_dec ?ha ?hb ?e1 ?e2 ?h1 ?h2 ?hu ?_; walk_at "u8") | (refine' ne_col ?ha ?hb ?e1 ?e2 ?h1 ?h2 ?hu ?_; walk_at "u8"))))
local macro_rules | `(tactic| walk_at "compareOp NotEq none ref") => `(tactic| (k_here; exfalso; first | exact dec_no (by with_reducible assumption) (by with_reducible assumption) | exact col_no (by with_reducible assumption) (by with_reducible assumption)))
local macro_rules | `(tactic| walk_at "compareOp NotEq ref none") => `(tactic| (k_here; exfalso; first | exact dec_no (by with_reducible assumption) (by with_reducible assumption) | exact col_no (by with_reducible assumption) (by with_reducible assumption)))
local macro_rules | `(tactic| walk_at "compareOp NotEq none none") => `(tactic| (k_here; k_dflt (refine ne_none ?_)))
local macro_rules | `(tactic| walk_at "call ref") => `(tactic| (k_here; (with_reducible show wpAny _ _ (PySem.call (Value.ref 192) [Value.ref _]) _ _ _); k_dflt (first | (refine' heardD_ct (below_caller _) ?kF ?kK ?kN ?kT ?kk ?hmc ?hoc ?hov ?hm1 ?ho1 ?hks ?hb ?hmf ?kd ?ku ?_ ?_; walk_at "u5"; walk_at "u7") | (refine' heardC_ct (below_caller _) ?kF ?kK ?kN ?kT ?kk ?hmc ?hoc ?hov ?hm1 ?ho1 ?hks ?hb ?hm2 ?ho2 ?hmf ?kd ?ku ?_ ?_; walk_at "u5"; walk_at "u7"; (case hm2 => k_mem); (case ho2 => with_reducible assumption))); walk_at "u6"))

set_option maxHeartbeats 8000000 in
theorem law_holds : PySem.Challenge.rw_pb0446_01.Holds := by
  w_on
  o_law
  refine holds_open (q := hd.view_39) (loose := hd.loose) (Xt := fun s => xlAt hd.view_39 hd.read s && recOk (RowW.records PySem.Challenge.rw_pb0446_01.row.toRowW) s) (XP := XL hd.view_39 hd.read) (Yf := Hook.obs hd.hook) (Ya := Hook.val hd.hook) (YP := Hook.says hd.hook) (N := 2604) hd.left (Hook.of hd.hook) (Hook.keeps hd.hook) (fun s e => xl_of s (Bool.and_eq_true_iff.mp e).1) XL.keeps (by rfl) (by rfl) (by rfl) (fun s e => recFacts_of (Bool.and_eq_true_iff.mp e).2) (by rfl) (by first | assumption | decide +kernel) (by decide +kernel) ⟨rfl, rfl, rfl, rfl, rfl, by decide +kernel⟩ ?hw ?hc
  case hw => w_witness2
  unfold hd.hook hd.loose hd.read
  k_go0
  all_goals (try k_fold)
  rename Shared => s₁
  k_steps
  refine Stop.go ?_
  rename Fr _ _ _ _ => lF
  rename News _ _ _ _ => lN
  rename IsRange _ _ _ _ _ _ _ _ => hr
  refine nameO lN fun Y X oo oc e1 e2 e3 e4 => ?_
  subst e1 e2 e3 e4
  rename Heap.IsList (ghostOf _ _) _ _ => hLst
  refine nameL hLst fun S e => ?_
  subst e
  have hsz : 194 < s₁.heap.objs.size := by omega
  refine forG (σ := OS) (n := Int.toNat _) (fun c => ((s₁.heap.objs.size + 1 + 1), c.oo) :: ((s₁.heap.objs.size + 1), c.oc) :: tabL c.tb) (fun c => [(Str.ofString "script", .ref S)])
    (fun pre c => OInv s₁.heap.objs.size c) ⟨oc, oo, none⟩ (by with_unfolding_all rfl) hr (rng_small (by omega) (by omega)) (rng_size (by omega)) lF lN (by dsimp only [tabL]; ktr_rel) (by kst_all) ⟨⟨_, by assumption⟩, ⟨_, by assumption⟩, tab0 hsz, trivial⟩ ?_ ?_
  · clear lF lN
    rintro ⟨oc, oo, tb⟩ pre k tk u h tk' own hE hpl hoff hT F₁ N₁
    obtain ⟨⟨cv, hc1⟩, ⟨co, hc2⟩, hTt, hTf⟩ := hT
    dsimp only at hc1 hc2 hTt hTf
    dsimp only [ovr] at F₁ N₁ ⊢
    have hTn := hTt.ne
    have hYn : ∀ p ∈ tabL tb ++ own, p.1 ≠ (s₁.heap.objs.size + 1 + 1) := tabY rfl hTn hoff
    simp only [List.cons_append] at N₁
    (try k_fold)
    k_steps
    refine Stop.go ?_
    rename Fr _ _ _ _ => F₂
    rename News _ _ _ _ => N₂
    rename _ = Data.cell (some (Value.bytes _ _)) => hcell
    rename KBw.bInts _ = _ => hks
    refine if_midT (σ := Addr × Obj × Option (Addr × Obj)) (fun c => tabL (some c)) (fun c => TabOk s₁.heap.objs.size (some c) ∧ OwnOff own ((tabL (some c)).map (·.1))) F₂ N₂ ?_ ?_
    · clear hE hpl hYn F₁ N₁
      cases tb with
      | none =>
        dsimp only [tabL] at N₂
        simp only [List.cons_append, List.nil_append] at N₂
        k_steps
        · rename Fr _ _ _ _ => nF
          rename News _ _ _ _ => nE
          refine name_c4 nE fun x ox e1 e2 => ?_
          subst e1 e2
          rename _ ∧ _ ∧ _ ∧ AllLt _ own => lC
          rename _ = Data.fields _ => hdo
          rename _ = some (Value.str _ _) => hdv
          exact MidEnd.mk' (x, ox, none) nF nE (fun p hp => List.mem_cons_of_mem _ (List.mem_cons_of_mem _ (List.mem_cons_of_mem _ (sub1T p hp)))) ⟨tab1 hsz lC.1 (codeO hdo hdv), off1 hoff lC.2.2.2⟩
        · rename Fr _ _ _ _ => nF
          rename News _ _ _ _ => nE
          refine name_c2 nE fun x ox e1 e2 => ?_
          subst e1 e2
          rename _ ∧ _ ∧ _ ∧ AllLt _ own => lC
          rename _ = Data.fields _ => hdo
          rename _ = some (Value.str _ _) => hdv
          exact MidEnd.mk' (x, ox, none) nF nE (fun p hp => List.mem_cons_of_mem _ (sub1T p hp)) ⟨tab1 hsz lC.1 (codeO hdo hdv), off1 hoff lC.2.2.2⟩
      | some c =>
        obtain ⟨x, ox, yo⟩ := c
        cases yo with
        | none => exact hTf.elim
        | some p =>
          obtain ⟨y, oy⟩ := p
          obtain ⟨vsx, tx, hdx, hvx⟩ := (hTt.cod _ _ _ rfl).1
          dsimp only [tabL] at N₂
          simp only [List.cons_append, List.nil_append] at N₂
          k_steps
          · rename Fr _ _ _ _ => nF
            rename News _ _ _ _ => nE
            exact MidEnd.mk' (x, ox, some (y, oy)) nF nE (fun p hp => by exact List.mem_cons_of_mem _ (List.mem_cons_of_mem _ (List.mem_cons_of_mem _ (hp)))) ⟨hTt, offT hoff⟩
          · rename Fr _ _ _ _ => nF
            rename News _ _ _ _ => nE
            exact MidEnd.mk' (x, ox, some (y, oy)) nF nE (fun p hp => by exact List.mem_cons_of_mem _ (hp)) ⟨hTt, offT hoff⟩
    · rintro ⟨x, ox, yo⟩ h₃ tk₃ ⟨hT3, ho3⟩ F₃ N₃
      refine nameO N₃ fun Y' X' oo' oc' e1 e2 e3 e4 => ?_
      subst e1 e2 e3 e4
      dsimp only
      k_steps
      refine Stop.go ?_
      rename Fr _ _ _ _ => lF
      rename News _ _ _ _ => lN
      rename IsRange _ _ _ _ _ _ _ _ => hr2
      refine forG (σ := Obj × Option (Addr × Obj)) (n := 5) (fun c => ((s₁.heap.objs.size + 1 + 1), oo') :: ((s₁.heap.objs.size + 1), c.1) :: (tabL (some (x, ox, c.2)) ++ own)) (fun c => [(Str.ofString "script", .ref S)])
        (fun pre c => CInn s₁.heap.objs.size x ox own pre c) (oc', yo) (by with_unfolding_all rfl) hr2 (rng_small (by omega) (by omega)) (by decide) lF lN (by ktr_rel) (by kst_all) ⟨⟨_, hc1⟩, hT3, ho3, fun h => absurd rfl h⟩ ?_ ?_
      · clear lF lN hr2
        rintro ⟨oc, yo⟩ pre2 k2 t2 u2 h2 tk2 own2 hE2 hpl2 hoff2 hT2 F₄ N₄
        obtain ⟨⟨cv2, hd2⟩, hT4, ho4, hf4⟩ := hT2
        dsimp only at hd2 hT4 ho4 hf4 hoff2
        dsimp only [ovr] at F₄ N₄ ⊢
        have hTn4 := hT4.ne
        have hXn : ∀ p ∈ tabL (some (x, ox, yo)) ++ (own ++ own2), p.1 ≠ (s₁.heap.objs.size + 1) := tabX rfl hTn4 hoff hoff2
        simp only [List.cons_append, List.append_assoc] at N₄
        have hco := hcell
        (try k_fold)
        k_steps
        refine Stop.go ?_
        rename Fr _ _ _ _ => F₅
        rename News _ _ _ _ => N₅
        refine if_midT (σ := Addr × Obj) (fun c => tabL (some (x, ox, some c))) (fun c => TabOk s₁.heap.objs.size (some (x, ox, some c)) ∧ OwnOff own ((tabL (some (x, ox, some c))).map (·.1)) ∧ OwnOff own2 ((tabL (some (x, ox, some c))).map (·.1))) F₅ N₅ ?_ ?_
        · clear hE2 hpl2 hXn F₄ N₄
          cases yo with
          | none =>
            have hxb := hT4.big _ _ _ rfl
            have hown : ∀ p ∈ own ++ own2, p.1 ≠ 194 := own194 ho4 (offA hoff2)
            dsimp only [tabL] at N₅
            simp only [List.cons_append, List.nil_append] at N₅
            k_steps
            · rename Fr _ _ _ _ => nF
              rename News _ _ _ _ => nE
              refine name_c4 nE fun y oy e1 e2 => ?_
              subst e1 e2
              rename _ ∧ _ ∧ _ ∧ _ ∧ AllLt _ (own ++ own2) => lC
              rename _ = Data.fields _ => hdo
              rename _ = some (Value.str _ _) => hdv
              exact MidEnd.mk' (y, oy) nF nE (fun p hp => List.mem_cons_of_mem _ (List.mem_cons_of_mem _ (List.mem_cons_of_mem _ (sub2T p hp)))) ⟨tab2 hT4 lC.1 (codeO hdo hdv), off2 ho4 (allLt_l lC.2.2.2.2), off2 (offA hoff2) (allLt_r lC.2.2.2.2)⟩
            · rename Fr _ _ _ _ => nF
              rename News _ _ _ _ => nE
              refine name_c2 nE fun y oy e1 e2 => ?_
              subst e1 e2
              rename _ ∧ _ ∧ _ ∧ _ ∧ AllLt _ (own ++ own2) => lC
              rename _ = Data.fields _ => hdo
              rename _ = some (Value.str _ _) => hdv
              exact MidEnd.mk' (y, oy) nF nE (fun p hp => List.mem_cons_of_mem _ (sub2T p hp)) ⟨tab2 hT4 lC.1 (codeO hdo hdv), off2 ho4 (allLt_l lC.2.2.2.2), off2 (offA hoff2) (allLt_r lC.2.2.2.2)⟩
          | some p =>
            obtain ⟨y, oy⟩ := p
            obtain ⟨vsx, tx, hdx, hvx⟩ := (hT4.cod _ _ _ rfl).2 _ _ rfl
            dsimp only [tabL] at N₅
            simp only [List.cons_append, List.nil_append] at N₅
            k_steps
            · rename Fr _ _ _ _ => nF
              rename News _ _ _ _ => nE
              exact MidEnd.mk' (y, oy) nF nE (fun p hp => by exact List.mem_cons_of_mem _ (List.mem_cons_of_mem _ (List.mem_cons_of_mem _ (hp)))) ⟨hT4, ho4, offA hoff2⟩
            · rename Fr _ _ _ _ => nF
              rename News _ _ _ _ => nE
              exact MidEnd.mk' (y, oy) nF nE (fun p hp => by exact List.mem_cons_of_mem _ (hp)) ⟨hT4, ho4, offA hoff2⟩
        · rintro ⟨y, oy⟩ h₅ tk₅ ⟨hT5, ho5, ho6⟩ F₆ N₆
          rename _ = Data.cell (some (Value.int _ _)) => hd5
          refine nameO N₆ fun Y' X' o6 c6 e1 e2 e3 e4 => ?_
          subst e1 e2 e3 e4
          refine wpAny_execs_nil ?_
          exact EndG.mk' (c6, some (y, oy)) F₆ N₆ subA subB (offB hoff2 ho6) (by kst_all) ⟨⟨_, hd5⟩, hT5, ho5, fun _ => nofun⟩
      · rintro ⟨oc, yo⟩ pre2 u2 h2 tk2 hl2 ⟨⟨cv2, hd2⟩, hT4, ho4, hf4⟩ F₄ N₄
        dsimp only [ovr] at hd2 hT4 ho4 hf4 F₄ N₄
        refine wpAny_execs_nil ?_
        cases yo with
        | none => exact absurd rfl (hf4 (fun e => by rw [e] at hl2; cases hl2))
        | some p => exact EndG.mk' (OS.mk oc oo' (some (x, ox, some p))) F₄ N₄ subC subD (offC hoff ho4) (by kst_all) ⟨⟨_, hd2⟩, ⟨_, hcell⟩, hT4, trivial⟩
  · rintro ⟨oc, oo, tb⟩ pre u h tk hl ⟨⟨cv, hc1⟩, ⟨co, hc2⟩, hTt, hTf⟩ F₁ N₁
    dsimp only [ovr] at hc1 hc2 hTt hTf F₁ N₁
    obtain ⟨ps, hps⟩ := tab_has tb
    have N₂ := tab_news (tb := tb) N₁ hps
    clear N₁ hps hTt hTf hc1 hc2
    dsimp only
    k_steps
end Mine
set_option maxRecDepth 100000 in
set_option maxHeartbeats 8000000 in
theorem PySem.Challenge.cw_pb0446_01_holds : PySem.Challenge.rw_pb0446_01.Holds := by
  exact Mine.law_holds
