import PyProof.Rows.All
import Wide.All
import OpenK.AllK
import Wide.FinOn
import Lean
import PySem.Challenge.RW_ot0032_01
open PySem PySem.W PyProof.Rows
set_option Elab.async false
set_option maxRecDepth 100000
set_option linter.unusedVariables false
set_option linter.unusedSectionVars false
set_option maxHeartbeats 20000000
set_option compiler.extract_closed false
set_option genSizeOf false
set_option genInjectivity false
/-! ## the head: what the top's run leaves -/
namespace Mine.hd
/-- from the top's run and what is seen behind it -/
theorem left_of_run {p q : Program} {loose : List Str} {Xt : Shared → Bool} {α : Type} {Yf : Shared → α} {Ya : World → α} {N m₀ : Nat} {ann : Option Value} {R : World → OsState → Shared}
    (e : opening p = plainProg p.main.scope.names) (hN : Nat.ble 600 N = true) (f : ∀ s, fenceModules? p s = some s)
    (size : ∀ w : World, ((boot_heap w.params).isNs mainGlobals, (boot_heap w.params).objs.size, (boot_heap w.params).nsMap mainGlobals "__annotations__") = (true, m₀, ann))
    (run : ∀ (w : World) (os : OsState), topRun treeTable p w m₀ ann N ⟨boot_heap w.params, Array.mk [], boot_drawn, boot_toks, os⟩ (topStub p) = some (R w os))
    (look1 : ∀ (w : World) (os : OsState), (staticsOk (importedModules p.main.body) (boot_heap w.params) (R w os).heap && namesBound p (R w os).heap && gensDone (R w os) && laidKept (boot_heap w.params) (R w os).heap) = true)
    (look2 : ∀ (w : World) (os : OsState), openSeen q loose (importedModules p.main.body) Xt true (R w os) = openGood q loose)
    (look3 : ∀ (w : World) (os : OsState), Yf (R w os) = Ya w) : LeftO p q loose Xt Yf Ya N := fun w => by
  obtain ⟨⟨h, gs, d, k, os⟩, e1, e2⟩ := Option.map_eq_some_iff.mp (boot_open e hN f w)
  obtain ⟨rfl, rfl, rfl, rfl⟩ : h = boot_heap w.params ∧ gs = Array.mk [] ∧ d = boot_drawn ∧ k = boot_toks := by simpa using e2
  obtain ⟨z1, z2, z3⟩ : _ ∧ _ ∧ _ := by simpa only [Prod.mk.injEq] using size w
  have t : topFrom treeTable p w N ⟨boot_heap w.params, Array.mk [], boot_drawn, boot_toks, os⟩ = some (R w os) := by
    unfold topFrom
    dsimp only
    rw [z1, z2, z3, run w os]
    show (match staticsOk (importedModules p.main.body) (boot_heap w.params) (R w os).heap && namesBound p (R w os).heap && gensDone (R w os) && laidKept (boot_heap w.params) (R w os).heap with | true => _ | false => _) = _
    rw [look1 w os]
  unfold openEnds
  rw [e1]
  show (topFrom treeTable p w N _).map _ = _
  rw [t]
  exact congrArg some (Prod.ext (look2 w os) (look3 w os))
noncomputable abbrev pw : Program := PySem.Challenge.rw_ot0032_01.row.prog
noncomputable def st (i : Nat) : Option Stmt := PySem.Challenge.pw_ot0032_01.main.body[i]?
noncomputable def sub (j : Nat) : Option Stmt → Option Stmt
  | some (.ClassDef _ _ _ b _ _ _ _ _ _ _) => b[j]?
  | _ => none
noncomputable def fA : Option Stmt → Arguments
  | some (.FunctionDef _ a _ _ _ _ _ _ _ _) => a
  | _ => ⟨[], [], none, [], [], none, []⟩
noncomputable def fB : Option Stmt → List Stmt
  | some (.FunctionDef _ _ b _ _ _ _ _ _ _) => b
  | _ => []
noncomputable def fS : Option Stmt → Scope
  | some (.FunctionDef _ _ _ _ _ _ s _ _ _) => s
  | _ => ⟨.function, [], false, false, []⟩
noncomputable abbrev fnR (name qual : Str) (s : Option Stmt) (g : Addr) (cl : List (Str × Addr)) (dV kV doc pm : Value) (an : Option Addr) (cd ct : Value) (bt : Addr) : FuncData :=
  ⟨name, qual, fA s, .stmts (fB s), fS s, g, cl, dV, kV, doc, pm, an, cd, ct, bt⟩
/-! the objects that the walk may ask for, each at its place -/
noncomputable def o2 (P : Params) : Obj := ⟨.none,.none,(.dict #[⟨(PyData.keyHash P "type.__subclasses__.Exception.0"),(.str "type.__subclasses__.Exception.0" 224),(.int 39 0)⟩,⟨(PyData.keyHash P "type.__subclasses__.Exception.n"),(.str "type.__subclasses__.Exception.n" 225),(.int 1 0)⟩] 2),#[]⟩
noncomputable def o3 (P : Params) : Obj := ⟨(.type "dict"),.none,(.dict #[⟨(PyData.keyHash P "__name__"),(.str "__name__" 165),(.str "law_ot0032_01" 801)⟩,⟨(PyData.keyHash P "__doc__"),(.str "__doc__" 166),.none⟩,⟨(PyData.keyHash P "__package__"),(.str "__package__" 167),.none⟩,⟨(PyData.keyHash P "__loader__"),(.str "__loader__" 168),(.builtin "__main__.__loader__#opaque")⟩,⟨(PyData.keyHash P "__spec__"),(.str "__spec__" 169),.none⟩,⟨(PyData.keyHash P "__annotations__"),(.str "__annotations__" 170),(.ref 6)⟩,⟨(PyData.keyHash P "__builtins__"),(.str "__builtins__" 171),(.ref 4)⟩,⟨(PyData.keyHash P "__file__"),(.str "__file__" 173),(.str "/claim/cut.py" 172)⟩,⟨(PyData.keyHash P "__cached__"),(.str "__cached__" 174),.none⟩,⟨(PyData.keyHash P "_wall"),(.str "_wall" 193),(.ref 21)⟩,⟨(PyData.keyHash P "LendError"),(.str "LendError" 227),(.ref 39)⟩,⟨(PyData.keyHash P "parts_of"),(.str "parts_of" 237),(.ref 49)⟩,⟨(PyData.keyHash P "rebuilt"),(.str "rebuilt" 246),(.ref 56)⟩,⟨(PyData.keyHash P "substituted"),(.str "substituted" 252),(.ref 61)⟩,⟨(PyData.keyHash P "with_regions"),(.str "with_regions" 258),(.ref 66)⟩,⟨(PyData.keyHash P "regions_in"),(.str "regions_in" 267),(.ref 73)⟩,⟨(PyData.keyHash P "field_rows"),(.str "field_rows" 276),(.ref 80)⟩,⟨(PyData.keyHash P "fields_of"),(.str "fields_of" 282),(.ref 85)⟩,⟨(PyData.keyHash P "Body"),(.str "Body" 370),(.ref 146)⟩,⟨(PyData.keyHash P "field_type"),(.str "field_type" 380),(.ref 157)⟩,⟨(PyData.keyHash P "projected"),(.str "projected" 391),(.ref 164)⟩,⟨(PyData.keyHash P "place_type"),(.str "place_type" 403),(.ref 171)⟩,⟨(PyData.keyHash P "Relation"),(.str "Relation" 482),(.ref 217)⟩,⟨(PyData.keyHash P "inner_way"),(.str "inner_way" 490),(.ref 228)⟩,⟨(PyData.keyHash P "related"),(.str "related" 500),(.ref 235)⟩,⟨(PyData.keyHash P "Signature"),(.str "Signature" 548),(.ref 264)⟩,⟨(PyData.keyHash P "callee_sig"),(.str "callee_sig" 554),(.ref 273)⟩,⟨(PyData.keyHash P "Constraints"),(.str "Constraints" 675),(.ref 344)⟩,⟨(PyData.keyHash P "rvalue_regions"),(.str "rvalue_regions" 682),(.ref 355)⟩,⟨(PyData.keyHash P "callee_regions"),(.str "callee_regions" 688),(.ref 360)⟩,⟨(PyData.keyHash P "greatest_region"),(.str "greatest_region" 694),(.ref 365)⟩,⟨(PyData.keyHash P "constraints_of"),(.str "constraints_of" 709),(.ref 372)⟩,⟨(PyData.keyHash P "Adt"),(.str "Adt" 753),(.ref 391)⟩,⟨(PyData.keyHash P "World"),(.str "World" 800),(.ref 420)⟩,⟨(PyData.keyHash P "_law_pool"),(.str "_law_pool" 813),(.ref 431)⟩,⟨(PyData.keyHash P "_law_take"),(.str "_law_take" 822),(.ref 438)⟩,⟨(PyData.keyHash P "_law_one"),(.str "_law_one" 830),(.ref 445)⟩,⟨(PyData.keyHash P "_law_U8"),(.str "_law_U8" 833),(.ref 446)⟩,⟨(PyData.keyHash P "_law_type"),(.str "_law_type" 842),(.ref 453)⟩,⟨(PyData.keyHash P "_law_like"),(.str "_law_like" 848),(.ref 458)⟩,⟨(PyData.keyHash P "_law_pairs"),(.str "_law_pairs" 854),(.ref 463)⟩,⟨(PyData.keyHash P "_law_within"),(.str "_law_within" 862),(.ref 470)⟩,⟨(PyData.keyHash P "_law_place"),(.str "_law_place" 876),(.ref 477)⟩,⟨(PyData.keyHash P "_law_lent"),(.str "_law_lent" 892),(.ref 484)⟩,⟨(PyData.keyHash P "_law_made"),(.str "_law_made" 910),(.ref 491)⟩,⟨(PyData.keyHash P "_law_right"),(.str "_law_right" 916),(.ref 496)⟩,⟨(PyData.keyHash P "law"),(.str "law" 922),(.ref 501)⟩] 47),#[]⟩
noncomputable def o15 (P : Params) : Obj := ⟨(.type "tuple"),.none,(.seq #[] 0),#[]⟩
noncomputable def o17 (P : Params) : Obj := ⟨(.type "tuple"),.none,(.seq #[(.str "k" 190)] 0),#[]⟩
noncomputable def o18 (P : Params) : Obj := ⟨(.type "tuple"),.none,(.seq #[] 0),#[]⟩
noncomputable def o20 (P : Params) : Obj := ⟨(.type "code"),.none,(.fields #[(.str "_wall" 187),(.str "_wall" 188),(.str "/claim/cut.py" 189),(.int 1 0),(.int 1 0),(.int 0 0),(.int 0 0),(.int 3 0),(.ref 15),(.bool .true),(.int 181 0),(.ref 16),.none,(.ref 17),(.ref 18),(.ref 19),(.int 191 0),(.int 1 0),(.str "/claim/cut.py" 192)]),#[]⟩
noncomputable def o21 (P : Params) : Obj := ⟨(.type "function"),.none,(.func (fnR "_wall" "_wall" (st 0) 3 [] .none .none .none (.str "__main__" 164) .none (.ref 20) .none 0)),#[]⟩
noncomputable def o22 (P : Params) : Obj := ⟨(.type "tuple"),.none,(.seq #[(.type "Exception")] 0),#[]⟩
noncomputable def o29 (P : Params) : Obj := ⟨(.type "tuple"),.none,(.seq #[(.int 0 208)] 0),#[]⟩
noncomputable def o30 (P : Params) : Obj := ⟨(.type "tuple"),.none,(.seq #[] 0),#[]⟩
noncomputable def o32 (P : Params) : Obj := ⟨(.type "tuple"),.none,(.seq #[(.str "self" 212),(.str "message" 213),(.str "spot" 214)] 0),#[]⟩
noncomputable def o33 (P : Params) : Obj := ⟨(.type "tuple"),.none,(.seq #[] 0),#[]⟩
noncomputable def o35 (P : Params) : Obj := ⟨(.type "code"),.none,(.fields #[(.str "__init__" 209),(.str "LendError.__init__" 210),(.str "/claim/cut.py" 211),(.int 7 0),(.int 3 0),(.int 0 0),(.int 0 0),(.int 3 0),(.ref 30),(.bool .true),(.int 181 0),(.ref 31),.none,(.ref 32),(.ref 33),(.ref 34),(.int 215 0),(.int 7 0),(.str "/claim/cut.py" 216)]),#[]⟩
noncomputable def o36 (P : Params) : Obj := ⟨(.type "function"),.none,(.func (fnR "__init__" "LendError.__init__" (sub 0 (st 2)) 3 [] (.ref 29) .none .none (.str "lendcore.errors" 194) .none (.ref 35) .none 0)),#[]⟩
noncomputable def o37 (P : Params) : Obj := ⟨(.type "tuple"),.none,(.seq #[(.str "message" 218),(.str "spot" 219)] 0),#[]⟩
noncomputable def o38 (P : Params) : Obj := ⟨(.type "dict"),.none,(.dict #[⟨(PyData.keyHash P "__module__"),(.str "__module__" 203),(.str "lendcore.errors" 194)⟩,⟨(PyData.keyHash P "__firstlineno__"),(.str "__firstlineno__" 207),(.int 5 206)⟩,⟨(PyData.keyHash P "__init__"),(.str "__init__" 217),(.ref 36)⟩,⟨(PyData.keyHash P "__static_attributes__"),(.str "__static_attributes__" 220),(.ref 37)⟩,⟨(PyData.keyHash P "__weakref__"),(.str "__weakref__" 222),(.ref 40)⟩,⟨(PyData.keyHash P "__doc__"),(.str "__doc__" 223),.none⟩] 3),#[]⟩
noncomputable def o39 (P : Params) : Obj := ⟨(.type "type"),.none,(.cls ⟨"LendError",[(.type "Exception")],[(.ref 39),(.type "Exception"),(.type "BaseException"),(.type "object")],38,"LendError",.true,[],[],.false,.none,.false⟩),#[(.some (.ref 22)),.none,(.some (.str "LendError" 196)),(.some (.str "LendError" 204)),(.some (.builtin "Exception.__new__")),(.some (.bool .true))]⟩
noncomputable def o40 (P : Params) : Obj := ⟨(.type "getset_descriptor"),.none,(.fields #[(.str "__weakref__" 221),(.ref 39),(.builtin "ExceptionGroup.__weakref__"),.none]),#[]⟩
noncomputable def o43 (P : Params) : Obj := ⟨(.type "tuple"),.none,(.seq #[] 0),#[]⟩
noncomputable def o45 (P : Params) : Obj := ⟨(.type "tuple"),.none,(.seq #[(.str "told" 233),(.str "kind" 234)] 0),#[]⟩
noncomputable def o46 (P : Params) : Obj := ⟨(.type "tuple"),.none,(.seq #[] 0),#[]⟩
noncomputable def o48 (P : Params) : Obj := ⟨(.type "code"),.none,(.fields #[(.str "parts_of" 230),(.str "parts_of" 231),(.str "/claim/cut.py" 232),(.int 12 0),(.int 1 0),(.int 0 0),(.int 0 0),(.int 3 0),(.ref 43),(.bool .true),(.int 181 0),(.ref 44),.none,(.ref 45),(.ref 46),(.ref 47),(.int 235 0),(.int 12 0),(.str "/claim/cut.py" 236)]),#[]⟩
noncomputable def o49 (P : Params) : Obj := ⟨(.type "function"),.none,(.func (fnR "parts_of" "parts_of" (st 4) 3 [] .none .none .none (.str "lendcore.types" 228) .none (.ref 48) .none 0)),#[]⟩
noncomputable def o50 (P : Params) : Obj := ⟨(.type "tuple"),.none,(.seq #[] 0),#[]⟩
noncomputable def o52 (P : Params) : Obj := ⟨(.type "tuple"),.none,(.seq #[(.str "told" 241),(.str "parts" 242),(.str "kind" 243)] 0),#[]⟩
noncomputable def o53 (P : Params) : Obj := ⟨(.type "tuple"),.none,(.seq #[] 0),#[]⟩
noncomputable def o55 (P : Params) : Obj := ⟨(.type "code"),.none,(.fields #[(.str "rebuilt" 238),(.str "rebuilt" 239),(.str "/claim/cut.py" 240),(.int 21 0),(.int 2 0),(.int 0 0),(.int 0 0),(.int 3 0),(.ref 50),(.bool .true),(.int 181 0),(.ref 51),.none,(.ref 52),(.ref 53),(.ref 54),(.int 244 0),(.int 21 0),(.str "/claim/cut.py" 245)]),#[]⟩
noncomputable def o56 (P : Params) : Obj := ⟨(.type "function"),.none,(.func (fnR "rebuilt" "rebuilt" (st 5) 3 [] .none .none .none (.str "lendcore.types" 228) .none (.ref 55) .none 0)),#[]⟩
noncomputable def o57 (P : Params) : Obj := ⟨(.type "tuple"),.none,(.seq #[] 0),#[]⟩
noncomputable def o60 (P : Params) : Obj := ⟨(.type "code"),.none,(.fields #[(.str "substituted" 247),(.str "substituted" 248),(.str "/claim/cut.py" 249),(.int 32 0),(.int 2 0),(.int 0 0),(.int 0 0),(.int 3 0),(.ref 57),(.bool .true),(.int 181 0),(.ref 58),.none,.none,.none,(.ref 59),(.int 250 0),(.int 32 0),(.str "/claim/cut.py" 251)]),#[]⟩
noncomputable def o61 (P : Params) : Obj := ⟨(.type "function"),.none,(.func (fnR "substituted" "substituted" (st 6) 3 [] .none .none .none (.str "lendcore.types" 228) .none (.ref 60) .none 0)),#[]⟩
noncomputable def o62 (P : Params) : Obj := ⟨(.type "tuple"),.none,(.seq #[] 0),#[]⟩
noncomputable def o65 (P : Params) : Obj := ⟨(.type "code"),.none,(.fields #[(.str "with_regions" 253),(.str "with_regions" 254),(.str "/claim/cut.py" 255),(.int 36 0),(.int 2 0),(.int 0 0),(.int 0 0),(.int 3 0),(.ref 62),(.bool .true),(.int 181 0),(.ref 63),.none,.none,.none,(.ref 64),(.int 256 0),(.int 36 0),(.str "/claim/cut.py" 257)]),#[]⟩
noncomputable def o66 (P : Params) : Obj := ⟨(.type "function"),.none,(.func (fnR "with_regions" "with_regions" (st 7) 3 [] .none .none .none (.str "lendcore.types" 228) .none (.ref 65) .none 0)),#[]⟩
noncomputable def o67 (P : Params) : Obj := ⟨(.type "tuple"),.none,(.seq #[] 0),#[]⟩
noncomputable def o69 (P : Params) : Obj := ⟨(.type "tuple"),.none,(.seq #[(.str "told" 262),(.str "noted" 263)] 0),#[]⟩
noncomputable def o70 (P : Params) : Obj := ⟨(.type "tuple"),.none,(.seq #[(.str "found" 264)] 0),#[]⟩
noncomputable def o72 (P : Params) : Obj := ⟨(.type "code"),.none,(.fields #[(.str "regions_in" 259),(.str "regions_in" 260),(.str "/claim/cut.py" 261),(.int 42 0),(.int 1 0),(.int 0 0),(.int 0 0),(.int 3 0),(.ref 67),(.bool .true),(.int 181 0),(.ref 68),.none,(.ref 69),(.ref 70),(.ref 71),(.int 265 0),(.int 42 0),(.str "/claim/cut.py" 266)]),#[]⟩
noncomputable def o73 (P : Params) : Obj := ⟨(.type "function"),.none,(.func (fnR "regions_in" "regions_in" (st 8) 3 [] .none .none .none (.str "lendcore.types" 228) .none (.ref 72) .none 0)),#[]⟩
noncomputable def o74 (P : Params) : Obj := ⟨(.type "tuple"),.none,(.seq #[] 0),#[]⟩
noncomputable def o76 (P : Params) : Obj := ⟨(.type "tuple"),.none,(.seq #[(.str "told" 271),(.str "variant" 272),(.str "world" 273)] 0),#[]⟩
noncomputable def o77 (P : Params) : Obj := ⟨(.type "tuple"),.none,(.seq #[] 0),#[]⟩
noncomputable def o79 (P : Params) : Obj := ⟨(.type "code"),.none,(.fields #[(.str "field_rows" 268),(.str "field_rows" 269),(.str "/claim/cut.py" 270),(.int 50 0),(.int 3 0),(.int 0 0),(.int 0 0),(.int 3 0),(.ref 74),(.bool .true),(.int 181 0),(.ref 75),.none,(.ref 76),(.ref 77),(.ref 78),(.int 274 0),(.int 50 0),(.str "/claim/cut.py" 275)]),#[]⟩
noncomputable def o80 (P : Params) : Obj := ⟨(.type "function"),.none,(.func (fnR "field_rows" "field_rows" (st 9) 3 [] .none .none .none (.str "lendcore.types" 228) .none (.ref 79) .none 0)),#[]⟩
noncomputable def o81 (P : Params) : Obj := ⟨(.type "tuple"),.none,(.seq #[] 0),#[]⟩
noncomputable def o84 (P : Params) : Obj := ⟨(.type "code"),.none,(.fields #[(.str "fields_of" 277),(.str "fields_of" 278),(.str "/claim/cut.py" 279),(.int 52 0),(.int 3 0),(.int 0 0),(.int 0 0),(.int 3 0),(.ref 81),(.bool .true),(.int 181 0),(.ref 82),.none,.none,.none,(.ref 83),(.int 280 0),(.int 52 0),(.str "/claim/cut.py" 281)]),#[]⟩
noncomputable def o85 (P : Params) : Obj := ⟨(.type "function"),.none,(.func (fnR "fields_of" "fields_of" (st 10) 3 [] .none .none .none (.str "lendcore.types" 228) .none (.ref 84) .none 0)),#[]⟩
noncomputable def o93 (P : Params) : Obj := ⟨(.type "tuple"),.none,(.seq #[.none,.none] 0),#[]⟩
noncomputable def o94 (P : Params) : Obj := ⟨(.type "tuple"),.none,(.seq #[] 0),#[]⟩
noncomputable def o96 (P : Params) : Obj := ⟨(.type "tuple"),.none,(.seq #[(.str "self" 300),(.str "name" 301),(.str "arg_count" 302),(.str "locals_told" 303),(.str "blocks" 304),(.str "spots" 305)] 0),#[]⟩
noncomputable def o97 (P : Params) : Obj := ⟨(.type "tuple"),.none,(.seq #[] 0),#[]⟩
noncomputable def o99 (P : Params) : Obj := ⟨(.type "code"),.none,(.fields #[(.str "__init__" 297),(.str "Body.__init__" 298),(.str "/claim/cut.py" 299),(.int 67 0),(.int 6 0),(.int 0 0),(.int 0 0),(.int 3 0),(.ref 94),(.bool .true),(.int 181 0),(.ref 95),.none,(.ref 96),(.ref 97),(.ref 98),(.int 306 0),(.int 67 0),(.str "/claim/cut.py" 307)]),#[]⟩
noncomputable def o100 (P : Params) : Obj := ⟨(.type "function"),.none,(.func (fnR "__init__" "Body.__init__" (sub 0 (st 12)) 3 [] (.ref 93) .none .none (.str "lendcore.mir" 283) .none (.ref 99) .none 0)),#[]⟩
noncomputable def o101 (P : Params) : Obj := ⟨(.type "tuple"),.none,(.seq #[] 0),#[]⟩
noncomputable def o103 (P : Params) : Obj := ⟨(.type "tuple"),.none,(.seq #[(.str "self" 312),(.str "local" 313)] 0),#[]⟩
noncomputable def o104 (P : Params) : Obj := ⟨(.type "tuple"),.none,(.seq #[] 0),#[]⟩
noncomputable def o106 (P : Params) : Obj := ⟨(.type "code"),.none,(.fields #[(.str "type_of" 309),(.str "Body.type_of" 310),(.str "/claim/cut.py" 311),(.int 74 0),(.int 2 0),(.int 0 0),(.int 0 0),(.int 3 0),(.ref 101),(.bool .true),(.int 181 0),(.ref 102),.none,(.ref 103),(.ref 104),(.ref 105),(.int 314 0),(.int 74 0),(.str "/claim/cut.py" 315)]),#[]⟩
noncomputable def o107 (P : Params) : Obj := ⟨(.type "function"),.none,(.func (fnR "type_of" "Body.type_of" (sub 1 (st 12)) 3 [] .none .none .none (.str "lendcore.mir" 283) .none (.ref 106) .none 0)),#[]⟩
noncomputable def o108 (P : Params) : Obj := ⟨(.type "tuple"),.none,(.seq #[] 0),#[]⟩
noncomputable def o110 (P : Params) : Obj := ⟨(.type "tuple"),.none,(.seq #[(.str "self" 320)] 0),#[]⟩
noncomputable def o111 (P : Params) : Obj := ⟨(.type "tuple"),.none,(.seq #[] 0),#[]⟩
noncomputable def o113 (P : Params) : Obj := ⟨(.type "code"),.none,(.fields #[(.str "args" 317),(.str "Body.args" 318),(.str "/claim/cut.py" 319),(.int 77 0),(.int 1 0),(.int 0 0),(.int 0 0),(.int 3 0),(.ref 108),(.bool .true),(.int 181 0),(.ref 109),.none,(.ref 110),(.ref 111),(.ref 112),(.int 321 0),(.int 77 0),(.str "/claim/cut.py" 322)]),#[]⟩
noncomputable def o114 (P : Params) : Obj := ⟨(.type "function"),.none,(.func (fnR "args" "Body.args" (sub 2 (st 12)) 3 [] .none .none .none (.str "lendcore.mir" 283) .none (.ref 113) .none 0)),#[]⟩
noncomputable def o115 (P : Params) : Obj := ⟨(.type "tuple"),.none,(.seq #[] 0),#[]⟩
noncomputable def o117 (P : Params) : Obj := ⟨(.type "tuple"),.none,(.seq #[(.str "self" 327),(.str "block" 328)] 0),#[]⟩
noncomputable def o118 (P : Params) : Obj := ⟨(.type "tuple"),.none,(.seq #[] 0),#[]⟩
noncomputable def o120 (P : Params) : Obj := ⟨(.type "code"),.none,(.fields #[(.str "statements" 324),(.str "Body.statements" 325),(.str "/claim/cut.py" 326),(.int 80 0),(.int 2 0),(.int 0 0),(.int 0 0),(.int 3 0),(.ref 115),(.bool .true),(.int 181 0),(.ref 116),.none,(.ref 117),(.ref 118),(.ref 119),(.int 329 0),(.int 80 0),(.str "/claim/cut.py" 330)]),#[]⟩
noncomputable def o121 (P : Params) : Obj := ⟨(.type "function"),.none,(.func (fnR "statements" "Body.statements" (sub 3 (st 12)) 3 [] .none .none .none (.str "lendcore.mir" 283) .none (.ref 120) .none 0)),#[]⟩
noncomputable def o122 (P : Params) : Obj := ⟨(.type "tuple"),.none,(.seq #[] 0),#[]⟩
noncomputable def o124 (P : Params) : Obj := ⟨(.type "tuple"),.none,(.seq #[(.str "self" 335),(.str "block" 336)] 0),#[]⟩
noncomputable def o125 (P : Params) : Obj := ⟨(.type "tuple"),.none,(.seq #[] 0),#[]⟩
noncomputable def o127 (P : Params) : Obj := ⟨(.type "code"),.none,(.fields #[(.str "terminator" 332),(.str "Body.terminator" 333),(.str "/claim/cut.py" 334),(.int 83 0),(.int 2 0),(.int 0 0),(.int 0 0),(.int 3 0),(.ref 122),(.bool .true),(.int 181 0),(.ref 123),.none,(.ref 124),(.ref 125),(.ref 126),(.int 337 0),(.int 83 0),(.str "/claim/cut.py" 338)]),#[]⟩
noncomputable def o128 (P : Params) : Obj := ⟨(.type "function"),.none,(.func (fnR "terminator" "Body.terminator" (sub 4 (st 12)) 3 [] .none .none .none (.str "lendcore.mir" 283) .none (.ref 127) .none 0)),#[]⟩
noncomputable def o129 (P : Params) : Obj := ⟨(.type "tuple"),.none,(.seq #[] 0),#[]⟩
noncomputable def o131 (P : Params) : Obj := ⟨(.type "tuple"),.none,(.seq #[(.str "self" 343),(.str "point" 344)] 0),#[]⟩
noncomputable def o132 (P : Params) : Obj := ⟨(.type "tuple"),.none,(.seq #[] 0),#[]⟩
noncomputable def o134 (P : Params) : Obj := ⟨(.type "code"),.none,(.fields #[(.str "spot" 340),(.str "Body.spot" 341),(.str "/claim/cut.py" 342),(.int 86 0),(.int 2 0),(.int 0 0),(.int 0 0),(.int 3 0),(.ref 129),(.bool .true),(.int 181 0),(.ref 130),.none,(.ref 131),(.ref 132),(.ref 133),(.int 345 0),(.int 86 0),(.str "/claim/cut.py" 346)]),#[]⟩
noncomputable def o135 (P : Params) : Obj := ⟨(.type "function"),.none,(.func (fnR "spot" "Body.spot" (sub 5 (st 12)) 3 [] .none .none .none (.str "lendcore.mir" 283) .none (.ref 134) .none 0)),#[]⟩
noncomputable def o136 (P : Params) : Obj := ⟨(.type "tuple"),.none,(.seq #[(.bool .true),.none] 0),#[]⟩
noncomputable def o137 (P : Params) : Obj := ⟨(.type "tuple"),.none,(.seq #[] 0),#[]⟩
noncomputable def o139 (P : Params) : Obj := ⟨(.type "tuple"),.none,(.seq #[(.str "self" 351),(.str "told" 352),(.str "is_mut" 353),(.str "name" 354)] 0),#[]⟩
noncomputable def o140 (P : Params) : Obj := ⟨(.type "tuple"),.none,(.seq #[] 0),#[]⟩
noncomputable def o142 (P : Params) : Obj := ⟨(.type "code"),.none,(.fields #[(.str "new_local" 348),(.str "Body.new_local" 349),(.str "/claim/cut.py" 350),(.int 89 0),(.int 4 0),(.int 0 0),(.int 0 0),(.int 3 0),(.ref 137),(.bool .true),(.int 181 0),(.ref 138),.none,(.ref 139),(.ref 140),(.ref 141),(.int 355 0),(.int 89 0),(.str "/claim/cut.py" 356)]),#[]⟩
noncomputable def o143 (P : Params) : Obj := ⟨(.type "function"),.none,(.func (fnR "new_local" "Body.new_local" (sub 6 (st 12)) 3 [] (.ref 136) .none .none (.str "lendcore.mir" 283) .none (.ref 142) .none 0)),#[]⟩
noncomputable def o144 (P : Params) : Obj := ⟨(.type "tuple"),.none,(.seq #[(.str "arg_count" 358),(.str "blocks" 359),(.str "locals" 360),(.str "name" 361),(.str "spots" 362)] 0),#[]⟩
noncomputable def o145 (P : Params) : Obj := ⟨(.type "dict"),.none,(.dict #[⟨(PyData.keyHash P "__module__"),(.str "__module__" 292),(.str "lendcore.mir" 283)⟩,⟨(PyData.keyHash P "__firstlineno__"),(.str "__firstlineno__" 296),(.int 65 295)⟩,⟨(PyData.keyHash P "__init__"),(.str "__init__" 308),(.ref 100)⟩,⟨(PyData.keyHash P "type_of"),(.str "type_of" 316),(.ref 107)⟩,⟨(PyData.keyHash P "args"),(.str "args" 323),(.ref 114)⟩,⟨(PyData.keyHash P "statements"),(.str "statements" 331),(.ref 121)⟩,⟨(PyData.keyHash P "terminator"),(.str "terminator" 339),(.ref 128)⟩,⟨(PyData.keyHash P "spot"),(.str "spot" 347),(.ref 135)⟩,⟨(PyData.keyHash P "new_local"),(.str "new_local" 357),(.ref 143)⟩,⟨(PyData.keyHash P "__static_attributes__"),(.str "__static_attributes__" 363),(.ref 144)⟩,⟨(PyData.keyHash P "__dict__"),(.str "__dict__" 365),(.ref 147)⟩,⟨(PyData.keyHash P "__weakref__"),(.str "__weakref__" 367),(.ref 148)⟩,⟨(PyData.keyHash P "__doc__"),(.str "__doc__" 368),.none⟩] 4),#[]⟩
noncomputable def o146 (P : Params) : Obj := ⟨(.type "type"),.none,(.cls ⟨"Body",[(.type "object")],[(.ref 146),(.type "object")],145,"Body",.true,[],[],.false,.none,.false⟩),#[.none,.none,(.some (.str "Body" 285)),(.some (.str "Body" 293)),(.some (.builtin "object.__new__")),(.some (.bool .true))]⟩
noncomputable def o147 (P : Params) : Obj := ⟨(.type "getset_descriptor"),.none,(.fields #[(.str "__dict__" 364),(.ref 146),(.builtin "function.__dict__"),(.builtin "function.__dict__#set")]),#[]⟩
noncomputable def o148 (P : Params) : Obj := ⟨(.type "getset_descriptor"),.none,(.fields #[(.str "__weakref__" 366),(.ref 146),(.builtin "ExceptionGroup.__weakref__"),.none]),#[]⟩
noncomputable def o151 (P : Params) : Obj := ⟨(.type "tuple"),.none,(.seq #[] 0),#[]⟩
noncomputable def o153 (P : Params) : Obj := ⟨(.type "tuple"),.none,(.seq #[(.str "told" 374),(.str "variant" 375),(.str "k" 376),(.str "world" 377)] 0),#[]⟩
noncomputable def o154 (P : Params) : Obj := ⟨(.type "tuple"),.none,(.seq #[] 0),#[]⟩
noncomputable def o156 (P : Params) : Obj := ⟨(.type "code"),.none,(.fields #[(.str "field_type" 371),(.str "field_type" 372),(.str "/claim/cut.py" 373),(.int 91 0),(.int 4 0),(.int 0 0),(.int 0 0),(.int 3 0),(.ref 151),(.bool .true),(.int 181 0),(.ref 152),.none,(.ref 153),(.ref 154),(.ref 155),(.int 378 0),(.int 91 0),(.str "/claim/cut.py" 379)]),#[]⟩
noncomputable def o157 (P : Params) : Obj := ⟨(.type "function"),.none,(.func (fnR "field_type" "field_type" (st 13) 3 [] .none .none .none (.str "lendcore.mir" 283) .none (.ref 156) .none 0)),#[]⟩
noncomputable def o158 (P : Params) : Obj := ⟨(.type "tuple"),.none,(.seq #[] 0),#[]⟩
noncomputable def o160 (P : Params) : Obj := ⟨(.type "tuple"),.none,(.seq #[(.str "told" 384),(.str "variant" 385),(.str "projection" 386),(.str "world" 387),(.str "word" 388)] 0),#[]⟩
noncomputable def o161 (P : Params) : Obj := ⟨(.type "tuple"),.none,(.seq #[] 0),#[]⟩
noncomputable def o163 (P : Params) : Obj := ⟨(.type "code"),.none,(.fields #[(.str "projected" 381),(.str "projected" 382),(.str "/claim/cut.py" 383),(.int 97 0),(.int 4 0),(.int 0 0),(.int 0 0),(.int 3 0),(.ref 158),(.bool .true),(.int 181 0),(.ref 159),.none,(.ref 160),(.ref 161),(.ref 162),(.int 389 0),(.int 97 0),(.str "/claim/cut.py" 390)]),#[]⟩
noncomputable def o164 (P : Params) : Obj := ⟨(.type "function"),.none,(.func (fnR "projected" "projected" (st 14) 3 [] .none .none .none (.str "lendcore.mir" 283) .none (.ref 163) .none 0)),#[]⟩
noncomputable def o165 (P : Params) : Obj := ⟨(.type "tuple"),.none,(.seq #[] 0),#[]⟩
noncomputable def o167 (P : Params) : Obj := ⟨(.type "tuple"),.none,(.seq #[(.str "body" 395),(.str "place" 396),(.str "world" 397),(.str "told" 398),(.str "variant" 399),(.str "projection" 400)] 0),#[]⟩
noncomputable def o168 (P : Params) : Obj := ⟨(.type "tuple"),.none,(.seq #[] 0),#[]⟩
noncomputable def o170 (P : Params) : Obj := ⟨(.type "code"),.none,(.fields #[(.str "place_type" 392),(.str "place_type" 393),(.str "/claim/cut.py" 394),(.int 108 0),(.int 3 0),(.int 0 0),(.int 0 0),(.int 3 0),(.ref 165),(.bool .true),(.int 181 0),(.ref 166),.none,(.ref 167),(.ref 168),(.ref 169),(.int 401 0),(.int 108 0),(.str "/claim/cut.py" 402)]),#[]⟩
noncomputable def o171 (P : Params) : Obj := ⟨(.type "function"),.none,(.func (fnR "place_type" "place_type" (st 15) 3 [] .none .none .none (.str "lendcore.mir" 283) .none (.ref 170) .none 0)),#[]⟩
noncomputable def o179 (P : Params) : Obj := ⟨(.type "tuple"),.none,(.seq #[] 0),#[]⟩
noncomputable def o181 (P : Params) : Obj := ⟨(.type "tuple"),.none,(.seq #[(.str "self" 421),(.str "varied" 422)] 0),#[]⟩
noncomputable def o182 (P : Params) : Obj := ⟨(.type "tuple"),.none,(.seq #[] 0),#[]⟩
noncomputable def o184 (P : Params) : Obj := ⟨(.type "code"),.none,(.fields #[(.str "__init__" 418),(.str "Relation.__init__" 419),(.str "/claim/cut.py" 420),(.int 116 0),(.int 2 0),(.int 0 0),(.int 0 0),(.int 3 0),(.ref 179),(.bool .true),(.int 181 0),(.ref 180),.none,(.ref 181),(.ref 182),(.ref 183),(.int 423 0),(.int 116 0),(.str "/claim/cut.py" 424)]),#[]⟩
noncomputable def o185 (P : Params) : Obj := ⟨(.type "function"),.none,(.func (fnR "__init__" "Relation.__init__" (sub 0 (st 17)) 3 [] .none .none .none (.str "lendcore.relate" 404) .none (.ref 184) .none 0)),#[]⟩
noncomputable def o186 (P : Params) : Obj := ⟨(.type "tuple"),.none,(.seq #[] 0),#[]⟩
noncomputable def o188 (P : Params) : Obj := ⟨(.type "tuple"),.none,(.seq #[(.str "self" 429),(.str "longer" 430),(.str "shorter" 431)] 0),#[]⟩
noncomputable def o189 (P : Params) : Obj := ⟨(.type "tuple"),.none,(.seq #[] 0),#[]⟩
noncomputable def o191 (P : Params) : Obj := ⟨(.type "code"),.none,(.fields #[(.str "outlives" 426),(.str "Relation.outlives" 427),(.str "/claim/cut.py" 428),(.int 120 0),(.int 3 0),(.int 0 0),(.int 0 0),(.int 3 0),(.ref 186),(.bool .true),(.int 181 0),(.ref 187),.none,(.ref 188),(.ref 189),(.ref 190),(.int 432 0),(.int 120 0),(.str "/claim/cut.py" 433)]),#[]⟩
noncomputable def o192 (P : Params) : Obj := ⟨(.type "function"),.none,(.func (fnR "outlives" "Relation.outlives" (sub 1 (st 17)) 3 [] .none .none .none (.str "lendcore.relate" 404) .none (.ref 191) .none 0)),#[]⟩
noncomputable def o193 (P : Params) : Obj := ⟨(.type "tuple"),.none,(.seq #[] 0),#[]⟩
noncomputable def o195 (P : Params) : Obj := ⟨(.type "tuple"),.none,(.seq #[(.str "self" 438),(.str "one" 439),(.str "other" 440),(.str "way" 441)] 0),#[]⟩
noncomputable def o196 (P : Params) : Obj := ⟨(.type "tuple"),.none,(.seq #[] 0),#[]⟩
noncomputable def o198 (P : Params) : Obj := ⟨(.type "code"),.none,(.fields #[(.str "region" 435),(.str "Relation.region" 436),(.str "/claim/cut.py" 437),(.int 124 0),(.int 4 0),(.int 0 0),(.int 0 0),(.int 3 0),(.ref 193),(.bool .true),(.int 181 0),(.ref 194),.none,(.ref 195),(.ref 196),(.ref 197),(.int 442 0),(.int 124 0),(.str "/claim/cut.py" 443)]),#[]⟩
noncomputable def o199 (P : Params) : Obj := ⟨(.type "function"),.none,(.func (fnR "region" "Relation.region" (sub 2 (st 17)) 3 [] .none .none .none (.str "lendcore.relate" 404) .none (.ref 198) .none 0)),#[]⟩
noncomputable def o200 (P : Params) : Obj := ⟨(.type "tuple"),.none,(.seq #[(.str "co" 445)] 0),#[]⟩
noncomputable def o201 (P : Params) : Obj := ⟨(.type "tuple"),.none,(.seq #[] 0),#[]⟩
noncomputable def o203 (P : Params) : Obj := ⟨(.type "tuple"),.none,(.seq #[(.str "self" 449),(.str "one" 450),(.str "other" 451),(.str "way" 452),(.str "kind" 453),(.str "at" 454),(.str "part" 455)] 0),#[]⟩
noncomputable def o204 (P : Params) : Obj := ⟨(.type "tuple"),.none,(.seq #[] 0),#[]⟩
noncomputable def o206 (P : Params) : Obj := ⟨(.type "code"),.none,(.fields #[(.str "below" 446),(.str "Relation.below" 447),(.str "/claim/cut.py" 448),(.int 130 0),(.int 4 0),(.int 0 0),(.int 0 0),(.int 3 0),(.ref 201),(.bool .true),(.int 181 0),(.ref 202),.none,(.ref 203),(.ref 204),(.ref 205),(.int 456 0),(.int 130 0),(.str "/claim/cut.py" 457)]),#[]⟩
noncomputable def o207 (P : Params) : Obj := ⟨(.type "function"),.none,(.func (fnR "below" "Relation.below" (sub 3 (st 17)) 3 [] (.ref 200) .none .none (.str "lendcore.relate" 404) .none (.ref 206) .none 0)),#[]⟩
noncomputable def o208 (P : Params) : Obj := ⟨(.type "tuple"),.none,(.seq #[] 0),#[]⟩
noncomputable def o210 (P : Params) : Obj := ⟨(.type "tuple"),.none,(.seq #[(.str "self" 462),(.str "one" 463),(.str "other" 464),(.str "way" 465),(.str "ways" 466),(.str "at" 467),(.str "region" 468),(.str "part" 469)] 0),#[]⟩
noncomputable def o211 (P : Params) : Obj := ⟨(.type "tuple"),.none,(.seq #[] 0),#[]⟩
noncomputable def o213 (P : Params) : Obj := ⟨(.type "code"),.none,(.fields #[(.str "parts_below" 459),(.str "Relation.parts_below" 460),(.str "/claim/cut.py" 461),(.int 145 0),(.int 4 0),(.int 0 0),(.int 0 0),(.int 3 0),(.ref 208),(.bool .true),(.int 181 0),(.ref 209),.none,(.ref 210),(.ref 211),(.ref 212),(.int 470 0),(.int 145 0),(.str "/claim/cut.py" 471)]),#[]⟩
noncomputable def o214 (P : Params) : Obj := ⟨(.type "function"),.none,(.func (fnR "parts_below" "Relation.parts_below" (sub 4 (st 17)) 3 [] .none .none .none (.str "lendcore.relate" 404) .none (.ref 213) .none 0)),#[]⟩
noncomputable def o215 (P : Params) : Obj := ⟨(.type "tuple"),.none,(.seq #[(.str "pairs" 473),(.str "varied" 474)] 0),#[]⟩
noncomputable def o216 (P : Params) : Obj := ⟨(.type "dict"),.none,(.dict #[⟨(PyData.keyHash P "__module__"),(.str "__module__" 413),(.str "lendcore.relate" 404)⟩,⟨(PyData.keyHash P "__firstlineno__"),(.str "__firstlineno__" 417),(.int 114 416)⟩,⟨(PyData.keyHash P "__init__"),(.str "__init__" 425),(.ref 185)⟩,⟨(PyData.keyHash P "outlives"),(.str "outlives" 434),(.ref 192)⟩,⟨(PyData.keyHash P "region"),(.str "region" 444),(.ref 199)⟩,⟨(PyData.keyHash P "below"),(.str "below" 458),(.ref 207)⟩,⟨(PyData.keyHash P "parts_below"),(.str "parts_below" 472),(.ref 214)⟩,⟨(PyData.keyHash P "__static_attributes__"),(.str "__static_attributes__" 475),(.ref 215)⟩,⟨(PyData.keyHash P "__dict__"),(.str "__dict__" 477),(.ref 218)⟩,⟨(PyData.keyHash P "__weakref__"),(.str "__weakref__" 479),(.ref 219)⟩,⟨(PyData.keyHash P "__doc__"),(.str "__doc__" 480),.none⟩] 4),#[]⟩
noncomputable def o217 (P : Params) : Obj := ⟨(.type "type"),.none,(.cls ⟨"Relation",[(.type "object")],[(.ref 217),(.type "object")],216,"Relation",.true,[],[],.false,.none,.false⟩),#[.none,.none,(.some (.str "Relation" 406)),(.some (.str "Relation" 414)),(.some (.builtin "object.__new__")),(.some (.bool .true))]⟩
noncomputable def o218 (P : Params) : Obj := ⟨(.type "getset_descriptor"),.none,(.fields #[(.str "__dict__" 476),(.ref 217),(.builtin "function.__dict__"),(.builtin "function.__dict__#set")]),#[]⟩
noncomputable def o219 (P : Params) : Obj := ⟨(.type "getset_descriptor"),.none,(.fields #[(.str "__weakref__" 478),(.ref 217),(.builtin "ExceptionGroup.__weakref__"),.none]),#[]⟩
noncomputable def o222 (P : Params) : Obj := ⟨(.type "tuple"),.none,(.seq #[] 0),#[]⟩
noncomputable def o224 (P : Params) : Obj := ⟨(.type "tuple"),.none,(.seq #[(.str "around" 486),(.str "inner" 487)] 0),#[]⟩
noncomputable def o225 (P : Params) : Obj := ⟨(.type "tuple"),.none,(.seq #[] 0),#[]⟩
noncomputable def o227 (P : Params) : Obj := ⟨(.type "code"),.none,(.fields #[(.str "inner_way" 483),(.str "inner_way" 484),(.str "/claim/cut.py" 485),(.int 151 0),(.int 2 0),(.int 0 0),(.int 0 0),(.int 3 0),(.ref 222),(.bool .true),(.int 181 0),(.ref 223),.none,(.ref 224),(.ref 225),(.ref 226),(.int 488 0),(.int 151 0),(.str "/claim/cut.py" 489)]),#[]⟩
noncomputable def o228 (P : Params) : Obj := ⟨(.type "function"),.none,(.func (fnR "inner_way" "inner_way" (st 18) 3 [] .none .none .none (.str "lendcore.relate" 404) .none (.ref 227) .none 0)),#[]⟩
noncomputable def o229 (P : Params) : Obj := ⟨(.type "tuple"),.none,(.seq #[] 0),#[]⟩
noncomputable def o231 (P : Params) : Obj := ⟨(.type "tuple"),.none,(.seq #[(.str "one" 494),(.str "other" 495),(.str "varied" 496),(.str "relation" 497)] 0),#[]⟩
noncomputable def o232 (P : Params) : Obj := ⟨(.type "tuple"),.none,(.seq #[] 0),#[]⟩
noncomputable def o234 (P : Params) : Obj := ⟨(.type "code"),.none,(.fields #[(.str "related" 491),(.str "related" 492),(.str "/claim/cut.py" 493),(.int 155 0),(.int 3 0),(.int 0 0),(.int 0 0),(.int 3 0),(.ref 229),(.bool .true),(.int 181 0),(.ref 230),.none,(.ref 231),(.ref 232),(.ref 233),(.int 498 0),(.int 155 0),(.str "/claim/cut.py" 499)]),#[]⟩
noncomputable def o235 (P : Params) : Obj := ⟨(.type "function"),.none,(.func (fnR "related" "related" (st 19) 3 [] .none .none .none (.str "lendcore.relate" 404) .none (.ref 234) .none 0)),#[]⟩
noncomputable def o243 (P : Params) : Obj := ⟨(.type "tuple"),.none,(.seq #[] 0),#[]⟩
noncomputable def o246 (P : Params) : Obj := ⟨(.type "code"),.none,(.fields #[(.str "__init__" 513),(.str "Signature.__init__" 514),(.str "/claim/cut.py" 515),(.int 161 0),(.int 4 0),(.int 0 0),(.int 0 0),(.int 3 0),(.ref 243),(.bool .true),(.int 181 0),(.ref 244),.none,.none,.none,(.ref 245),(.int 516 0),(.int 161 0),(.str "/claim/cut.py" 517)]),#[]⟩
noncomputable def o247 (P : Params) : Obj := ⟨(.type "function"),.none,(.func (fnR "__init__" "Signature.__init__" (sub 0 (st 20)) 3 [] .none .none .none (.str "lendcore.relate" 404) .none (.ref 246) .none 0)),#[]⟩
noncomputable def o248 (P : Params) : Obj := ⟨(.type "tuple"),.none,(.seq #[] 0),#[]⟩
noncomputable def o250 (P : Params) : Obj := ⟨(.type "tuple"),.none,(.seq #[(.str "self" 522),(.str "region" 523),(.str "name" 524)] 0),#[]⟩
noncomputable def o251 (P : Params) : Obj := ⟨(.type "tuple"),.none,(.seq #[] 0),#[]⟩
noncomputable def o253 (P : Params) : Obj := ⟨(.type "code"),.none,(.fields #[(.str "fresh" 519),(.str "Signature.fresh" 520),(.str "/claim/cut.py" 521),(.int 167 0),(.int 2 0),(.int 0 0),(.int 0 0),(.int 3 0),(.ref 248),(.bool .true),(.int 181 0),(.ref 249),.none,(.ref 250),(.ref 251),(.ref 252),(.int 525 0),(.int 167 0),(.str "/claim/cut.py" 526)]),#[]⟩
noncomputable def o254 (P : Params) : Obj := ⟨(.type "function"),.none,(.func (fnR "fresh" "Signature.fresh" (sub 1 (st 20)) 3 [] .none .none .none (.str "lendcore.relate" 404) .none (.ref 253) .none 0)),#[]⟩
noncomputable def o255 (P : Params) : Obj := ⟨(.type "tuple"),.none,(.seq #[] 0),#[]⟩
noncomputable def o257 (P : Params) : Obj := ⟨(.type "tuple"),.none,(.seq #[(.str "self" 531),(.str "told" 532),(.str "table" 533)] 0),#[]⟩
noncomputable def o258 (P : Params) : Obj := ⟨(.type "tuple"),.none,(.seq #[] 0),#[]⟩
noncomputable def o260 (P : Params) : Obj := ⟨(.type "code"),.none,(.fields #[(.str "seen" 528),(.str "Signature.seen" 529),(.str "/claim/cut.py" 530),(.int 178 0),(.int 3 0),(.int 0 0),(.int 0 0),(.int 3 0),(.ref 255),(.bool .true),(.int 181 0),(.ref 256),.none,(.ref 257),(.ref 258),(.ref 259),(.int 534 0),(.int 178 0),(.str "/claim/cut.py" 535)]),#[]⟩
noncomputable def o261 (P : Params) : Obj := ⟨(.type "function"),.none,(.func (fnR "seen" "Signature.seen" (sub 2 (st 20)) 3 [] .none .none .none (.str "lendcore.relate" 404) .none (.ref 260) .none 0)),#[]⟩
noncomputable def o262 (P : Params) : Obj := ⟨(.type "tuple"),.none,(.seq #[(.str "inputs" 537),(.str "next" 538),(.str "output" 539),(.str "told" 540)] 0),#[]⟩
noncomputable def o263 (P : Params) : Obj := ⟨(.type "dict"),.none,(.dict #[⟨(PyData.keyHash P "__module__"),(.str "__module__" 508),(.str "lendcore.relate" 404)⟩,⟨(PyData.keyHash P "__firstlineno__"),(.str "__firstlineno__" 512),(.int 159 511)⟩,⟨(PyData.keyHash P "__init__"),(.str "__init__" 518),(.ref 247)⟩,⟨(PyData.keyHash P "fresh"),(.str "fresh" 527),(.ref 254)⟩,⟨(PyData.keyHash P "seen"),(.str "seen" 536),(.ref 261)⟩,⟨(PyData.keyHash P "__static_attributes__"),(.str "__static_attributes__" 541),(.ref 262)⟩,⟨(PyData.keyHash P "__dict__"),(.str "__dict__" 543),(.ref 265)⟩,⟨(PyData.keyHash P "__weakref__"),(.str "__weakref__" 545),(.ref 266)⟩,⟨(PyData.keyHash P "__doc__"),(.str "__doc__" 546),.none⟩] 4),#[]⟩
noncomputable def o264 (P : Params) : Obj := ⟨(.type "type"),.none,(.cls ⟨"Signature",[(.type "object")],[(.ref 264),(.type "object")],263,"Signature",.true,[],[],.false,.none,.false⟩),#[.none,.none,(.some (.str "Signature" 501)),(.some (.str "Signature" 509)),(.some (.builtin "object.__new__")),(.some (.bool .true))]⟩
noncomputable def o265 (P : Params) : Obj := ⟨(.type "getset_descriptor"),.none,(.fields #[(.str "__dict__" 542),(.ref 264),(.builtin "function.__dict__"),(.builtin "function.__dict__#set")]),#[]⟩
noncomputable def o266 (P : Params) : Obj := ⟨(.type "getset_descriptor"),.none,(.fields #[(.str "__weakref__" 544),(.ref 264),(.builtin "ExceptionGroup.__weakref__"),.none]),#[]⟩
noncomputable def o269 (P : Params) : Obj := ⟨(.type "tuple"),.none,(.seq #[] 0),#[]⟩
noncomputable def o272 (P : Params) : Obj := ⟨(.type "code"),.none,(.fields #[(.str "callee_sig" 549),(.str "callee_sig" 550),(.str "/claim/cut.py" 551),(.int 180 0),(.int 2 0),(.int 0 0),(.int 0 0),(.int 3 0),(.ref 269),(.bool .true),(.int 181 0),(.ref 270),.none,.none,.none,(.ref 271),(.int 552 0),(.int 180 0),(.str "/claim/cut.py" 553)]),#[]⟩
noncomputable def o273 (P : Params) : Obj := ⟨(.type "function"),.none,(.func (fnR "callee_sig" "callee_sig" (st 21) 3 [] .none .none .none (.str "lendcore.relate" 404) .none (.ref 272) .none 0)),#[]⟩
noncomputable def o281 (P : Params) : Obj := ⟨(.type "tuple"),.none,(.seq #[] 0),#[]⟩
noncomputable def o283 (P : Params) : Obj := ⟨(.type "tuple"),.none,(.seq #[(.str "self" 570),(.str "body" 571),(.str "world" 572),(.str "varied" 573)] 0),#[]⟩
noncomputable def o284 (P : Params) : Obj := ⟨(.type "tuple"),.none,(.seq #[] 0),#[]⟩
noncomputable def o286 (P : Params) : Obj := ⟨(.type "code"),.none,(.fields #[(.str "__init__" 567),(.str "Constraints.__init__" 568),(.str "/claim/cut.py" 569),(.int 192 0),(.int 4 0),(.int 0 0),(.int 0 0),(.int 3 0),(.ref 281),(.bool .true),(.int 181 0),(.ref 282),.none,(.ref 283),(.ref 284),(.ref 285),(.int 574 0),(.int 192 0),(.str "/claim/cut.py" 575)]),#[]⟩
noncomputable def o287 (P : Params) : Obj := ⟨(.type "function"),.none,(.func (fnR "__init__" "Constraints.__init__" (sub 0 (st 22)) 3 [] .none .none .none (.str "lendcore.relate" 404) .none (.ref 286) .none 0)),#[]⟩
noncomputable def o288 (P : Params) : Obj := ⟨(.type "tuple"),.none,(.seq #[] 0),#[]⟩
noncomputable def o290 (P : Params) : Obj := ⟨(.type "tuple"),.none,(.seq #[(.str "self" 580),(.str "one" 581),(.str "other" 582),(.str "point" 583),(.str "longer" 584),(.str "shorter" 585)] 0),#[]⟩
noncomputable def o291 (P : Params) : Obj := ⟨(.type "tuple"),.none,(.seq #[] 0),#[]⟩
noncomputable def o293 (P : Params) : Obj := ⟨(.type "code"),.none,(.fields #[(.str "note" 577),(.str "Constraints.note" 578),(.str "/claim/cut.py" 579),(.int 199 0),(.int 4 0),(.int 0 0),(.int 0 0),(.int 3 0),(.ref 288),(.bool .true),(.int 181 0),(.ref 289),.none,(.ref 290),(.ref 291),(.ref 292),(.int 586 0),(.int 199 0),(.str "/claim/cut.py" 587)]),#[]⟩
noncomputable def o294 (P : Params) : Obj := ⟨(.type "function"),.none,(.func (fnR "note" "Constraints.note" (sub 1 (st 22)) 3 [] .none .none .none (.str "lendcore.relate" 404) .none (.ref 293) .none 0)),#[]⟩
noncomputable def o295 (P : Params) : Obj := ⟨(.type "tuple"),.none,(.seq #[] 0),#[]⟩
noncomputable def o297 (P : Params) : Obj := ⟨(.type "tuple"),.none,(.seq #[(.str "self" 592),(.str "place" 593)] 0),#[]⟩
noncomputable def o298 (P : Params) : Obj := ⟨(.type "tuple"),.none,(.seq #[] 0),#[]⟩
noncomputable def o300 (P : Params) : Obj := ⟨(.type "code"),.none,(.fields #[(.str "type_of" 589),(.str "Constraints.type_of" 590),(.str "/claim/cut.py" 591),(.int 203 0),(.int 2 0),(.int 0 0),(.int 0 0),(.int 3 0),(.ref 295),(.bool .true),(.int 181 0),(.ref 296),.none,(.ref 297),(.ref 298),(.ref 299),(.int 594 0),(.int 203 0),(.str "/claim/cut.py" 595)]),#[]⟩
noncomputable def o301 (P : Params) : Obj := ⟨(.type "function"),.none,(.func (fnR "type_of" "Constraints.type_of" (sub 2 (st 22)) 3 [] .none .none .none (.str "lendcore.relate" 404) .none (.ref 300) .none 0)),#[]⟩
noncomputable def o302 (P : Params) : Obj := ⟨(.type "tuple"),.none,(.seq #[] 0),#[]⟩
noncomputable def o304 (P : Params) : Obj := ⟨(.type "tuple"),.none,(.seq #[(.str "self" 600),(.str "operand" 601)] 0),#[]⟩
noncomputable def o305 (P : Params) : Obj := ⟨(.type "tuple"),.none,(.seq #[] 0),#[]⟩
noncomputable def o307 (P : Params) : Obj := ⟨(.type "code"),.none,(.fields #[(.str "operand_type" 597),(.str "Constraints.operand_type" 598),(.str "/claim/cut.py" 599),(.int 206 0),(.int 2 0),(.int 0 0),(.int 0 0),(.int 3 0),(.ref 302),(.bool .true),(.int 181 0),(.ref 303),.none,(.ref 304),(.ref 305),(.ref 306),(.int 602 0),(.int 206 0),(.str "/claim/cut.py" 603)]),#[]⟩
noncomputable def o308 (P : Params) : Obj := ⟨(.type "function"),.none,(.func (fnR "operand_type" "Constraints.operand_type" (sub 3 (st 22)) 3 [] .none .none .none (.str "lendcore.relate" 404) .none (.ref 307) .none 0)),#[]⟩
noncomputable def o309 (P : Params) : Obj := ⟨(.type "tuple"),.none,(.seq #[] 0),#[]⟩
noncomputable def o311 (P : Params) : Obj := ⟨(.type "tuple"),.none,(.seq #[(.str "self" 608),(.str "operands" 609),(.str "types" 610),(.str "point" 611),(.str "at" 612),(.str "operand" 613)] 0),#[]⟩
noncomputable def o312 (P : Params) : Obj := ⟨(.type "tuple"),.none,(.seq #[] 0),#[]⟩
noncomputable def o314 (P : Params) : Obj := ⟨(.type "code"),.none,(.fields #[(.str "operands" 605),(.str "Constraints.operands" 606),(.str "/claim/cut.py" 607),(.int 209 0),(.int 4 0),(.int 0 0),(.int 0 0),(.int 3 0),(.ref 309),(.bool .true),(.int 181 0),(.ref 310),.none,(.ref 311),(.ref 312),(.ref 313),(.int 614 0),(.int 209 0),(.str "/claim/cut.py" 615)]),#[]⟩
noncomputable def o315 (P : Params) : Obj := ⟨(.type "function"),.none,(.func (fnR "operands" "Constraints.operands" (sub 4 (st 22)) 3 [] .none .none .none (.str "lendcore.relate" 404) .none (.ref 314) .none 0)),#[]⟩
noncomputable def o316 (P : Params) : Obj := ⟨(.type "tuple"),.none,(.seq #[] 0),#[]⟩
noncomputable def o318 (P : Params) : Obj := ⟨(.type "tuple"),.none,(.seq #[(.str "self" 620),(.str "rvalue" 621),(.str "wanted" 622),(.str "point" 623),(.str "told" 624),(.str "region" 625),(.str "kind" 626),(.str "place" 627)] 0),#[]⟩
noncomputable def o319 (P : Params) : Obj := ⟨(.type "tuple"),.none,(.seq #[] 0),#[]⟩
noncomputable def o321 (P : Params) : Obj := ⟨(.type "code"),.none,(.fields #[(.str "borrow" 617),(.str "Constraints.borrow" 618),(.str "/claim/cut.py" 619),(.int 213 0),(.int 4 0),(.int 0 0),(.int 0 0),(.int 3 0),(.ref 316),(.bool .true),(.int 181 0),(.ref 317),.none,(.ref 318),(.ref 319),(.ref 320),(.int 628 0),(.int 213 0),(.str "/claim/cut.py" 629)]),#[]⟩
noncomputable def o322 (P : Params) : Obj := ⟨(.type "function"),.none,(.func (fnR "borrow" "Constraints.borrow" (sub 5 (st 22)) 3 [] .none .none .none (.str "lendcore.relate" 404) .none (.ref 321) .none 0)),#[]⟩
noncomputable def o323 (P : Params) : Obj := ⟨(.type "tuple"),.none,(.seq #[] 0),#[]⟩
noncomputable def o325 (P : Params) : Obj := ⟨(.type "tuple"),.none,(.seq #[(.str "self" 634),(.str "region" 635),(.str "place" 636),(.str "point" 637),(.str "local" 638),(.str "steps" 639),(.str "at" 640),(.str "around" 641)] 0),#[]⟩
noncomputable def o326 (P : Params) : Obj := ⟨(.type "tuple"),.none,(.seq #[] 0),#[]⟩
noncomputable def o328 (P : Params) : Obj := ⟨(.type "code"),.none,(.fields #[(.str "through" 631),(.str "Constraints.through" 632),(.str "/claim/cut.py" 633),(.int 219 0),(.int 4 0),(.int 0 0),(.int 0 0),(.int 3 0),(.ref 323),(.bool .true),(.int 181 0),(.ref 324),.none,(.ref 325),(.ref 326),(.ref 327),(.int 642 0),(.int 219 0),(.str "/claim/cut.py" 643)]),#[]⟩
noncomputable def o329 (P : Params) : Obj := ⟨(.type "function"),.none,(.func (fnR "through" "Constraints.through" (sub 6 (st 22)) 3 [] .none .none .none (.str "lendcore.relate" 404) .none (.ref 328) .none 0)),#[]⟩
noncomputable def o330 (P : Params) : Obj := ⟨(.type "tuple"),.none,(.seq #[] 0),#[]⟩
noncomputable def o333 (P : Params) : Obj := ⟨(.type "code"),.none,(.fields #[(.str "assign" 645),(.str "Constraints.assign" 646),(.str "/claim/cut.py" 647),(.int 230 0),(.int 4 0),(.int 0 0),(.int 0 0),(.int 3 0),(.ref 330),(.bool .true),(.int 181 0),(.ref 331),.none,.none,.none,(.ref 332),(.int 648 0),(.int 230 0),(.str "/claim/cut.py" 649)]),#[]⟩
noncomputable def o334 (P : Params) : Obj := ⟨(.type "function"),.none,(.func (fnR "assign" "Constraints.assign" (sub 7 (st 22)) 3 [] .none .none .none (.str "lendcore.relate" 404) .none (.ref 333) .none 0)),#[]⟩
noncomputable def o335 (P : Params) : Obj := ⟨(.type "tuple"),.none,(.seq #[] 0),#[]⟩
noncomputable def o337 (P : Params) : Obj := ⟨(.type "tuple"),.none,(.seq #[(.str "self" 654),(.str "terminator" 655),(.str "point" 656),(.str "sig" 657),(.str "table" 658),(.str "seen" 659)] 0),#[]⟩
noncomputable def o338 (P : Params) : Obj := ⟨(.type "tuple"),.none,(.seq #[] 0),#[]⟩
noncomputable def o340 (P : Params) : Obj := ⟨(.type "code"),.none,(.fields #[(.str "call" 651),(.str "Constraints.call" 652),(.str "/claim/cut.py" 653),(.int 247 0),(.int 3 0),(.int 0 0),(.int 0 0),(.int 3 0),(.ref 335),(.bool .true),(.int 181 0),(.ref 336),.none,(.ref 337),(.ref 338),(.ref 339),(.int 660 0),(.int 247 0),(.str "/claim/cut.py" 661)]),#[]⟩
noncomputable def o341 (P : Params) : Obj := ⟨(.type "function"),.none,(.func (fnR "call" "Constraints.call" (sub 8 (st 22)) 3 [] .none .none .none (.str "lendcore.relate" 404) .none (.ref 340) .none 0)),#[]⟩
noncomputable def o342 (P : Params) : Obj := ⟨(.type "tuple"),.none,(.seq #[(.str "body" 663),(.str "next" 664),(.str "rows" 665),(.str "varied" 666),(.str "world" 667)] 0),#[]⟩
noncomputable def o343 (P : Params) : Obj := ⟨(.type "dict"),.none,(.dict #[⟨(PyData.keyHash P "__module__"),(.str "__module__" 562),(.str "lendcore.relate" 404)⟩,⟨(PyData.keyHash P "__firstlineno__"),(.str "__firstlineno__" 566),(.int 190 565)⟩,⟨(PyData.keyHash P "__init__"),(.str "__init__" 576),(.ref 287)⟩,⟨(PyData.keyHash P "note"),(.str "note" 588),(.ref 294)⟩,⟨(PyData.keyHash P "type_of"),(.str "type_of" 596),(.ref 301)⟩,⟨(PyData.keyHash P "operand_type"),(.str "operand_type" 604),(.ref 308)⟩,⟨(PyData.keyHash P "operands"),(.str "operands" 616),(.ref 315)⟩,⟨(PyData.keyHash P "borrow"),(.str "borrow" 630),(.ref 322)⟩,⟨(PyData.keyHash P "through"),(.str "through" 644),(.ref 329)⟩,⟨(PyData.keyHash P "assign"),(.str "assign" 650),(.ref 334)⟩,⟨(PyData.keyHash P "call"),(.str "call" 662),(.ref 341)⟩,⟨(PyData.keyHash P "__static_attributes__"),(.str "__static_attributes__" 668),(.ref 342)⟩,⟨(PyData.keyHash P "__dict__"),(.str "__dict__" 670),(.ref 345)⟩,⟨(PyData.keyHash P "__weakref__"),(.str "__weakref__" 672),(.ref 346)⟩,⟨(PyData.keyHash P "__doc__"),(.str "__doc__" 673),.none⟩] 4),#[]⟩
noncomputable def o344 (P : Params) : Obj := ⟨(.type "type"),.none,(.cls ⟨"Constraints",[(.type "object")],[(.ref 344),(.type "object")],343,"Constraints",.true,[],[],.false,.none,.false⟩),#[.none,.none,(.some (.str "Constraints" 555)),(.some (.str "Constraints" 563)),(.some (.builtin "object.__new__")),(.some (.bool .true))]⟩
noncomputable def o345 (P : Params) : Obj := ⟨(.type "getset_descriptor"),.none,(.fields #[(.str "__dict__" 669),(.ref 344),(.builtin "function.__dict__"),(.builtin "function.__dict__#set")]),#[]⟩
noncomputable def o346 (P : Params) : Obj := ⟨(.type "getset_descriptor"),.none,(.fields #[(.str "__weakref__" 671),(.ref 344),(.builtin "ExceptionGroup.__weakref__"),.none]),#[]⟩
noncomputable def o349 (P : Params) : Obj := ⟨(.type "tuple"),.none,(.seq #[] 0),#[]⟩
noncomputable def o351 (P : Params) : Obj := ⟨(.type "tuple"),.none,(.seq #[(.str "rvalue" 679)] 0),#[]⟩
noncomputable def o352 (P : Params) : Obj := ⟨(.type "tuple"),.none,(.seq #[] 0),#[]⟩
noncomputable def o354 (P : Params) : Obj := ⟨(.type "code"),.none,(.fields #[(.str "rvalue_regions" 676),(.str "rvalue_regions" 677),(.str "/claim/cut.py" 678),(.int 253 0),(.int 1 0),(.int 0 0),(.int 0 0),(.int 3 0),(.ref 349),(.bool .true),(.int 181 0),(.ref 350),.none,(.ref 351),(.ref 352),(.ref 353),(.int 680 0),(.int 253 0),(.str "/claim/cut.py" 681)]),#[]⟩
noncomputable def o355 (P : Params) : Obj := ⟨(.type "function"),.none,(.func (fnR "rvalue_regions" "rvalue_regions" (st 23) 3 [] .none .none .none (.str "lendcore.relate" 404) .none (.ref 354) .none 0)),#[]⟩
noncomputable def o356 (P : Params) : Obj := ⟨(.type "tuple"),.none,(.seq #[] 0),#[]⟩
noncomputable def o359 (P : Params) : Obj := ⟨(.type "code"),.none,(.fields #[(.str "callee_regions" 683),(.str "callee_regions" 684),(.str "/claim/cut.py" 685),(.int 259 0),(.int 1 0),(.int 0 0),(.int 0 0),(.int 3 0),(.ref 356),(.bool .true),(.int 181 0),(.ref 357),.none,.none,.none,(.ref 358),(.int 686 0),(.int 259 0),(.str "/claim/cut.py" 687)]),#[]⟩
noncomputable def o360 (P : Params) : Obj := ⟨(.type "function"),.none,(.func (fnR "callee_regions" "callee_regions" (st 24) 3 [] .none .none .none (.str "lendcore.relate" 404) .none (.ref 359) .none 0)),#[]⟩
noncomputable def o361 (P : Params) : Obj := ⟨(.type "tuple"),.none,(.seq #[] 0),#[]⟩
noncomputable def o364 (P : Params) : Obj := ⟨(.type "code"),.none,(.fields #[(.str "greatest_region" 689),(.str "greatest_region" 690),(.str "/claim/cut.py" 691),(.int 262 0),(.int 1 0),(.int 0 0),(.int 0 0),(.int 3 0),(.ref 361),(.bool .true),(.int 181 0),(.ref 362),.none,.none,.none,(.ref 363),(.int 692 0),(.int 262 0),(.str "/claim/cut.py" 693)]),#[]⟩
noncomputable def o365 (P : Params) : Obj := ⟨(.type "function"),.none,(.func (fnR "greatest_region" "greatest_region" (st 25) 3 [] .none .none .none (.str "lendcore.relate" 404) .none (.ref 364) .none 0)),#[]⟩
noncomputable def o366 (P : Params) : Obj := ⟨(.type "tuple"),.none,(.seq #[] 0),#[]⟩
noncomputable def o368 (P : Params) : Obj := ⟨(.type "tuple"),.none,(.seq #[(.str "body" 698),(.str "world" 699),(.str "varied" 700),(.str "found" 701),(.str "block" 702),(.str "statements" 703),(.str "terminator" 704),(.str "index" 705),(.str "statement" 706)] 0),#[]⟩
noncomputable def o369 (P : Params) : Obj := ⟨(.type "tuple"),.none,(.seq #[] 0),#[]⟩
noncomputable def o371 (P : Params) : Obj := ⟨(.type "code"),.none,(.fields #[(.str "constraints_of" 695),(.str "constraints_of" 696),(.str "/claim/cut.py" 697),(.int 273 0),(.int 3 0),(.int 0 0),(.int 0 0),(.int 3 0),(.ref 366),(.bool .true),(.int 181 0),(.ref 367),.none,(.ref 368),(.ref 369),(.ref 370),(.int 707 0),(.int 273 0),(.str "/claim/cut.py" 708)]),#[]⟩
noncomputable def o372 (P : Params) : Obj := ⟨(.type "function"),.none,(.func (fnR "constraints_of" "constraints_of" (st 26) 3 [] .none .none .none (.str "lendcore.relate" 404) .none (.ref 371) .none 0)),#[]⟩
noncomputable def o380 (P : Params) : Obj := ⟨(.type "tuple"),.none,(.seq #[] 0),#[]⟩
noncomputable def o381 (P : Params) : Obj := ⟨(.type "tuple"),.none,(.seq #[(.str "" 724),(.ref 380)] 0),#[]⟩
noncomputable def o382 (P : Params) : Obj := ⟨(.type "tuple"),.none,(.seq #[] 0),#[]⟩
noncomputable def o384 (P : Params) : Obj := ⟨(.type "tuple"),.none,(.seq #[(.str "self" 728),(.str "path" 729),(.str "regions" 730),(.str "params" 731),(.str "variants" 732),(.str "is_enum" 733),(.str "module" 734),(.str "publics" 735)] 0),#[]⟩
noncomputable def o385 (P : Params) : Obj := ⟨(.type "tuple"),.none,(.seq #[] 0),#[]⟩
noncomputable def o387 (P : Params) : Obj := ⟨(.type "code"),.none,(.fields #[(.str "__init__" 725),(.str "Adt.__init__" 726),(.str "/claim/cut.py" 727),(.int 285 0),(.int 8 0),(.int 0 0),(.int 0 0),(.int 3 0),(.ref 382),(.bool .true),(.int 181 0),(.ref 383),.none,(.ref 384),(.ref 385),(.ref 386),(.int 736 0),(.int 285 0),(.str "/claim/cut.py" 737)]),#[]⟩
noncomputable def o388 (P : Params) : Obj := ⟨(.type "function"),.none,(.func (fnR "__init__" "Adt.__init__" (sub 0 (st 28)) 3 [] (.ref 381) .none .none (.str "lendcore.world" 710) .none (.ref 387) .none 0)),#[]⟩
noncomputable def o389 (P : Params) : Obj := ⟨(.type "tuple"),.none,(.seq #[(.str "is_enum" 739),(.str "module" 740),(.str "params" 741),(.str "path" 742),(.str "publics" 743),(.str "regions" 744),(.str "variants" 745)] 0),#[]⟩
noncomputable def o390 (P : Params) : Obj := ⟨(.type "dict"),.none,(.dict #[⟨(PyData.keyHash P "__module__"),(.str "__module__" 719),(.str "lendcore.world" 710)⟩,⟨(PyData.keyHash P "__firstlineno__"),(.str "__firstlineno__" 723),(.int 283 722)⟩,⟨(PyData.keyHash P "__init__"),(.str "__init__" 738),(.ref 388)⟩,⟨(PyData.keyHash P "__static_attributes__"),(.str "__static_attributes__" 746),(.ref 389)⟩,⟨(PyData.keyHash P "__dict__"),(.str "__dict__" 748),(.ref 392)⟩,⟨(PyData.keyHash P "__weakref__"),(.str "__weakref__" 750),(.ref 393)⟩,⟨(PyData.keyHash P "__doc__"),(.str "__doc__" 751),.none⟩] 4),#[]⟩
noncomputable def o391 (P : Params) : Obj := ⟨(.type "type"),.none,(.cls ⟨"Adt",[(.type "object")],[(.ref 391),(.type "object")],390,"Adt",.true,[],[],.false,.none,.false⟩),#[.none,.none,(.some (.str "Adt" 712)),(.some (.str "Adt" 720)),(.some (.builtin "object.__new__")),(.some (.bool .true))]⟩
noncomputable def o392 (P : Params) : Obj := ⟨(.type "getset_descriptor"),.none,(.fields #[(.str "__dict__" 747),(.ref 391),(.builtin "function.__dict__"),(.builtin "function.__dict__#set")]),#[]⟩
noncomputable def o393 (P : Params) : Obj := ⟨(.type "getset_descriptor"),.none,(.fields #[(.str "__weakref__" 749),(.ref 391),(.builtin "ExceptionGroup.__weakref__"),.none]),#[]⟩
noncomputable def o403 (P : Params) : Obj := ⟨(.type "tuple"),.none,(.seq #[.none] 0),#[]⟩
noncomputable def o404 (P : Params) : Obj := ⟨(.type "tuple"),.none,(.seq #[] 0),#[]⟩
noncomputable def o406 (P : Params) : Obj := ⟨(.type "tuple"),.none,(.seq #[(.str "self" 769),(.str "modules" 770)] 0),#[]⟩
noncomputable def o407 (P : Params) : Obj := ⟨(.type "tuple"),.none,(.seq #[] 0),#[]⟩
noncomputable def o409 (P : Params) : Obj := ⟨(.type "code"),.none,(.fields #[(.str "__init__" 766),(.str "World.__init__" 767),(.str "/claim/cut.py" 768),(.int 295 0),(.int 2 0),(.int 0 0),(.int 0 0),(.int 3 0),(.ref 404),(.bool .true),(.int 181 0),(.ref 405),.none,(.ref 406),(.ref 407),(.ref 408),(.int 771 0),(.int 295 0),(.str "/claim/cut.py" 772)]),#[]⟩
noncomputable def o410 (P : Params) : Obj := ⟨(.type "function"),.none,(.func (fnR "__init__" "World.__init__" (sub 0 (st 29)) 3 [] (.ref 403) .none .none (.str "lendcore.world" 710) .none (.ref 409) .none 0)),#[]⟩
noncomputable def o411 (P : Params) : Obj := ⟨(.type "tuple"),.none,(.seq #[] 0),#[]⟩
noncomputable def o413 (P : Params) : Obj := ⟨(.type "tuple"),.none,(.seq #[(.str "self" 777),(.str "path" 778),(.str "number" 779),(.str "k" 780),(.str "module" 781)] 0),#[]⟩
noncomputable def o414 (P : Params) : Obj := ⟨(.type "tuple"),.none,(.seq #[] 0),#[]⟩
noncomputable def o416 (P : Params) : Obj := ⟨(.type "code"),.none,(.fields #[(.str "is_field_seen" 774),(.str "World.is_field_seen" 775),(.str "/claim/cut.py" 776),(.int 305 0),(.int 5 0),(.int 0 0),(.int 0 0),(.int 3 0),(.ref 411),(.bool .true),(.int 181 0),(.ref 412),.none,(.ref 413),(.ref 414),(.ref 415),(.int 782 0),(.int 305 0),(.str "/claim/cut.py" 783)]),#[]⟩
noncomputable def o417 (P : Params) : Obj := ⟨(.type "function"),.none,(.func (fnR "is_field_seen" "World.is_field_seen" (sub 1 (st 29)) 3 [] .none .none .none (.str "lendcore.world" 710) .none (.ref 416) .none 0)),#[]⟩
noncomputable def o418 (P : Params) : Obj := ⟨(.type "tuple"),.none,(.seq #[(.str "adts" 785),(.str "bodies" 786),(.str "consts" 787),(.str "impls" 788),(.str "modules" 789),(.str "sigs" 790),(.str "traits" 791),(.str "variants" 792)] 0),#[]⟩
noncomputable def o419 (P : Params) : Obj := ⟨(.type "dict"),.none,(.dict #[⟨(PyData.keyHash P "__module__"),(.str "__module__" 761),(.str "lendcore.world" 710)⟩,⟨(PyData.keyHash P "__firstlineno__"),(.str "__firstlineno__" 765),(.int 293 764)⟩,⟨(PyData.keyHash P "__init__"),(.str "__init__" 773),(.ref 410)⟩,⟨(PyData.keyHash P "is_field_seen"),(.str "is_field_seen" 784),(.ref 417)⟩,⟨(PyData.keyHash P "__static_attributes__"),(.str "__static_attributes__" 793),(.ref 418)⟩,⟨(PyData.keyHash P "__dict__"),(.str "__dict__" 795),(.ref 421)⟩,⟨(PyData.keyHash P "__weakref__"),(.str "__weakref__" 797),(.ref 422)⟩,⟨(PyData.keyHash P "__doc__"),(.str "__doc__" 798),.none⟩] 4),#[]⟩
noncomputable def o420 (P : Params) : Obj := ⟨(.type "type"),.none,(.cls ⟨"World",[(.type "object")],[(.ref 420),(.type "object")],419,"World",.true,[],[],.false,.none,.false⟩),#[.none,.none,(.some (.str "World" 754)),(.some (.str "World" 762)),(.some (.builtin "object.__new__")),(.some (.bool .true))]⟩
noncomputable def o421 (P : Params) : Obj := ⟨(.type "getset_descriptor"),.none,(.fields #[(.str "__dict__" 794),(.ref 420),(.builtin "function.__dict__"),(.builtin "function.__dict__#set")]),#[]⟩
noncomputable def o422 (P : Params) : Obj := ⟨(.type "getset_descriptor"),.none,(.fields #[(.str "__weakref__" 796),(.ref 420),(.builtin "ExceptionGroup.__weakref__"),.none]),#[]⟩
noncomputable def o425 (P : Params) : Obj := ⟨(.type "tuple"),.none,(.seq #[] 0),#[]⟩
noncomputable def o427 (P : Params) : Obj := ⟨(.type "tuple"),.none,(.seq #[(.str "script" 806),(.str "k" 807),(.str "cell" 808),(.str "big" 809),(.str "mixed" 810)] 0),#[]⟩
noncomputable def o428 (P : Params) : Obj := ⟨(.type "tuple"),.none,(.seq #[] 0),#[]⟩
noncomputable def o430 (P : Params) : Obj := ⟨(.type "code"),.none,(.fields #[(.str "_law_pool" 803),(.str "_law_pool" 804),(.str "/claim/cut.py" 805),(.int 308 0),(.int 2 0),(.int 0 0),(.int 0 0),(.int 3 0),(.ref 425),(.bool .true),(.int 181 0),(.ref 426),.none,(.ref 427),(.ref 428),(.ref 429),(.int 811 0),(.int 308 0),(.str "/claim/cut.py" 812)]),#[]⟩
noncomputable def o431 (P : Params) : Obj := ⟨(.type "function"),.none,(.func (fnR "_law_pool" "_law_pool" (st 31) 3 [] .none .none .none (.str "law_ot0032_01" 801) .none (.ref 430) .none 0)),#[]⟩
noncomputable def o432 (P : Params) : Obj := ⟨(.type "tuple"),.none,(.seq #[] 0),#[]⟩
noncomputable def o434 (P : Params) : Obj := ⟨(.type "tuple"),.none,(.seq #[(.str "source" 817),(.str "top" 818),(.str "drawn" 819)] 0),#[]⟩
noncomputable def o435 (P : Params) : Obj := ⟨(.type "tuple"),.none,(.seq #[] 0),#[]⟩
noncomputable def o437 (P : Params) : Obj := ⟨(.type "code"),.none,(.fields #[(.str "_law_take" 814),(.str "_law_take" 815),(.str "/claim/cut.py" 816),(.int 315 0),(.int 2 0),(.int 0 0),(.int 0 0),(.int 3 0),(.ref 432),(.bool .true),(.int 181 0),(.ref 433),.none,(.ref 434),(.ref 435),(.ref 436),(.int 820 0),(.int 315 0),(.str "/claim/cut.py" 821)]),#[]⟩
noncomputable def o438 (P : Params) : Obj := ⟨(.type "function"),.none,(.func (fnR "_law_take" "_law_take" (st 32) 3 [] .none .none .none (.str "law_ot0032_01" 801) .none (.ref 437) .none 0)),#[]⟩
noncomputable def o439 (P : Params) : Obj := ⟨(.type "tuple"),.none,(.seq #[] 0),#[]⟩
noncomputable def o441 (P : Params) : Obj := ⟨(.type "tuple"),.none,(.seq #[(.str "source" 826),(.str "things" 827)] 0),#[]⟩
noncomputable def o442 (P : Params) : Obj := ⟨(.type "tuple"),.none,(.seq #[] 0),#[]⟩
noncomputable def o444 (P : Params) : Obj := ⟨(.type "code"),.none,(.fields #[(.str "_law_one" 823),(.str "_law_one" 824),(.str "/claim/cut.py" 825),(.int 322 0),(.int 2 0),(.int 0 0),(.int 0 0),(.int 3 0),(.ref 439),(.bool .true),(.int 181 0),(.ref 440),.none,(.ref 441),(.ref 442),(.ref 443),(.int 828 0),(.int 322 0),(.str "/claim/cut.py" 829)]),#[]⟩
noncomputable def o445 (P : Params) : Obj := ⟨(.type "function"),.none,(.func (fnR "_law_one" "_law_one" (st 33) 3 [] .none .none .none (.str "law_ot0032_01" 801) .none (.ref 444) .none 0)),#[]⟩
noncomputable def o446 (P : Params) : Obj := ⟨(.type "tuple"),.none,(.seq #[(.str "int" 831),(.str "u8" 832)] 0),#[]⟩
noncomputable def o447 (P : Params) : Obj := ⟨(.type "tuple"),.none,(.seq #[] 0),#[]⟩
noncomputable def o449 (P : Params) : Obj := ⟨(.type "tuple"),.none,(.seq #[(.str "source" 837),(.str "deep" 838),(.str "way" 839)] 0),#[]⟩
noncomputable def o450 (P : Params) : Obj := ⟨(.type "tuple"),.none,(.seq #[] 0),#[]⟩
noncomputable def o452 (P : Params) : Obj := ⟨(.type "code"),.none,(.fields #[(.str "_law_type" 834),(.str "_law_type" 835),(.str "/claim/cut.py" 836),(.int 325 0),(.int 2 0),(.int 0 0),(.int 0 0),(.int 3 0),(.ref 447),(.bool .true),(.int 181 0),(.ref 448),.none,(.ref 449),(.ref 450),(.ref 451),(.int 840 0),(.int 325 0),(.str "/claim/cut.py" 841)]),#[]⟩
noncomputable def o453 (P : Params) : Obj := ⟨(.type "function"),.none,(.func (fnR "_law_type" "_law_type" (st 35) 3 [] .none .none .none (.str "law_ot0032_01" 801) .none (.ref 452) .none 0)),#[]⟩
noncomputable def o454 (P : Params) : Obj := ⟨(.type "tuple"),.none,(.seq #[] 0),#[]⟩
noncomputable def o457 (P : Params) : Obj := ⟨(.type "code"),.none,(.fields #[(.str "_law_like" 843),(.str "_law_like" 844),(.str "/claim/cut.py" 845),(.int 336 0),(.int 2 0),(.int 0 0),(.int 0 0),(.int 3 0),(.ref 454),(.bool .true),(.int 181 0),(.ref 455),.none,.none,.none,(.ref 456),(.int 846 0),(.int 336 0),(.str "/claim/cut.py" 847)]),#[]⟩
noncomputable def o458 (P : Params) : Obj := ⟨(.type "function"),.none,(.func (fnR "_law_like" "_law_like" (st 36) 3 [] .none .none .none (.str "law_ot0032_01" 801) .none (.ref 457) .none 0)),#[]⟩
noncomputable def o459 (P : Params) : Obj := ⟨(.type "tuple"),.none,(.seq #[] 0),#[]⟩
noncomputable def o462 (P : Params) : Obj := ⟨(.type "code"),.none,(.fields #[(.str "_law_pairs" 849),(.str "_law_pairs" 850),(.str "/claim/cut.py" 851),(.int 346 0),(.int 4 0),(.int 0 0),(.int 0 0),(.int 3 0),(.ref 459),(.bool .true),(.int 181 0),(.ref 460),.none,.none,.none,(.ref 461),(.int 852 0),(.int 346 0),(.str "/claim/cut.py" 853)]),#[]⟩
noncomputable def o463 (P : Params) : Obj := ⟨(.type "function"),.none,(.func (fnR "_law_pairs" "_law_pairs" (st 37) 3 [] .none .none .none (.str "law_ot0032_01" 801) .none (.ref 462) .none 0)),#[]⟩
noncomputable def o464 (P : Params) : Obj := ⟨(.type "tuple"),.none,(.seq #[] 0),#[]⟩
noncomputable def o466 (P : Params) : Obj := ⟨(.type "tuple"),.none,(.seq #[(.str "around" 858),(.str "inner" 859)] 0),#[]⟩
noncomputable def o467 (P : Params) : Obj := ⟨(.type "tuple"),.none,(.seq #[] 0),#[]⟩
noncomputable def o469 (P : Params) : Obj := ⟨(.type "code"),.none,(.fields #[(.str "_law_within" 855),(.str "_law_within" 856),(.str "/claim/cut.py" 857),(.int 359 0),(.int 2 0),(.int 0 0),(.int 0 0),(.int 3 0),(.ref 464),(.bool .true),(.int 181 0),(.ref 465),.none,(.ref 466),(.ref 467),(.ref 468),(.int 860 0),(.int 359 0),(.str "/claim/cut.py" 861)]),#[]⟩
noncomputable def o470 (P : Params) : Obj := ⟨(.type "function"),.none,(.func (fnR "_law_within" "_law_within" (st 38) 3 [] .none .none .none (.str "law_ot0032_01" 801) .none (.ref 469) .none 0)),#[]⟩
noncomputable def o471 (P : Params) : Obj := ⟨(.type "tuple"),.none,(.seq #[] 0),#[]⟩
noncomputable def o473 (P : Params) : Obj := ⟨(.type "tuple"),.none,(.seq #[(.str "source" 866),(.str "rows" 867),(.str "local" 868),(.str "steps" 869),(.str "kind" 870),(.str "ways" 871),(.str "turn" 872),(.str "at" 873)] 0),#[]⟩
noncomputable def o474 (P : Params) : Obj := ⟨(.type "tuple"),.none,(.seq #[] 0),#[]⟩
noncomputable def o476 (P : Params) : Obj := ⟨(.type "code"),.none,(.fields #[(.str "_law_place" 863),(.str "_law_place" 864),(.str "/claim/cut.py" 865),(.int 363 0),(.int 3 0),(.int 0 0),(.int 0 0),(.int 3 0),(.ref 471),(.bool .true),(.int 181 0),(.ref 472),.none,(.ref 473),(.ref 474),(.ref 475),(.int 874 0),(.int 363 0),(.str "/claim/cut.py" 875)]),#[]⟩
noncomputable def o477 (P : Params) : Obj := ⟨(.type "function"),.none,(.func (fnR "_law_place" "_law_place" (st 39) 3 [] .none .none .none (.str "law_ot0032_01" 801) .none (.ref 476) .none 0)),#[]⟩
noncomputable def o478 (P : Params) : Obj := ⟨(.type "tuple"),.none,(.seq #[] 0),#[]⟩
noncomputable def o480 (P : Params) : Obj := ⟨(.type "tuple"),.none,(.seq #[(.str "source" 880),(.str "place" 881),(.str "kind" 882),(.str "ways" 883),(.str "region" 884),(.str "is_mut" 885),(.str "goal" 886),(.str "pairs" 887),(.str "outer" 888),(.str "is_open" 889)] 0),#[]⟩
noncomputable def o481 (P : Params) : Obj := ⟨(.type "tuple"),.none,(.seq #[] 0),#[]⟩
noncomputable def o483 (P : Params) : Obj := ⟨(.type "code"),.none,(.fields #[(.str "_law_lent" 877),(.str "_law_lent" 878),(.str "/claim/cut.py" 879),(.int 378 0),(.int 4 0),(.int 0 0),(.int 0 0),(.int 3 0),(.ref 478),(.bool .true),(.int 181 0),(.ref 479),.none,(.ref 480),(.ref 481),(.ref 482),(.int 890 0),(.int 378 0),(.str "/claim/cut.py" 891)]),#[]⟩
noncomputable def o484 (P : Params) : Obj := ⟨(.type "function"),.none,(.func (fnR "_law_lent" "_law_lent" (st 40) 3 [] .none .none .none (.str "law_ot0032_01" 801) .none (.ref 483) .none 0)),#[]⟩
noncomputable def o485 (P : Params) : Obj := ⟨(.type "tuple"),.none,(.seq #[] 0),#[]⟩
noncomputable def o487 (P : Params) : Obj := ⟨(.type "tuple"),.none,(.seq #[(.str "source" 896),(.str "rows" 897),(.str "varied" 898),(.str "local" 899),(.str "place" 900),(.str "kind" 901),(.str "ways" 902),(.str "way" 903),(.str "one" 904),(.str "goal" 905),(.str "pairs" 906),(.str "held" 907)] 0),#[]⟩
noncomputable def o488 (P : Params) : Obj := ⟨(.type "tuple"),.none,(.seq #[] 0),#[]⟩
noncomputable def o490 (P : Params) : Obj := ⟨(.type "code"),.none,(.fields #[(.str "_law_made" 893),(.str "_law_made" 894),(.str "/claim/cut.py" 895),(.int 387 0),(.int 3 0),(.int 0 0),(.int 0 0),(.int 3 0),(.ref 485),(.bool .true),(.int 181 0),(.ref 486),.none,(.ref 487),(.ref 488),(.ref 489),(.int 908 0),(.int 387 0),(.str "/claim/cut.py" 909)]),#[]⟩
noncomputable def o491 (P : Params) : Obj := ⟨(.type "function"),.none,(.func (fnR "_law_made" "_law_made" (st 41) 3 [] .none .none .none (.str "law_ot0032_01" 801) .none (.ref 490) .none 0)),#[]⟩
noncomputable def o492 (P : Params) : Obj := ⟨(.type "tuple"),.none,(.seq #[] 0),#[]⟩
noncomputable def o495 (P : Params) : Obj := ⟨(.type "code"),.none,(.fields #[(.str "_law_right" 911),(.str "_law_right" 912),(.str "/claim/cut.py" 913),(.int 412 0),(.int 4 0),(.int 0 0),(.int 0 0),(.int 3 0),(.ref 492),(.bool .true),(.int 181 0),(.ref 493),.none,.none,.none,(.ref 494),(.int 914 0),(.int 412 0),(.str "/claim/cut.py" 915)]),#[]⟩
noncomputable def o496 (P : Params) : Obj := ⟨(.type "function"),.none,(.func (fnR "_law_right" "_law_right" (st 42) 3 [] .none .none .none (.str "law_ot0032_01" 801) .none (.ref 495) .none 0)),#[]⟩
noncomputable def o497 (P : Params) : Obj := ⟨(.type "tuple"),.none,(.seq #[] 0),#[]⟩
noncomputable def o500 (P : Params) : Obj := ⟨(.type "code"),.none,(.fields #[(.str "law" 917),(.str "law" 918),(.str "/claim/cut.py" 919),(.int 424 0),(.int 1 0),(.int 0 0),(.int 0 0),(.int 3 0),(.ref 497),(.bool .true),(.int 181 0),(.ref 498),.none,.none,.none,(.ref 499),(.int 920 0),(.int 424 0),(.str "/claim/cut.py" 921)]),#[]⟩
noncomputable def o501 (P : Params) : Obj := ⟨(.type "function"),.none,(.func (fnR "law" "law" (st 43) 3 [] .none .none .none (.str "law_ot0032_01" 801) .none (.ref 500) .none 0)),#[]⟩
noncomputable def heap_39 (P : Params) : Frag := (nat_lit 2, o2 P) :: (nat_lit 3, o3 P) :: (nat_lit 15, o15 P) :: (nat_lit 17, o17 P) :: (nat_lit 18, o18 P) :: (nat_lit 20, o20 P) :: (nat_lit 21, o21 P) :: (nat_lit 22, o22 P) :: (nat_lit 29, o29 P) :: (nat_lit 30, o30 P) :: (nat_lit 32, o32 P) :: (nat_lit 33, o33 P) :: (nat_lit 35, o35 P) :: (nat_lit 36, o36 P) :: (nat_lit 37, o37 P) :: (nat_lit 38, o38 P) :: (nat_lit 39, o39 P) :: (nat_lit 40, o40 P) :: (nat_lit 43, o43 P) :: (nat_lit 45, o45 P) :: (nat_lit 46, o46 P) :: (nat_lit 48, o48 P) :: (nat_lit 49, o49 P) :: (nat_lit 50, o50 P) :: (nat_lit 52, o52 P) :: (nat_lit 53, o53 P) :: (nat_lit 55, o55 P) :: (nat_lit 56, o56 P) :: (nat_lit 57, o57 P) :: (nat_lit 60, o60 P) :: (nat_lit 61, o61 P) :: (nat_lit 62, o62 P) :: (nat_lit 65, o65 P) :: (nat_lit 66, o66 P) :: (nat_lit 67, o67 P) :: (nat_lit 69, o69 P) :: (nat_lit 70, o70 P) :: (nat_lit 72, o72 P) :: (nat_lit 73, o73 P) :: (nat_lit 74, o74 P) :: (nat_lit 76, o76 P) :: (nat_lit 77, o77 P) :: (nat_lit 79, o79 P) :: (nat_lit 80, o80 P) :: (nat_lit 81, o81 P) :: (nat_lit 84, o84 P) :: (nat_lit 85, o85 P) :: (nat_lit 93, o93 P) :: (nat_lit 94, o94 P) :: (nat_lit 96, o96 P) :: (nat_lit 97, o97 P) :: (nat_lit 99, o99 P) :: (nat_lit 100, o100 P) :: (nat_lit 101, o101 P) :: (nat_lit 103, o103 P) :: (nat_lit 104, o104 P) :: (nat_lit 106, o106 P) :: (nat_lit 107, o107 P) :: (nat_lit 108, o108 P) :: (nat_lit 110, o110 P) :: (nat_lit 111, o111 P) :: (nat_lit 113, o113 P) :: (nat_lit 114, o114 P) :: (nat_lit 115, o115 P) :: (nat_lit 117, o117 P) :: (nat_lit 118, o118 P) :: (nat_lit 120, o120 P) :: (nat_lit 121, o121 P) :: (nat_lit 122, o122 P) :: (nat_lit 124, o124 P) :: (nat_lit 125, o125 P) :: (nat_lit 127, o127 P) :: (nat_lit 128, o128 P) :: (nat_lit 129, o129 P) :: (nat_lit 131, o131 P) :: (nat_lit 132, o132 P) :: (nat_lit 134, o134 P) :: (nat_lit 135, o135 P) :: (nat_lit 136, o136 P) :: (nat_lit 137, o137 P) :: (nat_lit 139, o139 P) :: (nat_lit 140, o140 P) :: (nat_lit 142, o142 P) :: (nat_lit 143, o143 P) :: (nat_lit 144, o144 P) :: (nat_lit 145, o145 P) :: (nat_lit 146, o146 P) :: (nat_lit 147, o147 P) :: (nat_lit 148, o148 P) :: (nat_lit 151, o151 P) :: (nat_lit 153, o153 P) :: (nat_lit 154, o154 P) :: (nat_lit 156, o156 P) :: (nat_lit 157, o157 P) :: (nat_lit 158, o158 P) :: (nat_lit 160, o160 P) :: (nat_lit 161, o161 P) :: (nat_lit 163, o163 P) :: (nat_lit 164, o164 P) :: (nat_lit 165, o165 P) :: (nat_lit 167, o167 P) :: (nat_lit 168, o168 P) :: (nat_lit 170, o170 P) :: (nat_lit 171, o171 P) :: (nat_lit 179, o179 P) :: (nat_lit 181, o181 P) :: (nat_lit 182, o182 P) :: (nat_lit 184, o184 P) :: (nat_lit 185, o185 P) :: (nat_lit 186, o186 P) :: (nat_lit 188, o188 P) :: (nat_lit 189, o189 P) :: (nat_lit 191, o191 P) :: (nat_lit 192, o192 P) :: (nat_lit 193, o193 P) :: (nat_lit 195, o195 P) :: (nat_lit 196, o196 P) :: (nat_lit 198, o198 P) :: (nat_lit 199, o199 P) :: (nat_lit 200, o200 P) :: (nat_lit 201, o201 P) :: (nat_lit 203, o203 P) :: (nat_lit 204, o204 P) :: (nat_lit 206, o206 P) :: (nat_lit 207, o207 P) :: (nat_lit 208, o208 P) :: (nat_lit 210, o210 P) :: (nat_lit 211, o211 P) :: (nat_lit 213, o213 P) :: (nat_lit 214, o214 P) :: (nat_lit 215, o215 P) :: (nat_lit 216, o216 P) :: (nat_lit 217, o217 P) :: (nat_lit 218, o218 P) :: (nat_lit 219, o219 P) :: (nat_lit 222, o222 P) :: (nat_lit 224, o224 P) :: (nat_lit 225, o225 P) :: (nat_lit 227, o227 P) :: (nat_lit 228, o228 P) :: (nat_lit 229, o229 P) :: (nat_lit 231, o231 P) :: (nat_lit 232, o232 P) :: (nat_lit 234, o234 P) :: (nat_lit 235, o235 P) :: (nat_lit 243, o243 P) :: (nat_lit 246, o246 P) :: (nat_lit 247, o247 P) :: (nat_lit 248, o248 P) :: (nat_lit 250, o250 P) :: (nat_lit 251, o251 P) :: (nat_lit 253, o253 P) :: (nat_lit 254, o254 P) :: (nat_lit 255, o255 P) :: (nat_lit 257, o257 P) :: (nat_lit 258, o258 P) :: (nat_lit 260, o260 P) :: (nat_lit 261, o261 P) :: (nat_lit 262, o262 P) :: (nat_lit 263, o263 P) :: (nat_lit 264, o264 P) :: (nat_lit 265, o265 P) :: (nat_lit 266, o266 P) :: (nat_lit 269, o269 P) :: (nat_lit 272, o272 P) :: (nat_lit 273, o273 P) :: (nat_lit 281, o281 P) :: (nat_lit 283, o283 P) :: (nat_lit 284, o284 P) :: (nat_lit 286, o286 P) :: (nat_lit 287, o287 P) :: (nat_lit 288, o288 P) :: (nat_lit 290, o290 P) :: (nat_lit 291, o291 P) :: (nat_lit 293, o293 P) :: (nat_lit 294, o294 P) :: (nat_lit 295, o295 P) :: (nat_lit 297, o297 P) :: (nat_lit 298, o298 P) :: (nat_lit 300, o300 P) :: (nat_lit 301, o301 P) :: (nat_lit 302, o302 P) :: (nat_lit 304, o304 P) :: (nat_lit 305, o305 P) :: (nat_lit 307, o307 P) :: (nat_lit 308, o308 P) :: (nat_lit 309, o309 P) :: (nat_lit 311, o311 P) :: (nat_lit 312, o312 P) :: (nat_lit 314, o314 P) :: (nat_lit 315, o315 P) :: (nat_lit 316, o316 P) :: (nat_lit 318, o318 P) :: (nat_lit 319, o319 P) :: (nat_lit 321, o321 P) :: (nat_lit 322, o322 P) :: (nat_lit 323, o323 P) :: (nat_lit 325, o325 P) :: (nat_lit 326, o326 P) :: (nat_lit 328, o328 P) :: (nat_lit 329, o329 P) :: (nat_lit 330, o330 P) :: (nat_lit 333, o333 P) :: (nat_lit 334, o334 P) :: (nat_lit 335, o335 P) :: (nat_lit 337, o337 P) :: (nat_lit 338, o338 P) :: (nat_lit 340, o340 P) :: (nat_lit 341, o341 P) :: (nat_lit 342, o342 P) :: (nat_lit 343, o343 P) :: (nat_lit 344, o344 P) :: (nat_lit 345, o345 P) :: (nat_lit 346, o346 P) :: (nat_lit 349, o349 P) :: (nat_lit 351, o351 P) :: (nat_lit 352, o352 P) :: (nat_lit 354, o354 P) :: (nat_lit 355, o355 P) :: (nat_lit 356, o356 P) :: (nat_lit 359, o359 P) :: (nat_lit 360, o360 P) :: (nat_lit 361, o361 P) :: (nat_lit 364, o364 P) :: (nat_lit 365, o365 P) :: (nat_lit 366, o366 P) :: (nat_lit 368, o368 P) :: (nat_lit 369, o369 P) :: (nat_lit 371, o371 P) :: (nat_lit 372, o372 P) :: (nat_lit 380, o380 P) :: (nat_lit 381, o381 P) :: (nat_lit 382, o382 P) :: (nat_lit 384, o384 P) :: (nat_lit 385, o385 P) :: (nat_lit 387, o387 P) :: (nat_lit 388, o388 P) :: (nat_lit 389, o389 P) :: (nat_lit 390, o390 P) :: (nat_lit 391, o391 P) :: (nat_lit 392, o392 P) :: (nat_lit 393, o393 P) :: (nat_lit 403, o403 P) :: (nat_lit 404, o404 P) :: (nat_lit 406, o406 P) :: (nat_lit 407, o407 P) :: (nat_lit 409, o409 P) :: (nat_lit 410, o410 P) :: (nat_lit 411, o411 P) :: (nat_lit 413, o413 P) :: (nat_lit 414, o414 P) :: (nat_lit 416, o416 P) :: (nat_lit 417, o417 P) :: (nat_lit 418, o418 P) :: (nat_lit 419, o419 P) :: (nat_lit 420, o420 P) :: (nat_lit 421, o421 P) :: (nat_lit 422, o422 P) :: (nat_lit 425, o425 P) :: (nat_lit 427, o427 P) :: (nat_lit 428, o428 P) :: (nat_lit 430, o430 P) :: (nat_lit 431, o431 P) :: (nat_lit 432, o432 P) :: (nat_lit 434, o434 P) :: (nat_lit 435, o435 P) :: (nat_lit 437, o437 P) :: (nat_lit 438, o438 P) :: (nat_lit 439, o439 P) :: (nat_lit 441, o441 P) :: (nat_lit 442, o442 P) :: (nat_lit 444, o444 P) :: (nat_lit 445, o445 P) :: (nat_lit 446, o446 P) :: (nat_lit 447, o447 P) :: (nat_lit 449, o449 P) :: (nat_lit 450, o450 P) :: (nat_lit 452, o452 P) :: (nat_lit 453, o453 P) :: (nat_lit 454, o454 P) :: (nat_lit 457, o457 P) :: (nat_lit 458, o458 P) :: (nat_lit 459, o459 P) :: (nat_lit 462, o462 P) :: (nat_lit 463, o463 P) :: (nat_lit 464, o464 P) :: (nat_lit 466, o466 P) :: (nat_lit 467, o467 P) :: (nat_lit 469, o469 P) :: (nat_lit 470, o470 P) :: (nat_lit 471, o471 P) :: (nat_lit 473, o473 P) :: (nat_lit 474, o474 P) :: (nat_lit 476, o476 P) :: (nat_lit 477, o477 P) :: (nat_lit 478, o478 P) :: (nat_lit 480, o480 P) :: (nat_lit 481, o481 P) :: (nat_lit 483, o483 P) :: (nat_lit 484, o484 P) :: (nat_lit 485, o485 P) :: (nat_lit 487, o487 P) :: (nat_lit 488, o488 P) :: (nat_lit 490, o490 P) :: (nat_lit 491, o491 P) :: (nat_lit 492, o492 P) :: (nat_lit 495, o495 P) :: (nat_lit 496, o496 P) :: (nat_lit 497, o497 P) :: (nat_lit 500, o500 P) :: (nat_lit 501, o501 P) :: []
noncomputable def ads : List Addr := [2, 3, 15, 17, 18, 20, 21, 22, 29, 30, 32, 33, 35, 36, 37, 38, 39, 40, 43, 45, 46, 48, 49, 50, 52, 53, 55, 56, 57, 60, 61, 62, 65, 66, 67, 69, 70, 72, 73, 74, 76, 77, 79, 80, 81, 84, 85, 93, 94, 96, 97, 99, 100, 101, 103, 104, 106, 107, 108, 110, 111, 113, 114, 115, 117, 118, 120, 121, 122, 124, 125, 127, 128, 129, 131, 132, 134, 135, 136, 137, 139, 140, 142, 143, 144, 145, 146, 147, 148, 151, 153, 154, 156, 157, 158, 160, 161, 163, 164, 165, 167, 168, 170, 171, 179, 181, 182, 184, 185, 186, 188, 189, 191, 192, 193, 195, 196, 198, 199, 200, 201, 203, 204, 206, 207, 208, 210, 211, 213, 214, 215, 216, 217, 218, 219, 222, 224, 225, 227, 228, 229, 231, 232, 234, 235, 243, 246, 247, 248, 250, 251, 253, 254, 255, 257, 258, 260, 261, 262, 263, 264, 265, 266, 269, 272, 273, 281, 283, 284, 286, 287, 288, 290, 291, 293, 294, 295, 297, 298, 300, 301, 302, 304, 305, 307, 308, 309, 311, 312, 314, 315, 316, 318, 319, 321, 322, 323, 325, 326, 328, 329, 330, 333, 334, 335, 337, 338, 340, 341, 342, 343, 344, 345, 346, 349, 351, 352, 354, 355, 356, 359, 360, 361, 364, 365, 366, 368, 369, 371, 372, 380, 381, 382, 384, 385, 387, 388, 389, 390, 391, 392, 393, 403, 404, 406, 407, 409, 410, 411, 413, 414, 416, 417, 418, 419, 420, 421, 422, 425, 427, 428, 430, 431, 432, 434, 435, 437, 438, 439, 441, 442, 444, 445, 446, 447, 449, 450, 452, 453, 454, 457, 458, 459, 462, 463, 464, 466, 467, 469, 470, 471, 473, 474, 476, 477, 478, 480, 481, 483, 484, 485, 487, 488, 490, 491, 492, 495, 496, 497, 500, 501]

noncomputable def view_39 : Program := view pw [0, 2, 4, 5, 6, 7, 8, 9, 10, 12, 13, 14, 15, 17, 18, 19, 20, 21, 22, 23, 24, 25, 26, 28, 29, 31, 32, 33, 34, 35, 36, 37, 38, 39, 40, 41, 42, 43]
noncomputable abbrev loose : List Str := [Str.ofString "LendError", Str.ofString "Adt"]
noncomputable abbrev HK : Hook := kmHook heap_39 ads (fun _ => by kernel_rfl) [82, 68]
/-! the run of the top -/
noncomputable def env0 : Env := { scope := pw.main.scope, locals := mainNs, globals := mainNs, cells := [], code := .ref 13, frame := some 14 }
noncomputable def cE : Code := .body (behindTheImports pw) env0
noncomputable abbrev p0 : Pos := ⟨0, 0, 0, 0⟩
noncomputable def p9 : Pos := ⟨424, 0, 438, 53⟩
noncomputable abbrev ann0 : Option Value := some (.ref 6)
noncomputable def boot (w : World) (os : OsState) : Shared := ⟨boot_heap w.params, Array.mk [], boot_drawn, boot_toks, os⟩
noncomputable def sA (w : World) (os : OsState) : Shared := match topGo treeTable pw w 11 ann0 12 (boot w os) (topStub pw) with
  | some (s, _) => s
  | none => boot w os
noncomputable def treeL : List Obj → Nat → BT → BT
  | [], _, t => t
  | o :: r, i, t => treeL r (i + 1) (t.ins i o)
noncomputable def sT (w : World) (os : OsState) : SharedT := ⟨treeL (sA w os).heap.objs.toList 0 .nil, 15, (sA w os).heap.life, (sA w os).gens, (sA w os).drawn, (sA w os).toks, os⟩
noncomputable def th0 : Thread := piecesOf (behindTheImports pw) env0 cE p0 [topFrame p0]
noncomputable abbrev segF := PySem.W.Fast.tw10110043849684766642
noncomputable abbrev tabF := PySem.W.Fast.tw14364793385576792824
noncomputable def sZ (w : World) (os : OsState) : SharedT := match segF tabF pw w 11 ann0 1 3400 (sT w os) th0 with
  | some (_, s, _, _) => s
  | none => sT w os
theorem t1 (w : World) (os : OsState) : topGo treeTable pw w 11 ann0 12 (boot w os) (topStub pw) = some (sA w os, ⟨denote treeTable cE, cE, p0, [topFrame p0]⟩) := by kernel_rfl
theorem t2 (w : World) (os : OsState) : segRun treeTable pw w 11 ann0 1 1 (sA w os) (blockOf (behindTheImports pw) env0 cE p0 [topFrame p0]) = some (.next, (sT w os).abs, cE, p0) := by kernel_rfl
/-- the evaluation, done once -/
theorem ran (w : World) (os : OsState) : (segF tabF pw w 11 ann0 1 3400 (sT w os) th0 = some (.next, sZ w os, cE, p9)) ∧ ((staticsOk (importedModules pw.main.body) (boot_heap w.params) (sZ w os).abs.heap && namesBound pw (sZ w os).abs.heap && gensDone (sZ w os).abs && laidKept (boot_heap w.params) (sZ w os).abs.heap) = true) ∧ (PySem.W.Fast.tw4187177175401517315 view_39 loose (importedModules pw.main.body) (fun s => xlAt view_39 [] s && recOk [] s) true (sZ w os).abs = openGood view_39 loose) ∧ (ads.map (sZ w os).abs.heap.get? = (heap_39 w.params).map fun p => some p.2) ∧ ([82, 68].map (sZ w os).abs.heap.get? = [82, 68].map fun _ => some (tabObj #[])) := ⟨by kernel_rfl, by kernel_rfl, by kernel_rfl, by kernel_rfl, by kernel_rfl⟩
theorem t3F (w : World) (os : OsState) : segF tabF pw w 11 ann0 1 3400 (sT w os) th0 = some (.next, sZ w os, cE, p9) := (ran w os).1
theorem t3 (w : World) (os : OsState) : segRunT treeTable pw w 11 ann0 1 3400 (sT w os) th0 = some (.next, sZ w os, cE, p9) := by
  rw [PySem.W.Fast.te10110043849684766642, PySem.W.Fast.te14364793385576792824]
  exact t3F w os
theorem t4 (w : World) (os : OsState) : topRun treeTable pw w 11 ann0 2 (sZ w os).abs (restOf [] env0 cE p9 [topFrame p0]) = some (sZ w os).abs := by kernel_rfl
theorem tRun (w : World) (os : OsState) : topRun treeTable pw w 11 ann0 3415 (boot w os) (topStub pw) = some (sZ w os).abs := by
  refine go_top (n := 12) (N := 3403) (t1 w os) (piece_block (n := 1) (N := 3402) (t2 w os) ?_)
  have k := piece_app (rest := []) (n := 3400) (N := 2) (segRun_of (t3 w os)) (t4 w os)
  rw [List.append_nil] at k
  exact k
/-! what is seen behind it -/
theorem l1 (w : World) (os : OsState) : (staticsOk (importedModules pw.main.body) (boot_heap w.params) (sZ w os).abs.heap && namesBound pw (sZ w os).abs.heap && gensDone (sZ w os).abs && laidKept (boot_heap w.params) (sZ w os).abs.heap) = true := (ran w os).2.1
theorem l2F (w : World) (os : OsState) : PySem.W.Fast.tw4187177175401517315 view_39 loose (importedModules pw.main.body) (fun s => xlAt view_39 [] s && recOk [] s) true (sZ w os).abs = openGood view_39 loose := (ran w os).2.2.1
theorem l2 (w : World) (os : OsState) : openSeen view_39 loose (importedModules pw.main.body) (fun s => xlAt view_39 [] s && recOk [] s) true (sZ w os).abs = openGood view_39 loose := by
  rw [PySem.W.Fast.te4187177175401517315]
  exact l2F w os
theorem l3a (w : World) (os : OsState) : ads.map (sZ w os).abs.heap.get? = (heap_39 w.params).map fun p => some p.2 := (ran w os).2.2.2.1
theorem l3b (w : World) (os : OsState) : [82, 68].map (sZ w os).abs.heap.get? = [82, 68].map fun _ => some (tabObj #[]) := (ran w os).2.2.2.2
theorem l3 (w : World) (os : OsState) : Hook.obs HK (sZ w os).abs = Hook.val HK w := congr (congrArg Prod.mk (l3a w os)) (l3b w os)
theorem op1 : opening pw = plainProg pw.main.scope.names := by kernel_rfl
theorem op2 (s : Shared) : fenceModules? pw s = some s := by kernel_rfl
theorem op3 (w : World) : ((boot_heap w.params).isNs mainGlobals, (boot_heap w.params).objs.size, (boot_heap w.params).nsMap mainGlobals "__annotations__") = (true, 11, ann0) := by kernel_rfl
theorem left : LeftO pw view_39 loose (fun s => xlAt view_39 [] s && recOk [] s) (Hook.obs HK) (Hook.val HK) 3415 :=
  left_of_run (R := fun w os => (sZ w os).abs) op1 rfl op2 op3 tRun l1 l2 l3
/-! the law's def -/
theorem law_some : (defOf view_39 (Str.ofString "law")).isSome = true := by kernel_rfl
noncomputable def lawD : DefRec × List (Str × Expr) := (defOf view_39 (Str.ofString "law")).get law_some
theorem lawD_eq : defOf view_39 (Str.ofString "law") = some (lawD.1, lawD.2) := (Option.some_get law_some).symm
end Mine.hd
theorem Mine.hd (call : WalkO Mine.hd.view_39 Mine.hd.loose (XL Mine.hd.view_39 []) (kmHook Mine.hd.heap_39 Mine.hd.ads (fun _ => by kernel_rfl) [82, 68]).says PySem.Challenge.rw_ot0032_01.row.toRowW Mine.hd.lawD.1 Mine.hd.lawD.2 fun f vs => PySem.call f vs) : PySem.Challenge.rw_ot0032_01.Holds := by
  refine holds_law (by kernel_rfl) fun said => ?_
  exact holds_open (q := Mine.hd.view_39) (loose := Mine.hd.loose) (Xt := fun s => xlAt Mine.hd.view_39 [] s && recOk [] s) (XP := XL Mine.hd.view_39 []) (Yf := Hook.obs Mine.hd.HK) (Ya := Hook.val Mine.hd.HK) (YP := Hook.says Mine.hd.HK) (N := 3415) Mine.hd.left (Hook.of Mine.hd.HK) (Hook.keeps Mine.hd.HK) (fun s e => xl_of s (Bool.and_eq_true_iff.mp e).1) XL.keeps
    Mine.hd.lawD_eq (by kernel_rfl) (by kernel_rfl) (fun s e => recFacts_of (Bool.and_eq_true_iff.mp e).2) (by rfl) said (by kernel_rfl) ⟨rfl, rfl, rfl, rfl, rfl, by kernel_rfl⟩ (by w_witness2) call
example : (PySem.Challenge.rw_ot0032_01 = PySem.Challenge.rw_ot0032_01) ∧ (Mine.hd.heap_39 = Mine.hd.heap_39) := by k_fill; exact ⟨rfl, rfl⟩
namespace Mine
section

/-- what a value says, read whole -/
inductive V where
  | none | bool (b : Bool) | int (i : Int) | str (s : Str)
  | tup (vs : List V) | lst (vs : List V)
  | dct (es : List (Str × V))
  | inst (C : Addr) (fs : List (Str × V))
  | obj (x C dx : Addr)
  | clo (fd : FuncData) (cs : List (Str × V))
  | raw (v : Value)
  deriving Inhabited

/-- the frozen part of the heap -/
noncomputable abbrev G := Addr → Option Obj
noncomputable def GLe (g g' : G) : Prop := ∀ a o, g a = some o → g' a = some o
theorem GLe.refl {g : G} : GLe g g := fun _ _ e => e
theorem GLe.trans {a b c : G} (x : GLe a b) (y : GLe b c) : GLe a c := fun _ _ e => y _ _ (x _ _ e)
noncomputable abbrev hG (h : Heap) : G := fun a => h.get? a

noncomputable def CodeG (g : G) (cd : Value) (q : Str) : Prop := ∃ c o vs t, cd = .ref c ∧ g c = some o ∧ o.data = .fields vs ∧ vs[1]? = some (.str q t)
theorem CodeG.mono {g g' : G} {cd q} (x : CodeG g cd q) (k : GLe g g') : CodeG g' cd q :=
  let ⟨c, o, vs, t, e, h1, r⟩ := x; ⟨c, o, vs, t, e, k _ _ h1, r⟩

mutual
inductive Rep (P : Params) (g : G) : Value → V → Prop
  | none : Rep P g .none .none
  | bool (b : Bool) : Rep P g (.bool b) (.bool b)
  | int (i : Int) (t : Tok) : Rep P g (.int i t) (.int i)
  | str (s : Str) (t : Tok) : Rep P g (.str s t) (.str s)
  | raw (v : Value) : Rep P g v (.raw v)
  | tup {a : Addr} {o : Obj} {vs : List Value} {n : Nat} {Vs : List V} : g a = some o → o.cls = .type "tuple" → o.data = .seq vs.toArray n → Reps P g vs Vs → Rep P g (.ref a) (.tup Vs)
  | lst {a : Addr} {o : Obj} {vs : List Value} {n : Nat} {Vs : List V} : g a = some o → o.cls = .type "list" → o.data = .seq vs.toArray n → o.dict = none → Reps P g vs Vs → Rep P g (.ref a) (.lst Vs)
  | dct {a : Addr} {es : List DictEntry} {n : Nat} {Es : List (Str × V)} : g a = some (dictOf es n) → (a == sysModules) = false → RepD P g es Es → Rep P g (.ref a) (.dct Es)
  | inst {x dx C : Addr} {es : List DictEntry} {n : Nat} {Es : List (Str × V)} : g x = some (instObj C dx) → g dx = some (dictOf es n) → RepD P g es Es → Rep P g (.ref x) (.inst C Es)
  | obj {x C dx : Addr} : g x = some (instObj C dx) → Rep P g (.ref x) (.obj x C dx)
  | clo {a : Addr} {o : Obj} {fd : FuncData} {cs : List (Str × V)} : g a = some o → o.data = .func fd → CodeG g fd.code fd.qualname → RepC P g fd.closure cs → Rep P g (.ref a) (.clo fd cs)
inductive Reps (P : Params) (g : G) : List Value → List V → Prop
  | nil : Reps P g [] []
  | cons {v : Value} {x : V} {vs : List Value} {xs : List V} : Rep P g v x → Reps P g vs xs → Reps P g (v :: vs) (x :: xs)
inductive RepD (P : Params) (g : G) : List DictEntry → List (Str × V) → Prop
  | nil : RepD P g [] []
  | cons {x : Str} {t : Tok} {v : Value} {y : V} {es : List DictEntry} {ys : List (Str × V)} : Rep P g v y → RepD P g es ys → RepD P g (⟨PyData.keyHash P x, .str x t, v⟩ :: es) ((x, y) :: ys)
inductive RepC (P : Params) (g : G) : List (Str × Addr) → List (Str × V) → Prop
  | nil : RepC P g [] []
  | cons {x : Str} {c : Addr} {o : Obj} {v : Value} {y : V} {cl : List (Str × Addr)} {ys : List (Str × V)} : g c = some o → o.data = .cell (some v) → Rep P g v y → RepC P g cl ys → RepC P g ((x, c) :: cl) ((x, y) :: ys)
end

section
variable {P : Params} {g g' : G}
theorem Rep.ind {p1 : Value → V → Prop} {p2 : List Value → List V → Prop} {p3 : List DictEntry → List (Str × V) → Prop} {p4 : List (Str × Addr) → List (Str × V) → Prop}
    (none : p1 .none .none) (bool : ∀ b, p1 (.bool b) (.bool b)) (int : ∀ i t, p1 (.int i t) (.int i)) (str : ∀ s t, p1 (.str s t) (.str s)) (raw : ∀ v, p1 v (.raw v))
    (tup : ∀ {a : Addr} {o : Obj} {vs : List Value} {n : Nat} {Vs : List V}, g a = some o → o.cls = .type "tuple" → o.data = .seq vs.toArray n → p2 vs Vs → p1 (.ref a) (.tup Vs))
    (lst : ∀ {a : Addr} {o : Obj} {vs : List Value} {n : Nat} {Vs : List V}, g a = some o → o.cls = .type "list" → o.data = .seq vs.toArray n → o.dict = Option.none → p2 vs Vs → p1 (.ref a) (.lst Vs))
    (dct : ∀ {a : Addr} {es : List DictEntry} {n : Nat} {Es : List (Str × V)}, g a = some (dictOf es n) → (a == sysModules) = false → p3 es Es → p1 (.ref a) (.dct Es))
    (inst : ∀ {x dx C : Addr} {es : List DictEntry} {n : Nat} {Es : List (Str × V)}, g x = some (instObj C dx) → g dx = some (dictOf es n) → p3 es Es → p1 (.ref x) (.inst C Es))
    (obj : ∀ {x C dx : Addr}, g x = some (instObj C dx) → p1 (.ref x) (.obj x C dx))
    (clo : ∀ {a : Addr} {o : Obj} {fd : FuncData} {cs : List (Str × V)}, g a = some o → o.data = .func fd → CodeG g fd.code fd.qualname → p4 fd.closure cs → p1 (.ref a) (.clo fd cs))
    (nil2 : p2 [] []) (cons2 : ∀ {v x vs xs}, Rep P g v x → p1 v x → p2 vs xs → p2 (v :: vs) (x :: xs))
    (nil3 : p3 [] []) (cons3 : ∀ {x : Str} {t : Tok} {v : Value} {y : V} {es ys}, Rep P g v y → p1 v y → p3 es ys → p3 (⟨PyData.keyHash P x, .str x t, v⟩ :: es) ((x, y) :: ys))
    (nil4 : p4 [] []) (cons4 : ∀ {x : Str} {c : Addr} {o : Obj} {v : Value} {y : V} {cl ys}, g c = some o → o.data = .cell (some v) → p1 v y → p4 cl ys → p4 ((x, c) :: cl) ((x, y) :: ys)) :
    (∀ {v x}, Rep P g v x → p1 v x) ∧ (∀ {v x}, Reps P g v x → p2 v x) ∧ (∀ {v x}, RepD P g v x → p3 v x) ∧ (∀ {v x}, RepC P g v x → p4 v x) :=
  ⟨Rep.rec (motive_1 := fun v x _ => p1 v x) (motive_2 := fun v x _ => p2 v x) (motive_3 := fun v x _ => p3 v x) (motive_4 := fun v x _ => p4 v x) none bool int str raw (fun a b c _ d => tup a b c d) (fun a b c e _ d => lst a b c e d) (fun a b _ c => dct a b c) (fun a b _ c => inst a b c) obj (fun a b c _ d => clo a b c d) nil2 (fun r _ a b => cons2 r a b) nil3 (fun r _ a b => cons3 r a b) nil4 (fun a b _ _ c d => cons4 a b c d),
   Reps.rec (motive_1 := fun v x _ => p1 v x) (motive_2 := fun v x _ => p2 v x) (motive_3 := fun v x _ => p3 v x) (motive_4 := fun v x _ => p4 v x) none bool int str raw (fun a b c _ d => tup a b c d) (fun a b c e _ d => lst a b c e d) (fun a b _ c => dct a b c) (fun a b _ c => inst a b c) obj (fun a b c _ d => clo a b c d) nil2 (fun r _ a b => cons2 r a b) nil3 (fun r _ a b => cons3 r a b) nil4 (fun a b _ _ c d => cons4 a b c d),
   RepD.rec (motive_1 := fun v x _ => p1 v x) (motive_2 := fun v x _ => p2 v x) (motive_3 := fun v x _ => p3 v x) (motive_4 := fun v x _ => p4 v x) none bool int str raw (fun a b c _ d => tup a b c d) (fun a b c e _ d => lst a b c e d) (fun a b _ c => dct a b c) (fun a b _ c => inst a b c) obj (fun a b c _ d => clo a b c d) nil2 (fun r _ a b => cons2 r a b) nil3 (fun r _ a b => cons3 r a b) nil4 (fun a b _ _ c d => cons4 a b c d),
   RepC.rec (motive_1 := fun v x _ => p1 v x) (motive_2 := fun v x _ => p2 v x) (motive_3 := fun v x _ => p3 v x) (motive_4 := fun v x _ => p4 v x) none bool int str raw (fun a b c _ d => tup a b c d) (fun a b c e _ d => lst a b c e d) (fun a b _ c => dct a b c) (fun a b _ c => inst a b c) obj (fun a b c _ d => clo a b c d) nil2 (fun r _ a b => cons2 r a b) nil3 (fun r _ a b => cons3 r a b) nil4 (fun a b _ _ c d => cons4 a b c d)⟩
theorem Rep.monoAll (k : GLe g g') : (∀ {v x}, Rep P g v x → Rep P g' v x) ∧ (∀ {v x}, Reps P g v x → Reps P g' v x) ∧ (∀ {v x}, RepD P g v x → RepD P g' v x) ∧ (∀ {v x}, RepC P g v x → RepC P g' v x) :=
  Rep.ind .none .bool .int .str .raw (fun a b c d => .tup (k _ _ a) b c d) (fun a b c e d => .lst (k _ _ a) b c e d) (fun a z d => .dct (k _ _ a) z d) (fun a b d => .inst (k _ _ a) (k _ _ b) d) (fun a => .obj (k _ _ a)) (fun a b c d => .clo (k _ _ a) b (c.mono k) d)
    .nil (fun _ a b => .cons a b) .nil (fun _ a b => .cons a b) .nil (fun a b c d => .cons (k _ _ a) b c d)
theorem Rep.mono (k : GLe g g') {v x} (h : Rep P g v x) : Rep P g' v x := (Rep.monoAll k).1 h
theorem Reps.mono (k : GLe g g') {v x} (h : Reps P g v x) : Reps P g' v x := (Rep.monoAll k).2.1 h
theorem RepD.mono (k : GLe g g') {v x} (h : RepD P g v x) : RepD P g' v x := (Rep.monoAll k).2.2.1 h
theorem Reps.ind {p : List Value → List V → Prop} (nil : p [] []) (cons : ∀ {v x vs xs}, Rep P g v x → p vs xs → p (v :: vs) (x :: xs)) {vs xs} (h : Reps P g vs xs) : p vs xs :=
  (Rep.ind (p1 := fun _ _ => True) (p2 := p) (p3 := fun _ _ => True) (p4 := fun _ _ => True) trivial (fun _ => trivial) (fun _ _ => trivial) (fun _ _ => trivial) (fun _ => trivial) (fun _ _ _ _ => trivial) (fun _ _ _ _ _ => trivial) (fun _ _ _ => trivial) (fun _ _ _ => trivial) (fun _ => trivial) (fun _ _ _ _ => trivial)
    nil (fun r _ b => cons r b) trivial (fun _ _ _ => trivial) trivial (fun _ _ _ _ => trivial)).2.1 h
theorem RepD.ind {p : List DictEntry → List (Str × V) → Prop} (nil : p [] []) (cons : ∀ {x : Str} {t : Tok} {v : Value} {y : V} {es ys}, Rep P g v y → p es ys → p (⟨PyData.keyHash P x, .str x t, v⟩ :: es) ((x, y) :: ys)) {vs xs} (h : RepD P g vs xs) : p vs xs :=
  (Rep.ind (p1 := fun _ _ => True) (p2 := fun _ _ => True) (p3 := p) (p4 := fun _ _ => True) trivial (fun _ => trivial) (fun _ _ => trivial) (fun _ _ => trivial) (fun _ => trivial) (fun _ _ _ _ => trivial) (fun _ _ _ _ _ => trivial) (fun _ _ _ => trivial) (fun _ _ _ => trivial) (fun _ => trivial) (fun _ _ _ _ => trivial)
    trivial (fun _ _ _ => trivial) nil (fun r _ b => cons r b) trivial (fun _ _ _ _ => trivial)).2.2.1 h
section
variable {C : Value → Prop} {v : Value}
noncomputable def RepE (P : Params) (g : G) (C : Value → Prop) (v : Value) (y : V) : Prop := match y with
  | .none => (C .none) → C v
  | .bool b => (C (.bool b)) → C v
  | .int i => (∀ t, C (.int i t)) → C v
  | .str s => (∀ t, C (.str s t)) → C v
  | .raw u => (C u) → C v
  | .tup Vs => (∀ {a : Addr} {o : Obj} {vs : List Value} {n : Nat}, g a = some o → o.cls = .type "tuple" → o.data = .seq vs.toArray n → Reps P g vs Vs → C (.ref a)) → C v
  | .lst Vs => (∀ {a : Addr} {o : Obj} {vs : List Value} {n : Nat}, g a = some o → o.cls = .type "list" → o.data = .seq vs.toArray n → o.dict = Option.none → Reps P g vs Vs → C (.ref a)) → C v
  | .dct Es => (∀ {a : Addr} {es : List DictEntry} {n : Nat}, g a = some (dictOf es n) → (a == sysModules) = false → RepD P g es Es → C (.ref a)) → C v
  | .inst c Es => (∀ {x dx : Addr} {es : List DictEntry} {n : Nat}, g x = some (instObj c dx) → g dx = some (dictOf es n) → RepD P g es Es → C (.ref x)) → C v
  | .obj x c dx => (g x = some (instObj c dx) → C (.ref x)) → C v
  | .clo fd cs => (∀ {a : Addr} {o : Obj}, g a = some o → o.data = .func fd → CodeG g fd.code fd.qualname → RepC P g fd.closure cs → C (.ref a)) → C v
theorem Rep.elim {y : V} (h : Rep P g v y) : RepE P g C v y := by
  cases h with
  | none => exact fun k => k
  | bool b => exact fun k => k
  | int i t => exact fun k => k _
  | str s t => exact fun k => k _
  | raw v => exact fun k => k
  | tup e1 e2 e3 e4 => exact fun k => k e1 e2 e3 e4
  | lst e1 e2 e3 e4 e5 => exact fun k => k e1 e2 e3 e4 e5
  | dct e1 e2 e3 => exact fun k => k e1 e2 e3
  | inst e1 e2 e3 => exact fun k => k e1 e2 e3
  | obj e1 => exact fun k => k e1
  | clo e1 e2 e3 e4 => exact fun k => k e1 e2 e3 e4
theorem Rep.none_elim (h : Rep P g v .none) (k : C .none) : C v := Rep.elim (C := C) h k
theorem Rep.bool_elim {b : Bool} (h : Rep P g v (.bool b)) (k : C (.bool b)) : C v := Rep.elim (C := C) h k
theorem Rep.int_elim {i : Int} (h : Rep P g v (.int i)) (k : ∀ t, C (.int i t)) : C v := Rep.elim (C := C) h k
theorem Rep.str_elim {s : Str} (h : Rep P g v (.str s)) (k : ∀ t, C (.str s t)) : C v := Rep.elim (C := C) h k
theorem Rep.raw_elim {u : Value} (h : Rep P g v (.raw u)) (k : C u) : C v := Rep.elim (C := C) h k
theorem Rep.tup_elim {Vs : List V} (h : Rep P g v (.tup Vs)) (k : ∀ {a : Addr} {o : Obj} {vs : List Value} {n : Nat}, g a = some o → o.cls = .type "tuple" → o.data = .seq vs.toArray n → Reps P g vs Vs → C (.ref a)) : C v := Rep.elim (C := C) h k
theorem Rep.lst_elim {Vs : List V} (h : Rep P g v (.lst Vs)) (k : ∀ {a : Addr} {o : Obj} {vs : List Value} {n : Nat}, g a = some o → o.cls = .type "list" → o.data = .seq vs.toArray n → o.dict = Option.none → Reps P g vs Vs → C (.ref a)) : C v := Rep.elim (C := C) h k
theorem Rep.dct_elim {Es : List (Str × V)} (h : Rep P g v (.dct Es)) (k : ∀ {a : Addr} {es : List DictEntry} {n : Nat}, g a = some (dictOf es n) → (a == sysModules) = false → RepD P g es Es → C (.ref a)) : C v := Rep.elim (C := C) h k
theorem Rep.inst_elim {c : Addr} {Es : List (Str × V)} (h : Rep P g v (.inst c Es)) (k : ∀ {x dx : Addr} {es : List DictEntry} {n : Nat}, g x = some (instObj c dx) → g dx = some (dictOf es n) → RepD P g es Es → C (.ref x)) : C v := Rep.elim (C := C) h k
theorem Rep.obj_elim {x c dx : Addr} (h : Rep P g v (.obj x c dx)) (k : g x = some (instObj c dx) → C (.ref x)) : C v := Rep.elim (C := C) h k
theorem Rep.clo_elim {fd : FuncData} {cs : List (Str × V)} (h : Rep P g v (.clo fd cs)) (k : ∀ {a : Addr} {o : Obj}, g a = some o → o.data = .func fd → CodeG g fd.code fd.qualname → RepC P g fd.closure cs → C (.ref a)) : C v := Rep.elim (C := C) h k
end
noncomputable def RepsE (P : Params) (g : G) (C : List Value → Prop) (vs : List Value) (ys : List V) : Prop := match ys with
  | [] => C [] → C vs
  | x :: xs => (∀ {v : Value} {vs : List Value}, Rep P g v x → Reps P g vs xs → C (v :: vs)) → C vs
theorem Reps.elim {C : List Value → Prop} {vs : List Value} {ys : List V} (h : Reps P g vs ys) : RepsE P g C vs ys := by
  cases h with
  | nil => exact fun k => k
  | cons r rs => exact fun k => k r rs
theorem Reps.nil_elim {C : List Value → Prop} {vs : List Value} (h : Reps P g vs []) (k : C []) : C vs := Reps.elim (C := C) h k
theorem Reps.cons_elim {C : List Value → Prop} {vs : List Value} {x : V} {xs : List V} (h : Reps P g vs (x :: xs)) (k : ∀ {v : Value} {vs : List Value}, Rep P g v x → Reps P g vs xs → C (v :: vs)) : C vs := Reps.elim (C := C) h k
theorem Reps.length {vs Vs} (h : Reps P g vs Vs) : vs.length = Vs.length := Reps.ind (p := fun vs Vs => vs.length = Vs.length) rfl (fun _ b => congrArg (· + 1) b) h
theorem Reps.get {vs : List Value} {Vs : List V} (h : Reps P g vs Vs) : ∀ {i : Nat} {x : V}, Vs[i]? = some x → ∃ v, vs[i]? = some v ∧ Rep P g v x :=
  Reps.ind (p := fun vs Vs => ∀ {i : Nat} {x : V}, Vs[i]? = some x → ∃ v, vs[i]? = some v ∧ Rep P g v x) (fun e => nomatch e) (fun a b i x e => by
    cases i with
    | zero => cases e; exact ⟨_, rfl, a⟩
    | succ i => exact b (i := i) e) h
theorem Reps.append {vs Vs} (h : Reps P g vs Vs) {ws Ws} (k : Reps P g ws Ws) : Reps P g (vs ++ ws) (Vs ++ Ws) := Reps.ind (p := fun vs Vs => Reps P g (vs ++ ws) (Vs ++ Ws)) k (fun a b => .cons a b) h
theorem Reps.set {vs Vs} (h : Reps P g vs Vs) {v x} (r : Rep P g v x) : ∀ i, Reps P g (vs.set i v) (Vs.set i x) :=
  (Reps.ind (p := fun vs Vs => Reps P g vs Vs ∧ ∀ i, Reps P g (vs.set i v) (Vs.set i x)) ⟨.nil, fun _ => .nil⟩ (fun a b => ⟨.cons a b.1, fun i => Nat.casesOn i (.cons r b.1) fun i => .cons a (b.2 i)⟩) h).2
theorem Reps.drop {vs Vs} (h : Reps P g vs Vs) : ∀ i, Reps P g (vs.drop i) (Vs.drop i) :=
  (Reps.ind (p := fun vs Vs => Reps P g vs Vs ∧ ∀ i, Reps P g (vs.drop i) (Vs.drop i)) ⟨.nil, fun i => Nat.casesOn i .nil fun _ => .nil⟩ (fun a b => ⟨.cons a b.1, fun i => Nat.casesOn i (.cons a b.1) fun i => b.2 i⟩) h).2
theorem Reps.take {vs Vs} (h : Reps P g vs Vs) : ∀ i, Reps P g (vs.take i) (Vs.take i) :=
  Reps.ind (p := fun vs Vs => ∀ i, Reps P g (vs.take i) (Vs.take i)) (fun i => Nat.casesOn i .nil fun _ => .nil) (fun a b i => Nat.casesOn i .nil fun i => .cons a (b i)) h
theorem Reps.one {v x} (h : Rep P g v x) : Reps P g [v] [x] := .cons h .nil
end

/-- a mutable object's content -/
inductive M where
  | lst (vs : List V)
  | dct (es : List (Str × V))
  | tab (q : Str) (l k : Nat)
noncomputable abbrev Mem := List (Addr × M)
inductive MRep (P : Params) (g : G) : Obj → M → Prop
  | lst {o : Obj} {vs : List Value} {n : Nat} {Vs : List V} : o.cls = .type "list" → o.data = .seq vs.toArray n → o.isFreed = false → o.dict = none → o.slots = #[] → Reps P g vs Vs → MRep P g o (.lst Vs)
  | dct {es : List DictEntry} {n : Nat} {Es : List (Str × V)} : RepD P g es Es → MRep P g (dictOf es n) (.dct Es)
  | tab {ps : List Value} {q : Str} {l k : Nat} : (ps = [] ∨ ∃ c', ps = [rawInt l, rawInt k, .ref c'] ∧ CodeG g (.ref c') q) → MRep P g (tabObj ps.toArray) (.tab q l k)
noncomputable def MRepE (P : Params) (g : G) (C : Obj → Prop) (o : Obj) (m : M) : Prop := match m with
  | .lst Vs => (∀ {vs : List Value} {n : Nat}, o.cls = .type "list" → o.data = .seq vs.toArray n → o.isFreed = false → o.dict = none → o.slots = #[] → Reps P g vs Vs → C o) → C o
  | .dct Es => (∀ {es : List DictEntry} {n : Nat}, RepD P g es Es → C (dictOf es n)) → C o
  | .tab _ _ _ => True
theorem MRep.elim {P : Params} {g : G} {C : Obj → Prop} {o : Obj} {m : M} (h : MRep P g o m) : MRepE P g C o m := by
  cases h with
  | lst a b c d e f => exact fun k => k a b c d e f
  | dct a => exact fun k => k a
  | tab _ => trivial
theorem MRep.lst_elim {P : Params} {g : G} {C : Obj → Prop} {o : Obj} {Vs : List V} (h : MRep P g o (.lst Vs)) (k : ∀ {vs : List Value} {n : Nat}, o.cls = .type "list" → o.data = .seq vs.toArray n → o.isFreed = false → o.dict = none → o.slots = #[] → Reps P g vs Vs → C o) : C o := MRep.elim (C := C) h k
theorem MRep.dct_elim {P : Params} {g : G} {C : Obj → Prop} {o : Obj} {Es : List (Str × V)} (h : MRep P g o (.dct Es)) (k : ∀ {es : List DictEntry} {n : Nat}, RepD P g es Es → C (dictOf es n)) : C o := MRep.elim (C := C) h k
theorem MRep.mono {P : Params} {g g' : G} (k : GLe g g') {o m} : MRep P g o m → MRep P g' o m
  | .lst a b c d e f => .lst a b c d e (f.mono k)
  | .dct a => .dct (a.mono k)
  | .tab h => .tab (h.imp id fun ⟨c', e, r⟩ => ⟨c', e, r.mono k⟩)

noncomputable abbrev addrs (μ : Mem) : List Addr := μ.map (·.1)

structure Wd where
  w : World
  B : Heap
  p : Program
  loose : List Str
  mg : Str → Option Value
  mb : Str → Option Value
  X : (Mine.hd.heap_39 w.params).In B
  T : TopRead p loose mg mb B
  bm : ∃ bm ob, mg "__builtins__" = some (.ref bm) ∧ bm ≠ builtinsNs ∧ B.get? bm = some ob ∧ ob.cls = .type "module" ∧ ob.dict = some builtinsNs ∧ ob.data = .plain

noncomputable abbrev Wd.K (W : Wd) : Frag := Mine.hd.heap_39 W.w.params
noncomputable abbrev Wd.prog (_ : Wd) : Program := PySem.Challenge.rw_ot0032_01.row.prog
noncomputable abbrev Wd.M (W : Wd) : Model := model W.prog W.w
noncomputable abbrev Wd.P (W : Wd) : Params := W.w.params

/-- the state as a call sees it -/
structure GSt (W : Wd) (g : G) (μ : Mem) (h : Heap) : Prop where
  base : GLe (hG W.B) g
  le : GLe g (hG h)
  mem : ∀ q ∈ μ, ∃ o, h.get? q.1 = some o ∧ MRep W.P g o q.2
  off : ∀ a ∈ addrs μ, g a = none
  nd : (addrs μ).Nodup

structure Fm where
  env : Env
  priv : List Str
  fz : List Str
noncomputable abbrev Loc := List (Str × V)
noncomputable def Fm.own (F : Fm) : List Addr := F.env.locals :: F.priv.filterMap fun x => F.env.cells.lookup x

noncomputable def isCellKind (k : Option NameKind) : Bool := k == some .cell || k == some .free

structure FSt (W : Wd) (g : G) (F : Fm) (ρ : Loc) (μ : Mem) (h : Heap) : Prop where
  fn : F.env.scope.kind = .function
  gl : F.env.globals = mainGlobals
  bt : F.env.builtins = builtinsNs
  loc : ∃ m, h.Ns F.env.locals m ∧ ∀ x y, ρ.lookup x = some y → F.env.kindOf x = some .local → ∃ v, m x = some v ∧ Rep W.P g v y
  cel : ∀ x y, ρ.lookup x = some y → isCellKind (F.env.kindOf x) = true → ∃ c o v, F.env.cells.lookup x = some c ∧ h.get? c = some o ∧ o.data = .cell (some v) ∧ Rep W.P g v y
  cin : ∀ x c, F.env.cells.lookup x = some c → (∃ o u, h.get? c = some o ∧ o.data = .cell u) ∧ c ∉ addrs μ ∧ c ≠ F.env.locals
  own : ∀ a ∈ F.own, g a = none ∧ a ∉ addrs μ
  fz : ∀ x ∈ F.fz, ∃ c o v y, ρ.lookup x = some y ∧ F.env.cells.lookup x = some c ∧ g c = some o ∧ o.data = .cell (some v) ∧ Rep W.P g v y
  inj : ∀ x y c, F.env.cells.lookup x = some c → F.env.cells.lookup y = some c → x = y
  fzk : ∀ x ∈ F.fz, isCellKind (F.env.kindOf x) = true

/-- from one state to a later one: what may have turned -/
structure Nx (T : List Addr) (g : G) (μ : Mem) (h : Heap) (g' : G) (μ' : Mem) (h' : Heap) : Prop where
  gle : GLe g g'
  gfr : ∀ a o, g' a = some o → g a = some o ∨ a ∈ addrs μ ∨ a ∈ T ∨ h.get? a = none
  mfr : ∀ a ∈ addrs μ', a ∈ addrs μ ∨ a ∈ T ∨ h.get? a = none
  step : ∀ a o, a ∉ addrs μ → a ∉ T → h.get? a = some o → h'.get? a = some o
  alive : ∀ a o, a ∉ T → h.get? a = some o → ∃ o', h'.get? a = some o'

theorem Nx.refl {T g μ h} : Nx T g μ h g μ h := ⟨GLe.refl, fun _ _ e => .inl e, fun _ e => .inl e, fun _ _ _ _ e => e, fun _ o _ e => ⟨o, e⟩⟩
theorem Nx.trans {T g μ h g₁ μ₁ h₁ g₂ μ₂ h₂} (x : Nx T g μ h g₁ μ₁ h₁) (y : Nx T g₁ μ₁ h₁ g₂ μ₂ h₂) : Nx T g μ h g₂ μ₂ h₂ := by
  have old : ∀ a, h₁.get? a = none → a ∈ addrs μ ∨ a ∈ T ∨ h.get? a = none := fun a e => by
    by_cases h1 : a ∈ addrs μ
    · exact .inl h1
    · by_cases h2 : a ∈ T
      · exact .inr (.inl h2)
      · refine .inr (.inr ?_)
        cases q : h.get? a with
        | none => rfl
        | some o => rw [x.step a o h1 h2 q] at e; cases e
  have mold : ∀ a, a ∈ addrs μ₁ → a ∈ addrs μ ∨ a ∈ T ∨ h.get? a = none := x.mfr
  refine ⟨x.gle.trans y.gle, fun a o e => ?_, fun a ha => ?_, fun a o h1 h2 e => ?_, fun a o h2 e => let ⟨o', e'⟩ := x.alive a o h2 e; y.alive a o' h2 e'⟩
  · rcases y.gfr a o e with q | q | q | q
    · exact x.gfr a o q
    · exact .inr (mold a q)
    · exact .inr (.inr (.inl q))
    · exact .inr (old a q)
  · rcases y.mfr a ha with q | q | q
    · exact mold a q
    · exact .inr (.inl q)
    · exact old a q
  · have e1 := x.step a o h1 h2 e
    refine y.step a o (fun q => ?_) h2 e1
    rcases mold a q with r | r | r
    · exact h1 r
    · exact h2 r
    · rw [e] at r; cases r

structure Room (n : Nat) (A : Around) : Prop where
  handled : A.handled = none
  depth : A.depth + n ≤ 900
  units : A.units + 8 * n ≤ 9000


theorem Room.weak {n m : Nat} {A : Around} (x : Room n A) (h : m ≤ n := by lia) : Room m A := ⟨x.handled, by have := x.depth; lia, by have := x.units; lia⟩
theorem Room.deeper {n : Nat} {A : Around} {env : Env} (x : Room (n + 1) A) : Room n (A.deeper env) :=
  ⟨x.handled, by have := x.depth; show A.depth + 1 + n ≤ 900; lia, by have := x.units; show A.units + 3 + 8 * n ≤ 9000; lia⟩

section
variable {α β : Type}
/-- the triple of a call: no frame in sight -/
noncomputable def TrG (W : Wd) (n : Nat) (pre : G → Prop) (μ : Mem) (t : Sem α) (R : G → α → Mem → Prop) : Prop :=
  ∀ (A : Around) (g : G) (s : Shared), Room n A → GSt W g μ s.heap → pre g → ∀ Q : α → Shared → Prop,
    (∀ a g' μ' h' tk', R g' a μ' → GSt W g' μ' h' → Nx [] g μ s.heap g' μ' h' → Q a { s with heap := h', toks := tk' }) → wpAny W.M A t Q (fun _ _ => False) s
/-- the triple of an expression: the frame stays as it is -/
noncomputable def TrE (W : Wd) (n : Nat) (F : Fm) (ρ : Loc) (μ : Mem) (t : Sem α) (R : G → α → Mem → Prop) : Prop :=
  ∀ (A : Around) (g : G) (s : Shared), Room n A → GSt W g μ s.heap → FSt W g F ρ μ s.heap → ∀ Q : α → Shared → Prop,
    (∀ a g' μ' h' tk', R g' a μ' → GSt W g' μ' h' → Nx [] g μ s.heap g' μ' h' → Q a { s with heap := h', toks := tk' }) → wpAny W.M A t Q (fun _ _ => False) s
end

noncomputable def VK (W : Wd) (K : V → Mem → Prop) : G → Value → Mem → Prop := fun g v μ => ∃ y, Rep W.P g v y ∧ K y μ
noncomputable def VsK (W : Wd) (K : List V → Mem → Prop) : G → List Value → Mem → Prop := fun g vs μ => ∃ ys, Reps W.P g vs ys ∧ K ys μ

structure wpE (W : Wd) (n : Nat) (F : Fm) (ρ : Loc) (μ : Mem) (e : Expr) (K : V → Mem → Prop) : Prop where
  go : TrE W n F ρ μ (eval e F.env) (VK W K)
structure wpEs (W : Wd) (n : Nat) (F : Fm) (ρ : Loc) (μ : Mem) (pos : Pos) (es : List Expr) (K : List V → Mem → Prop) : Prop where
  go : TrE W n F ρ μ (spliced (backTo pos (starEach es F.env))) (VsK W fun ys μ' => ys.length = es.length ∧ K ys μ')
structure wpB (W : Wd) (n : Nat) (F : Fm) (ρ : Loc) (μ : Mem) (e : Expr) (K : Bool → Mem → Prop) : Prop where
  go : TrE W n F ρ μ (isTrue e F.env (eval e F.env)) (fun _ b μ' => K b μ')

inductive Out where
  | ret (y : V) | next (ρ : Loc) | brk (ρ : Loc) | cont (ρ : Loc)
noncomputable def FlowRep (W : Wd) (g : G) (F : Fm) (μ : Mem) (h : Heap) (f : Flow) : Out → Prop
  | .ret y => ∃ v, f = .ret v ∧ Rep W.P g v y
  | .next ρ => f = .next ∧ FSt W g F ρ μ h
  | .brk ρ => f = .brk ∧ FSt W g F ρ μ h
  | .cont ρ => f = .cont ∧ FSt W g F ρ μ h
/-- the triple of statements -/
noncomputable def TrS (W : Wd) (n : Nat) (F : Fm) (ρ : Loc) (μ : Mem) (t : Sem Flow) (K : Out → Mem → Prop) : Prop :=
  ∀ (A : Around) (g : G) (s : Shared), Room n A → GSt W g μ s.heap → FSt W g F ρ μ s.heap → ∀ Q : Flow → Shared → Prop,
    (∀ f o g' μ' h' tk', K o μ' → FlowRep W g' F μ' h' f o → GSt W g' μ' h' → Nx F.own g μ s.heap g' μ' h' → Q f { s with heap := h', toks := tk' }) → wpAny W.M A t Q (fun _ _ => False) s
structure wpS (W : Wd) (n : Nat) (F : Fm) (ρ : Loc) (μ : Mem) (ss : List Stmt) (K : Out → Mem → Prop) : Prop where
  go : TrS W n F ρ μ (execs ss F.env) K
structure wpX (W : Wd) (n : Nat) (F : Fm) (ρ : Loc) (μ : Mem) (st : Stmt) (K : Out → Mem → Prop) : Prop where
  go : TrS W n F ρ μ (exec st F.env) K
/-- the call of a value -/
structure wpF (W : Wd) (n : Nat) (f : V) (xs : List V) (μ : Mem) (K : V → Mem → Prop) : Prop where
  go : ∀ fv vs, TrG W n (fun g => Rep W.P g fv f ∧ Reps W.P g vs xs) μ (call fv vs []) (VK W K)

section
variable {W : Wd}
theorem GSt.fresh {g μ h} (x : GSt W g μ h) {a : Addr} (e : h.get? a = none) : g a = none ∧ a ∉ addrs μ := by
  constructor
  · cases q : g a with
    | none => rfl
    | some o => have := x.le _ _ q; rw [show hG h a = h.get? a from rfl, e] at this; cases this
  · intro hm
    obtain ⟨q, hq, rfl⟩ := List.mem_map.mp hm
    obtain ⟨o, ho, _⟩ := x.mem q hq
    rw [e] at ho; cases ho
theorem get_size (h : Heap) : h.get? h.objs.size = none := by
  cases e : h.get? h.objs.size with
  | none => rfl
  | some o => exact absurd (Heap.lt_size e) (Nat.lt_irrefl _)

theorem Nx.weakT {T T' g μ h g' μ' h'} (x : Nx T g μ h g' μ' h') (k : ∀ a ∈ T, a ∈ T') : Nx T' g μ h g' μ' h' :=
  ⟨x.gle, fun a o e => (x.gfr a o e).imp id (Or.imp id (Or.imp (k a) id)), fun a e => (x.mfr a e).imp id (Or.imp (k a) id), fun a o h1 h2 e => x.step a o h1 (fun q => h2 (k a q)) e, fun a o h2 e => x.alive a o (fun q => h2 (k a q)) e⟩
theorem Nx.weak0 {T g μ h g' μ' h'} (x : Nx [] g μ h g' μ' h') : Nx T g μ h g' μ' h' := x.weakT fun _ h => nomatch h

/-- a frame outlives what leaves it alone -/
theorem FSt.next {F : Fm} {ρ g μ h g' μ' h'} (x : FSt W g F ρ μ h) (y : GSt W g' μ' h') (k : Nx [] g μ h g' μ' h') : FSt W g' F ρ μ' h' := by
  have loc' := x.loc
  obtain ⟨m, hn, hm⟩ := loc'
  have hLown : F.env.locals ∈ F.own := List.mem_cons_self
  have alive : ∀ a o, h.get? a = some o → a ∉ addrs μ → a ∉ addrs μ' := fun a o e h1 h2 => by
    rcases k.mfr a h2 with q | q | q
    · exact h1 q
    · cases q
    · rw [e] at q; cases q
  have gnew : ∀ a o, h.get? a = some o → a ∉ addrs μ → g a = none → g' a = none := fun a o e h1 h2 => by
    cases q : g' a with
    | none => rfl
    | some o' =>
      rcases k.gfr a o' q with r | r | r | r
      · rw [h2] at r; cases r
      · exact absurd r h1
      · cases r
      · rw [e] at r; cases r
  have keep : ∀ a o, a ∉ addrs μ → h.get? a = some o → h'.get? a = some o := fun a o h1 e => k.step a o h1 (fun q => nomatch q) e
  have liveOwn : ∀ a ∈ F.own, ∃ o, h.get? a = some o := fun a ha => by
    rcases List.mem_cons.mp ha with rfl | ha
    · obtain ⟨o, _, _, e, _⟩ := hn; exact ⟨o, e⟩
    · obtain ⟨z, hz, e⟩ := List.mem_filterMap.mp ha
      obtain ⟨⟨o, u, q, _⟩, _⟩ := x.cin _ _ e
      exact ⟨o, q⟩
  refine ⟨x.fn, x.gl, x.bt, ⟨m, ?_, fun z y' e1 e2 => ?_⟩, fun z y' e1 e2 => ?_, fun z c e => ?_, fun a ha => ?_, fun z hz => ?_, x.inj, x.fzk⟩
  · obtain ⟨o, es, ep, ho, r⟩ := hn
    exact ⟨o, es, ep, keep _ _ (x.own _ hLown).2 ho, r⟩
  · obtain ⟨v, h1, h2⟩ := hm z y' e1 e2
    exact ⟨v, h1, h2.mono k.gle⟩
  · obtain ⟨c, o, v, h1, h2, h3, h4⟩ := x.cel z y' e1 e2
    exact ⟨c, o, v, h1, keep _ _ (x.cin _ _ h1).2.1 h2, h3, h4.mono k.gle⟩
  · obtain ⟨⟨o, u, h1, h2⟩, h3, h4⟩ := x.cin z c e
    exact ⟨⟨o, u, keep _ _ h3 h1, h2⟩, alive _ _ h1 h3, h4⟩
  · obtain ⟨o, e⟩ := liveOwn a ha
    obtain ⟨h1, h2⟩ := x.own a ha
    exact ⟨gnew a o e h2 h1, alive a o e h2⟩
  · obtain ⟨c, o, v, y', h0, h1, h2, h3, h4⟩ := x.fz z hz
    exact ⟨c, o, v, y', h0, h1, k.gle _ _ h2, h3, h4.mono k.gle⟩

/-- a step that leaves the heap as it is -/
theorem TrG.still {α : Type} {n : Nat} {pre : G → Prop} {μ : Mem} {t : Sem α} {R : G → α → Mem → Prop}
    (h : ∀ (A : Around) (g : G) (s : Shared) (Q : α → Shared → Prop), Room n A → GSt W g μ s.heap → pre g → (∀ a tk', R g a μ → Q a { s with toks := tk' }) → wpAny W.M A t Q (fun _ _ => False) s) : TrG W n pre μ t R :=
  fun A g s hA hg hp Q hQ => h A g s Q hA hg hp fun a tk' hR => hQ a g μ s.heap tk' hR hg .refl
theorem TrE.still {α : Type} {n : Nat} {F : Fm} {ρ : Loc} {μ : Mem} {t : Sem α} {R : G → α → Mem → Prop}
    (h : ∀ (A : Around) (g : G) (s : Shared) (Q : α → Shared → Prop), Room n A → GSt W g μ s.heap → FSt W g F ρ μ s.heap → (∀ a tk', R g a μ → Q a { s with toks := tk' }) → wpAny W.M A t Q (fun _ _ => False) s) : TrE W n F ρ μ t R :=
  fun A g s hA hg hp Q hQ => h A g s Q hA hg hp fun a tk' hR => hQ a g μ s.heap tk' hR hg .refl

/-- a new frozen object -/
noncomputable def gPut (g : G) (a : Addr) (o : Obj) : G := fun b => if b = a then some o else g b
theorem GSt.alloc {g μ h} (x : GSt W g μ h) {o : Obj} (hf : o.isFreed = false) :
    GSt W (gPut g h.objs.size o) μ (h.push o) ∧ Nx [] g μ h (gPut g h.objs.size o) μ (h.push o) ∧ (gPut g h.objs.size o) h.objs.size = some o := by
  have fr := x.fresh (get_size h)
  have gl : GLe g (gPut g h.objs.size o) := fun a o' e => by
    unfold gPut
    by_cases q : a = h.objs.size
    · rw [q, fr.1] at e; cases e
    · rw [if_neg q]; exact e
  refine ⟨⟨x.base.trans gl, fun a o' e => ?_, fun q hq => ?_, fun a ha => ?_, x.nd⟩, ⟨gl, fun a o' e => ?_, fun a ha => .inl ha, fun a o' _ _ e => Heap.get?_push_of_some _ e, fun a o' _ e => ⟨o', Heap.get?_push_of_some _ e⟩⟩, if_pos rfl⟩
  · unfold gPut at e
    by_cases q : a = h.objs.size
    · rw [if_pos q] at e; cases e; rw [q]; exact Heap.get?_push_size _ hf
    · rw [if_neg q] at e; exact Heap.get?_push_of_some _ (x.le _ _ e)
  · obtain ⟨o', h1, h2⟩ := x.mem q hq
    exact ⟨o', Heap.get?_push_of_some _ h1, h2.mono gl⟩
  · unfold gPut
    rw [if_neg fun q : a = h.objs.size => fr.2 (q ▸ ha)]; exact x.off a ha
  · unfold gPut at e
    by_cases q : a = h.objs.size
    · rw [q]; exact .inr (.inr (.inr (get_size h)))
    · rw [if_neg q] at e; exact .inl e
/-- a new mutable object -/
theorem GSt.allocM {g μ h} (x : GSt W g μ h) {o : Obj} {m : M} (hf : o.isFreed = false) (hr : MRep W.P g o m) :
    GSt W g ((h.objs.size, m) :: μ) (h.push o) ∧ Nx [] g μ h g ((h.objs.size, m) :: μ) (h.push o) := by
  have fr := x.fresh (get_size h)
  refine ⟨⟨x.base, fun a o' e => Heap.get?_push_of_some _ (x.le _ _ e), fun q hq => ?_, fun a ha => ?_, List.nodup_cons.mpr ⟨fr.2, x.nd⟩⟩, ⟨GLe.refl, fun a o' e => .inl e, fun a ha => ?_, fun a o' _ _ e => Heap.get?_push_of_some _ e, fun a o' _ e => ⟨o', Heap.get?_push_of_some _ e⟩⟩⟩
  · rcases List.mem_cons.mp hq with rfl | hq
    · exact ⟨o, Heap.get?_push_size _ hf, hr⟩
    · obtain ⟨o', h1, h2⟩ := x.mem q hq
      exact ⟨o', Heap.get?_push_of_some _ h1, h2⟩
  · rcases List.mem_cons.mp ha with rfl | ha
    · exact fr.1
    · exact x.off a ha
  · rcases List.mem_cons.mp ha with rfl | ha
    · exact .inr (.inr (get_size h))
    · exact .inl ha
/-- new objects that nobody asks for -/
theorem GSt.keeps {g μ h h'} (x : GSt W g μ h) (k : ∀ a o, h.get? a = some o → h'.get? a = some o) : GSt W g μ h' ∧ Nx [] g μ h g μ h' :=
  ⟨⟨x.base, fun a o e => k _ _ (x.le _ _ e), fun q hq => let ⟨o, h1, h2⟩ := x.mem q hq; ⟨o, k _ _ h1, h2⟩, x.off, x.nd⟩, ⟨GLe.refl, fun _ _ e => .inl e, fun _ e => .inl e, fun _ _ _ _ e => k _ _ e, fun _ o _ e => ⟨o, k _ _ e⟩⟩⟩
/-- a mutable object turns -/
noncomputable def mset (μ : Mem) (a : Addr) (m : M) : Mem := μ.map fun q => if q.1 = a then (a, m) else q
theorem addrs_mset (μ : Mem) (a : Addr) (m : M) : addrs (mset μ a m) = addrs μ := by
  unfold addrs mset
  rw [List.map_map]
  refine List.map_congr_left fun q _ => ?_
  simp only [Function.comp]
  by_cases h : q.1 = a
  · rw [if_pos h, h]
  · rw [if_neg h]
theorem GSt.turn {g μ h h'} (x : GSt W g μ h) {a : Addr} {m : M} {o : Obj} (hm : a ∈ addrs μ) (ho : h'.get? a = some o) (hr : MRep W.P g o m) (k : ∀ b o, b ≠ a → h.get? b = some o → h'.get? b = some o) :
    GSt W g (mset μ a m) h' ∧ Nx [] g μ h g (mset μ a m) h' := by
  have na : ∀ b o, g b = some o → b ≠ a := fun b o e q => by rw [q, x.off a hm] at e; cases e
  refine ⟨⟨x.base, fun b o' e => k _ _ (na _ _ e) (x.le _ _ e), fun q hq => ?_, fun b hb => x.off b (by rwa [addrs_mset] at hb), by rw [addrs_mset]; exact x.nd⟩, ⟨GLe.refl, fun _ _ e => .inl e, fun b hb => .inl (by rwa [addrs_mset] at hb), fun b o' h1 _ e => k _ _ (fun q => h1 (q ▸ hm)) e, fun b o' _ e => by
    by_cases q : b = a
    · exact ⟨o, q ▸ ho⟩
    · exact ⟨o', k _ _ q e⟩⟩⟩
  obtain ⟨r, hr', rfl⟩ := List.mem_map.mp hq
  by_cases q : r.1 = a
  · rw [if_pos q]; exact ⟨o, ho, hr⟩
  · rw [if_neg q]
    obtain ⟨o', h1, h2⟩ := x.mem r hr'
    exact ⟨o', k _ _ q h1, h2⟩
end
end
section
section
variable {W : Wd} {n : Nat} {F : Fm} {ρ : Loc} {μ : Mem} {pos : Pos}

/-! ## facts of the state -/
theorem GSt.B {g μ h} (x : GSt W g μ h) : ∀ a o, W.B.get? a = some o → h.get? a = some o := fun a o e => x.le _ _ (x.base _ _ e)
theorem GSt.K {g μ h} (x : GSt W g μ h) : (Mine.hd.heap_39 W.w.params).In h := W.X.keeps x.B
theorem GSt.top {g μ h} (x : GSt W g μ h) : TopRead W.p W.loose W.mg W.mb h := W.T.keeps x.B
theorem Room.u {n : Nat} {A : Around} (x : Room n A) : A.units < cLine := by have := x.units; rw [cLine_is]; lia
theorem Room.d {n : Nat} {A : Around} (x : Room n A) : A.depth < recursionLimit := by have := x.depth; show A.depth < 1000; lia

/-! ## names, literals -/
theorem E_local {x : Str} {y : V} {K : V → Mem → Prop} (h1 : ρ.lookup x = some y) (h2 : F.env.kindOf x = some .local) (h : K y μ) (hd : (x == ("__debug__" : Str)) = false := by decide) : wpE W n F ρ μ (.Name x pos) K :=
  ⟨TrE.still fun A g s Q hA hg hf hQ => by
    obtain ⟨m, hn, hm⟩ := hf.loc
    obtain ⟨v, e1, e2⟩ := hm x y h1 h2
    exact wpAny_Name (wpAny_loadName_local hf.fn h2 hn e1 (hQ v s.toks ⟨y, e2, h⟩)) hd⟩
theorem E_cell {x : Str} {y : V} {K : V → Mem → Prop} (h1 : ρ.lookup x = some y) (h2 : F.env.kindOf x = some .cell) (h : K y μ) (hd : (x == ("__debug__" : Str)) = false := by decide) : wpE W n F ρ μ (.Name x pos) K :=
  ⟨TrE.still fun A g s Q hA hg hf hQ => by
    obtain ⟨c, o, v, e1, e2, e3, e4⟩ := hf.cel x y h1 (by rw [h2]; rfl)
    exact wpAny_Name (wpAny_loadName_cell hf.fn h2 e1 ⟨o, e2, e3⟩ (hQ v s.toks ⟨y, e4, h⟩)) hd⟩
theorem E_free {x : Str} {y : V} {K : V → Mem → Prop} (h1 : ρ.lookup x = some y) (h2 : F.env.kindOf x = some .free) (h : K y μ) (hd : (x == ("__debug__" : Str)) = false := by decide) (hc : (x == ("__classdict__" : Str)) = false := by decide) : wpE W n F ρ μ (.Name x pos) K :=
  ⟨TrE.still fun A g s Q hA hg hf hQ => by
    obtain ⟨c, o, v, e1, e2, e3, e4⟩ := hf.cel x y h1 (by rw [h2]; rfl)
    exact wpAny_Name (wpAny_loadName_free hf.fn h2 e1 ⟨o, e2, e3⟩ (hQ v s.toks ⟨y, e4, h⟩) hc) hd⟩
theorem E_globR {x : Str} {v : Value} {y : V} {K : V → Mem → Prop} (h1 : nsIn (Mine.hd.heap_39 W.w.params) mainGlobals x = some (some v)) (h2 : F.env.kindOf x = some .globalImplicit) (hr : ∀ g, GLe (hG W.B) g → Rep W.P g v y) (h : K y μ) (hd : (x == ("__debug__" : Str)) = false := by decide) : wpE W n F ρ μ (.Name x pos) K :=
  ⟨TrE.still fun A g s Q hA hg hf hQ => by
    refine Calls.Name_function_global hf.fn h2 (Calls.loadGlobal_global (mg := W.mg) ?_ (mg_of W.X W.T.g h1) (hQ v s.toks ⟨y, hr _ hg.base, h⟩)) hd
    rw [hf.gl]; exact hg.top.g⟩
theorem E_glob {x : Str} {v : Value} {K : V → Mem → Prop} (h1 : nsIn (Mine.hd.heap_39 W.w.params) mainGlobals x = some (some v)) (h2 : F.env.kindOf x = some .globalImplicit) (h : K (.raw v) μ) (hd : (x == ("__debug__" : Str)) = false := by decide) : wpE W n F ρ μ (.Name x pos) K :=
  E_globR h1 h2 (fun _ _ => .raw v) h hd
theorem E_built {x : Str} {v : Value} {K : V → Mem → Prop} (h1 : nsIn (Mine.hd.heap_39 W.w.params) mainGlobals x = some none) (h0 : bootBuiltins x = some v) (h2 : F.env.kindOf x = some .globalImplicit) (h : K (.raw v) μ) (hn : x ≠ "__name__" := by decide) (hd : (x == ("__debug__" : Str)) = false := by decide) : wpE W n F ρ μ (.Name x pos) K :=
  ⟨TrE.still fun A g s Q hA hg hf hQ => by
    refine Calls.Name_function_global hf.fn h2 (Calls.loadGlobal_builtin (mg := W.mg) (mb := W.mb) ?_ (mg_none_of W.X W.T.g h1) ?_ ((W.T.builtins x hn).trans h0) (hQ v s.toks ⟨_, .raw v, h⟩)) hd
    · rw [hf.gl]; exact hg.top.g
    · rw [hf.bt]; exact hg.top.b⟩
theorem E_int {i : Int} {k} {K : V → Mem → Prop} (h : K (.int i) μ) : wpE W n F ρ μ (.Constant (.int i) k pos) K :=
  ⟨TrE.still fun A g s Q hA hg hf hQ => wpAny_Constant_int (hQ _ _ ⟨_, .int i _, h⟩)⟩
theorem E_str {x : Str} {k} {K : V → Mem → Prop} (h : K (.str x) μ) : wpE W n F ρ μ (.Constant (.str x) k pos) K :=
  ⟨TrE.still fun A g s Q hA hg hf hQ => wpAny_Constant_str (hQ _ _ ⟨_, .str x _, h⟩)⟩
theorem E_bool {b : Bool} {k} {K : V → Mem → Prop} (h : K (.bool b) μ) : wpE W n F ρ μ (.Constant (.bool b) k pos) K :=
  ⟨TrE.still fun A g s Q hA hg hf hQ => wpAny_Constant_bool (hQ _ s.toks ⟨_, .bool b, h⟩)⟩
theorem E_none {k} {K : V → Mem → Prop} (h : K .none μ) : wpE W n F ρ μ (.Constant .none k pos) K :=
  ⟨TrE.still fun A g s Q hA hg hf hQ => wpAny_Constant_none (hQ _ s.toks ⟨_, .none, h⟩)⟩

/-! ## lists of expressions -/
theorem starEach_plain {e : Expr} {rest : List Expr} {env : Env} (h : starEach (e :: rest) env = (false, eval e env) :: starEach rest env) {Q : List Value → Shared → Prop} {M : Model} {A : Around} {E : Value → Shared → Prop} {s : Shared}
    (k : wpAny M A (eval e env) (fun v s₁ => wpAny M A (spliced (backTo pos (starEach rest env))) (fun vs s₂ => Q (v :: vs) s₂) E s₁) E s) : wpAny M A (spliced (backTo pos (starEach (e :: rest) env))) Q E s := by
  rw [h]
  exact Calls.spliced_cons k
theorem Es_nil {K : List V → Mem → Prop} (h : K [] μ) : wpEs W n F ρ μ pos [] K :=
  ⟨TrE.still fun A g s Q hA hg hf hQ => Calls.spliced_nil (hQ [] s.toks ⟨[], .nil, rfl, h⟩)⟩
theorem Es_cons {e : Expr} {rest : List Expr} {K : List V → Mem → Prop} (h : wpE W n F ρ μ e fun y μ' => wpEs W n F ρ μ' pos rest fun ys => K (y :: ys))
    (hs : starEach (e :: rest) F.env = (false, eval e F.env) :: starEach rest F.env := by rfl) : wpEs W n F ρ μ pos (e :: rest) K := by
  refine ⟨fun A g s hA hg hf Q hQ => ?_⟩
  refine starEach_plain hs (h.go A g s hA hg hf _ fun v g' μ' h' tk' hR hg' hnx => ?_)
  obtain ⟨y, r1, k1⟩ := hR
  refine k1.go A g' _ hA hg' (hf.next hg' hnx) _ fun vs g'' μ'' h'' tk'' hR' hg'' hnx' => ?_
  obtain ⟨ys, r2, l2, k2⟩ := hR'
  exact hQ _ g'' μ'' h'' tk'' ⟨y :: ys, .cons (r1.mono hnx'.gle) r2, congrArg (· + 1) l2, k2⟩ hg'' (hnx.trans hnx')

/-! ## new frozen tuples and lists -/
theorem G_newTuple {vs : List Value} {ys : List V} {K : V → Mem → Prop} (h : K (.tup ys) μ) (hsz : ys.length ≤ sizeLine) : TrG W n (fun g => Reps W.P g vs ys) μ (newTuple vs) (VK W K) := by
  intro A g s hA hg hp Q hQ
  obtain ⟨hg', hnx, e⟩ := hg.alloc (o := { cls := .type "tuple", data := .seq vs.toArray }) rfl
  exact wpAny_newTuple (hQ _ _ _ _ s.toks ⟨_, .tup e rfl rfl (hp.mono hnx.gle), h⟩ hg' hnx) (by rw [hp.length]; exact hsz)
theorem G_newList {vs : List Value} {ys : List V} {K : V → Mem → Prop} (h : K (.lst ys) μ) (hsz : ys.length ≤ sizeLine) : TrG W n (fun g => Reps W.P g vs ys) μ (newList vs) (VK W K) := by
  intro A g s hA hg hp Q hQ
  obtain ⟨hg', hnx, e⟩ := hg.alloc (o := { cls := .type "list", data := .seq vs.toArray }) rfl
  exact wpAny_newObj_type (hQ _ _ _ _ s.toks ⟨_, .lst e rfl rfl rfl (hp.mono hnx.gle), h⟩ hg' hnx) (by show vs.toArray.size ≤ sizeLine; rw [List.size_toArray, hp.length]; exact hsz)
theorem E_Tuple {es : List Expr} {k} {K : V → Mem → Prop} (h : wpEs W n F ρ μ pos es fun ys μ' => K (.tup ys) μ') (hl : es.length ≤ sizeLine := by decide) : wpE W n F ρ μ (.Tuple es k pos) K := by
  refine ⟨fun A g s hA hg hf Q hQ => ?_⟩
  refine PyProof.Rows.Tuple_ (h.go A g s hA hg hf _ fun vs g' μ' h' tk' hR hg' hnx => ?_)
  obtain ⟨ys, r1, l1, k1⟩ := hR
  exact G_newTuple k1 (by rw [l1]; exact hl) A g' _ hA hg' r1 _ fun v g'' μ'' h'' tk'' hR' hg'' hnx' => hQ _ _ _ _ _ hR' hg'' (hnx.trans hnx')
theorem E_List {es : List Expr} {K : V → Mem → Prop} (h : wpEs W n F ρ μ pos es fun ys μ' => K (.lst ys) μ') (hl : es.length ≤ sizeLine := by decide) : wpE W n F ρ μ (.List es pos) K := by
  refine ⟨fun A g s hA hg hf Q hQ => ?_⟩
  refine PyProof.Rows.List_ (h.go A g s hA hg hf _ fun vs g' μ' h' tk' hR hg' hnx => ?_)
  obtain ⟨ys, r1, l1, k1⟩ := hR
  exact G_newList k1 (by rw [l1]; exact hl) A g' _ hA hg' r1 _ fun v g'' μ'' h'' tk'' hR' hg'' hnx' => hQ _ _ _ _ _ hR' hg'' (hnx.trans hnx')
/-- a list display that will be changed -/
theorem E_ListM {es : List Expr} {K : V → Mem → Prop} (h : wpEs W n F ρ μ pos es fun ys μ' => ∀ a, a ∉ addrs μ' → K (.raw (.ref a)) ((a, .lst ys) :: μ')) (hl : es.length ≤ sizeLine := by decide) : wpE W n F ρ μ (.List es pos) K := by
  refine ⟨fun A g s hA hg hf Q hQ => ?_⟩
  refine PyProof.Rows.List_ (h.go A g s hA hg hf _ fun vs g' μ' h' tk' hR hg' hnx => ?_)
  obtain ⟨ys, r1, l1, k1⟩ := hR
  obtain ⟨hg'', hnx'⟩ := hg'.allocM (o := { cls := .type "list", data := .seq vs.toArray }) (m := .lst ys) rfl (.lst rfl rfl rfl rfl rfl r1)
  exact wpAny_newObj_type (hQ _ _ _ _ tk' ⟨_, .raw _, k1 _ (hg'.fresh (get_size _)).2⟩ hg'' (hnx.trans hnx')) (by show vs.toArray.size ≤ sizeLine; rw [List.size_toArray, r1.length, l1]; exact hl)

/-! ## two-place words -/
/-- an operation on two values -/
structure opT (W : Wd) (n : Nat) (t : Value → Value → Sem Value) (a b : V) (μ : Mem) (K : V → Mem → Prop) : Prop where
  go : ∀ v u, TrG W n (fun g => Rep W.P g v a ∧ Rep W.P g u b) μ (t v u) (VK W K)
/-- a comparison -/
structure cmpT (W : Wd) (n : Nat) (op : CmpOp) (a b : V) (μ : Mem) (K : Bool → Mem → Prop) : Prop where
  go : ∀ v u, TrG W n (fun g => Rep W.P g v a ∧ Rep W.P g u b) μ (compareOp op v u) fun _ r μ' => ∃ c, r = .bool c ∧ K c μ'

theorem E_BinOp {l r : Expr} {op : Operator} {K : V → Mem → Prop} (h : wpE W n F ρ μ l fun a μ₁ => wpE W n F ρ μ₁ r fun b μ₂ => opT W n (binaryOp op) a b μ₂ K) : wpE W n F ρ μ (.BinOp l op r pos) K := by
  refine ⟨fun A g s hA hg hf Q hQ => ?_⟩
  refine wpAny_BinOp (h.go A g s hA hg hf _ fun v g₁ μ₁ h₁ tk₁ hR₁ hg₁ nx₁ => ?_)
  obtain ⟨a, r1, k1⟩ := hR₁
  have hf₁ := hf.next hg₁ nx₁
  refine k1.go A g₁ _ hA hg₁ hf₁ _ fun u g₂ μ₂ h₂ tk₂ hR₂ hg₂ nx₂ => ?_
  obtain ⟨b, r2, k2⟩ := hR₂
  exact k2.go v u A g₂ _ hA hg₂ ⟨r1.mono nx₂.gle, r2⟩ _ fun x g₃ μ₃ h₃ tk₃ hR₃ hg₃ nx₃ => hQ _ _ _ _ _ hR₃ hg₃ ((nx₁.trans nx₂).trans nx₃)
theorem E_Compare {l r : Expr} {op : CmpOp} {K : V → Mem → Prop} (h : wpE W n F ρ μ l fun a μ₁ => wpE W n F ρ μ₁ r fun b μ₂ => cmpT W n op a b μ₂ fun c => K (.bool c)) (hm : behindInMarks op r = false := by rfl) : wpE W n F ρ μ (.Compare l [op] [r] pos) K := by
  refine ⟨fun A g s hA hg hf Q hQ => ?_⟩
  refine wpAny_Compare1 (h.go A g s hA hg hf _ fun v g₁ μ₁ h₁ tk₁ hR₁ hg₁ nx₁ => ?_) hm
  obtain ⟨a, r1, k1⟩ := hR₁
  refine k1.go A g₁ _ hA hg₁ (hf.next hg₁ nx₁) _ fun u g₂ μ₂ h₂ tk₂ hR₂ hg₂ nx₂ => ?_
  obtain ⟨b, r2, k2⟩ := hR₂
  refine k2.go v u A g₂ _ hA hg₂ ⟨r1.mono nx₂.gle, r2⟩ _ fun x g₃ μ₃ h₃ tk₃ hR₃ hg₃ nx₃ => ?_
  obtain ⟨c, rfl, hc⟩ := hR₃
  exact hQ _ _ _ _ _ ⟨_, .bool c, hc⟩ hg₃ ((nx₁.trans nx₂).trans nx₃)
theorem B_Compare {l r : Expr} {op : CmpOp} {K : Bool → Mem → Prop} (h : wpE W n F ρ μ l fun a μ₁ => wpE W n F ρ μ₁ r fun b μ₂ => cmpT W n op a b μ₂ K) (hm : behindInMarks op r = false := by rfl) : wpB W n F ρ μ (.Compare l [op] [r] pos) K := by
  refine ⟨fun A g s hA hg hf Q hQ => ?_⟩
  refine wpAny_isTrue_Compare1 (h.go A g s hA hg hf _ fun v g₁ μ₁ h₁ tk₁ hR₁ hg₁ nx₁ => ?_) hm
  obtain ⟨a, r1, k1⟩ := hR₁
  refine k1.go A g₁ _ hA hg₁ (hf.next hg₁ nx₁) _ fun u g₂ μ₂ h₂ tk₂ hR₂ hg₂ nx₂ => ?_
  obtain ⟨b, r2, k2⟩ := hR₂
  refine k2.go v u A g₂ _ hA hg₂ ⟨r1.mono nx₂.gle, r2⟩ _ fun x g₃ μ₃ h₃ tk₃ hR₃ hg₃ nx₃ => ?_
  obtain ⟨c, rfl, hc⟩ := hR₃
  exact wpAny_truthy_bool (hQ _ _ _ _ _ hc hg₃ ((nx₁.trans nx₂).trans nx₃))

/-! ## tests -/
theorem B_Not {x : Expr} {K : Bool → Mem → Prop} (h : wpB W n F ρ μ x fun b => K (!b)) : wpB W n F ρ μ (.UnaryOp .Not x pos) K :=
  ⟨fun A g s hA hg hf Q hQ => wpAny_isTrue_Not (h.go A g s hA hg hf _ fun b g₁ μ₁ h₁ tk₁ hR₁ hg₁ nx₁ => hQ _ _ _ _ _ hR₁ hg₁ nx₁)⟩
theorem B_And {x : Expr} {rest : List Expr} {K : Bool → Mem → Prop} (h : wpB W n F ρ μ x fun b μ' => if b = true then wpB W n F ρ μ' (.BoolOp .And rest pos) K else K false μ') : wpB W n F ρ μ (.BoolOp .And (x :: rest) pos) K :=
  ⟨fun A g s hA hg hf Q hQ => isTrue_and (h.go A g s hA hg hf _ fun b g₁ μ₁ h₁ tk₁ hR₁ hg₁ nx₁ => by
    cases b with
    | true => exact hR₁.go A g₁ _ hA hg₁ (hf.next hg₁ nx₁) _ fun c g₂ μ₂ h₂ tk₂ hR₂ hg₂ nx₂ => hQ _ _ _ _ _ hR₂ hg₂ (nx₁.trans nx₂)
    | false => exact hQ _ _ _ _ _ hR₁ hg₁ nx₁)⟩
theorem B_Or {x : Expr} {rest : List Expr} {K : Bool → Mem → Prop} (h : wpB W n F ρ μ x fun b μ' => if b = true then K true μ' else wpB W n F ρ μ' (.BoolOp .Or rest pos) K) : wpB W n F ρ μ (.BoolOp .Or (x :: rest) pos) K :=
  ⟨fun A g s hA hg hf Q hQ => isTrue_or (h.go A g s hA hg hf _ fun b g₁ μ₁ h₁ tk₁ hR₁ hg₁ nx₁ => by
    cases b with
    | true => exact hQ _ _ _ _ _ hR₁ hg₁ nx₁
    | false => exact hR₁.go A g₁ _ hA hg₁ (hf.next hg₁ nx₁) _ fun c g₂ μ₂ h₂ tk₂ hR₂ hg₂ nx₂ => hQ _ _ _ _ _ hR₂ hg₂ (nx₁.trans nx₂))⟩
theorem B_And0 {K : Bool → Mem → Prop} (h : K true μ) : wpB W n F ρ μ (.BoolOp .And [] pos) K := ⟨TrE.still fun A g s Q hA hg hf hQ => isTrue_and_nil (hQ true s.toks h)⟩
theorem B_Or0 {K : Bool → Mem → Prop} (h : K false μ) : wpB W n F ρ μ (.BoolOp .Or [] pos) K := ⟨TrE.still fun A g s Q hA hg hf hQ => isTrue_or_nil (hQ false s.toks h)⟩
/-- a test that is a plain value -/
theorem B_value {e : Expr} {K : Bool → Mem → Prop} (h : wpE W n F ρ μ e fun y μ' => ∃ b, y = .bool b ∧ K b μ') (he : ∀ whole, isTrue e F.env whole = (do let v ← whole; standAt e.pos; holding [v] (truthy v)) := by intro _; rfl) : wpB W n F ρ μ e K :=
  ⟨fun A g s hA hg hf Q hQ => wpAny_isTrue_value (h.go A g s hA hg hf _ fun v g₁ μ₁ h₁ tk₁ hR₁ hg₁ nx₁ => by
    obtain ⟨y, r, b, rfl, hb⟩ := hR₁
    apply r.bool_elim
    exact wpAny_truthy_bool (hQ _ _ _ _ _ hb hg₁ nx₁)) (he _)⟩
theorem E_IfExp {test body orelse : Expr} {K : V → Mem → Prop} (h : wpB W n F ρ μ test fun b μ' => if b = true then wpE W n F ρ μ' body K else wpE W n F ρ μ' orelse K) : wpE W n F ρ μ (.IfExp test body orelse pos) K :=
  ⟨fun A g s hA hg hf Q hQ => wpAny_IfExp (h.go A g s hA hg hf _ fun b g₁ μ₁ h₁ tk₁ hR₁ hg₁ nx₁ => by
    cases b <;> exact hR₁.go A g₁ _ hA hg₁ (hf.next hg₁ nx₁) _ fun c g₂ μ₂ h₂ tk₂ hR₂ hg₂ nx₂ => hQ _ _ _ _ _ hR₂ hg₂ (nx₁.trans nx₂))⟩
/-! ## ints -/
theorem op_add {i j : Int} {K : V → Mem → Prop} (h : K (.int (i + j)) μ) : opT W n (binaryOp .Add) (.int i) (.int j) μ K :=
  ⟨fun v u => .still fun A g s Q hA hg hp hQ => by obtain ⟨a, b⟩ := hp; apply a.int_elim; intro _; apply b.int_elim; intro _; exact add_int (hQ _ _ ⟨_, .int _ _, h⟩)⟩
theorem op_sub {i j : Int} {K : V → Mem → Prop} (h : K (.int (i - j)) μ) : opT W n (binaryOp .Sub) (.int i) (.int j) μ K :=
  ⟨fun v u => .still fun A g s Q hA hg hp hQ => by obtain ⟨a, b⟩ := hp; apply a.int_elim; intro _; apply b.int_elim; intro _; exact sub_int (hQ _ _ ⟨_, .int _ _, h⟩)⟩
theorem op_mul {i j : Int} {K : V → Mem → Prop} (hm : IntMulOk i j) (h : K (.int (i * j)) μ) : opT W n (binaryOp .Mult) (.int i) (.int j) μ K :=
  ⟨fun v u => .still fun A g s Q hA hg hp hQ => by obtain ⟨a, b⟩ := hp; apply a.int_elim; intro _; apply b.int_elim; intro _; exact mul_int (hQ _ _ ⟨_, .int _ _, h⟩) hm⟩
theorem op_mod {i j : Int} {K : V → Mem → Prop} (hj : j ≠ 0) (h : K (.int (i.fmod j)) μ) : opT W n (binaryOp .Mod) (.int i) (.int j) μ K :=
  ⟨fun v u => .still fun A g s Q hA hg hp hQ => by obtain ⟨a, b⟩ := hp; apply a.int_elim; intro _; apply b.int_elim; intro _; exact mod_int' hj (hQ _ _ ⟨_, .int _ _, h⟩)⟩
theorem op_fdiv {i j : Int} {K : V → Mem → Prop} (hj : j ≠ 0) (hp : Builtin.divisionGoesByPylong i j = false) (h : K (.int (i.fdiv j)) μ) : opT W n (binaryOp .FloorDiv) (.int i) (.int j) μ K :=
  ⟨fun v u => .still fun A g s Q hA hg hq hQ => by
    obtain ⟨a, b⟩ := hq; apply a.int_elim; intro _; apply b.int_elim; intro _
    exact floordiv_int hj (hQ _ _ ⟨_, .int _ _, h⟩) (.inl hp)⟩
theorem op_pow {i j : Int} {K : V → Mem → Prop} (hn : 0 ≤ j) (hsz : (Builtin.Int.intBits i : Int) * j ≤ 2 ^ 27) (h : K (.int (i ^ j.toNat)) μ) : opT W n (binaryOp .Pow) (.int i) (.int j) μ K :=
  ⟨fun v u => .still fun A g s Q hA hg hp hQ => by obtain ⟨a, b⟩ := hp; apply a.int_elim; intro _; apply b.int_elim; intro _; exact pow_int hn hsz (hQ _ _ ⟨_, .int _ _, h⟩)⟩
theorem cmp_eq_int {i j : Int} {K : Bool → Mem → Prop} (h : K (i == j) μ) : cmpT W n .Eq (.int i) (.int j) μ K :=
  ⟨fun v u => .still fun A g s Q hA hg hp hQ => by obtain ⟨a, b⟩ := hp; apply a.int_elim; intro _; apply b.int_elim; intro _; exact eq_int (hQ _ s.toks ⟨_, rfl, h⟩)⟩
theorem cmp_ne_int {i j : Int} {K : Bool → Mem → Prop} (h : K (i != j) μ) : cmpT W n .NotEq (.int i) (.int j) μ K :=
  ⟨fun v u => .still fun A g s Q hA hg hp hQ => by obtain ⟨a, b⟩ := hp; apply a.int_elim; intro _; apply b.int_elim; intro _; exact ne_int (hQ _ s.toks ⟨_, rfl, h⟩)⟩
theorem cmp_lt_int {i j : Int} {K : Bool → Mem → Prop} (h : K (decide (i < j)) μ) : cmpT W n .Lt (.int i) (.int j) μ K :=
  ⟨fun v u => .still fun A g s Q hA hg hp hQ => by obtain ⟨a, b⟩ := hp; apply a.int_elim; intro _; apply b.int_elim; intro _; exact lt_int (hQ _ s.toks ⟨_, rfl, h⟩)⟩
theorem cmp_gt_int {i j : Int} {K : Bool → Mem → Prop} (h : K (decide (j < i)) μ) : cmpT W n .Gt (.int i) (.int j) μ K :=
  ⟨fun v u => .still fun A g s Q hA hg hp hQ => by obtain ⟨a, b⟩ := hp; apply a.int_elim; intro _; apply b.int_elim; intro _; exact gt_int (hQ _ s.toks ⟨_, rfl, h⟩)⟩
theorem cmp_ge_int {i j : Int} {K : Bool → Mem → Prop} (h : K (decide (j ≤ i)) μ) : cmpT W n .GtE (.int i) (.int j) μ K :=
  ⟨fun v u => .still fun A g s Q hA hg hp hQ => by obtain ⟨a, b⟩ := hp; apply a.int_elim; intro _; apply b.int_elim; intro _; exact ge_int (hQ _ s.toks ⟨_, rfl, h⟩)⟩
theorem cmp_eq_str {x y : Str} {c : Bool} {K : Bool → Mem → Prop} (hc : (x == y) = c) (h : K c μ) : cmpT W n .Eq (.str x) (.str y) μ K :=
  ⟨fun v u => .still fun A g s Q hA hg hp hQ => by obtain ⟨a, b⟩ := hp; apply a.str_elim; intro _; apply b.str_elim; intro _; exact eq_str (hQ _ s.toks ⟨_, rfl, by rw [hc]; exact h⟩)⟩
theorem cmp_ne_str {x y : Str} {c : Bool} {K : Bool → Mem → Prop} (hc : (x != y) = c) (h : K c μ) : cmpT W n .NotEq (.str x) (.str y) μ K :=
  ⟨fun v u => .still fun A g s Q hA hg hp hQ => by obtain ⟨a, b⟩ := hp; apply a.str_elim; intro _; apply b.str_elim; intro _; exact ne_str (hQ _ s.toks ⟨_, rfl, by rw [hc]; exact h⟩)⟩

/-! ## statements -/
noncomputable def seqK (W : Wd) (n : Nat) (F : Fm) (rest : List Stmt) (K : Out → Mem → Prop) : Out → Mem → Prop := fun o μ => match o with
  | .next ρ => wpS W n F ρ μ rest K
  | o => K o μ
theorem S_nil {K : Out → Mem → Prop} (h : K (.next ρ) μ) : wpS W n F ρ μ [] K :=
  ⟨fun A g s hA hg hf Q hQ => wpAny_execs_nil (hQ _ (.next ρ) g μ s.heap s.toks h ⟨rfl, hf⟩ hg .refl)⟩
theorem S_cons {st : Stmt} {rest : List Stmt} {K : Out → Mem → Prop} (h : wpX W n F ρ μ st (seqK W n F rest K)) : wpS W n F ρ μ (st :: rest) K := by
  refine ⟨fun A g s hA hg hf Q hQ => ?_⟩
  refine wpAny_execs_cons (h.go A g s hA hg hf _ fun f o g₁ μ₁ h₁ tk₁ hK hfl hg₁ nx₁ => ?_)
  cases o with
  | next ρ₁ =>
    obtain ⟨rfl, hf₁⟩ := hfl
    exact hK.go A g₁ _ hA hg₁ hf₁ _ fun f o g₂ μ₂ h₂ tk₂ hK₂ hfl₂ hg₂ nx₂ => hQ _ _ _ _ _ _ hK₂ hfl₂ hg₂ (nx₁.trans nx₂)
  | ret y => obtain ⟨v, rfl, r⟩ := hfl; exact hQ _ _ _ _ _ _ hK ⟨v, rfl, r⟩ hg₁ nx₁
  | brk ρ₁ => obtain ⟨rfl, hf₁⟩ := hfl; exact hQ _ (.brk ρ₁) _ _ _ _ hK ⟨rfl, hf₁⟩ hg₁ nx₁
  | cont ρ₁ => obtain ⟨rfl, hf₁⟩ := hfl; exact hQ _ (.cont ρ₁) _ _ _ _ hK ⟨rfl, hf₁⟩ hg₁ nx₁
theorem X_If {test : Expr} {body orelse : List Stmt} {K : Out → Mem → Prop} (h : wpB W n F ρ μ test fun b μ' => if b = true then wpS W n F ρ μ' body K else wpS W n F ρ μ' orelse K) : wpX W n F ρ μ (.If test body orelse pos) K :=
  ⟨fun A g s hA hg hf Q hQ => wpAny_If (h.go A g s hA hg hf _ fun b g₁ μ₁ h₁ tk₁ hR₁ hg₁ nx₁ => by
    cases b <;> exact hR₁.go A g₁ _ hA hg₁ (hf.next hg₁ nx₁) _ fun f o g₂ μ₂ h₂ tk₂ hK₂ hfl₂ hg₂ nx₂ => hQ _ _ _ _ _ _ hK₂ hfl₂ hg₂ (nx₁.weak0.trans nx₂))⟩
theorem X_Return {e : Expr} {K : Out → Mem → Prop} (h : wpE W n F ρ μ e fun y => K (.ret y)) : wpX W n F ρ μ (.Return (some e) pos) K :=
  ⟨fun A g s hA hg hf Q hQ => wpAny_Return_some (h.go A g s hA hg hf _ fun v g₁ μ₁ h₁ tk₁ hR₁ hg₁ nx₁ => by
    obtain ⟨y, r, k⟩ := hR₁
    exact hQ _ (.ret y) _ _ _ _ k ⟨v, rfl, r⟩ hg₁ nx₁.weak0)⟩
theorem X_Return0 {K : Out → Mem → Prop} (h : K (.ret .none) μ) : wpX W n F ρ μ (.Return none pos) K :=
  ⟨fun A g s hA hg hf Q hQ => wpAny_Return_none (hQ _ (.ret .none) g μ s.heap s.toks h ⟨_, rfl, .none⟩ hg .refl)⟩
theorem X_Pass {K : Out → Mem → Prop} (h : K (.next ρ) μ) : wpX W n F ρ μ (.Pass pos) K :=
  ⟨fun A g s hA hg hf Q hQ => wpAny_Pass (hQ _ (.next ρ) g μ s.heap s.toks h ⟨rfl, hf⟩ hg .refl)⟩

/-- storing a name of the frame -/
structure wpSt (W : Wd) (n : Nat) (F : Fm) (ρ : Loc) (μ : Mem) (x : Str) (y : V) (K : Loc → Mem → Prop) : Prop where
  go : ∀ (A : Around) (g : G) (s : Shared) (v : Value), Room n A → GSt W g μ s.heap → FSt W g F ρ μ s.heap → Rep W.P g v y → ∀ Q : Unit → Shared → Prop,
    (∀ ρ' h' tk', K ρ' μ → GSt W g μ h' → FSt W g F ρ' μ h' → Nx F.own g μ s.heap g μ h' → Q () { s with heap := h', toks := tk' }) → wpAny W.M A (storeName F.env x v) Q (fun _ _ => False) s
end
end
section
section
variable {W : Wd} {n : Nat} {F : Fm} {ρ : Loc} {μ : Mem} {pos : Pos}

/-! ## the frame's own stores -/
/-- an object of the frame's own turns -/
theorem GSt.mine {T : List Addr} {g h h'} (x : GSt W g μ h) {a : Addr} (h1 : g a = none) (h2 : a ∉ addrs μ) (hT : a ∈ T) (k : ∀ b o, b ≠ a → h.get? b = some o → h'.get? b = some o) : GSt W g μ h' ∧ Nx T g μ h g μ h' := by
  have na : ∀ b o, g b = some o → b ≠ a := fun b o e q => by rw [q, h1] at e; cases e
  refine ⟨⟨x.base, fun b o e => k _ _ (na _ _ e) (x.le _ _ e), fun q hq => ?_, x.off, x.nd⟩, ⟨GLe.refl, fun _ _ e => .inl e, fun _ e => .inl e, fun b o _ h4 e => k _ _ (fun q => h4 (q ▸ hT)) e, fun b o h4 e => ⟨o, k _ _ (fun q => h4 (q ▸ hT)) e⟩⟩⟩
  obtain ⟨o, e1, e2⟩ := x.mem q hq
  exact ⟨o, k _ _ (fun e => h2 (e ▸ List.mem_map_of_mem hq)) e1, e2⟩

theorem lookup_cons_ne {x z : Str} {y : V} {ρ : Loc} (h : z ≠ x) : ((x, y) :: ρ).lookup z = ρ.lookup z := by
  rw [List.lookup_cons, beq_eq_false_iff_ne.mpr h]
theorem lookup_cons_eq {x : Str} {y : V} {ρ : Loc} : ((x, y) :: ρ).lookup x = some y := by
  rw [List.lookup_cons, beq_self_eq_true]

theorem FSt.setLocal {g h h'} (x : FSt W g F ρ μ h) (hg : GSt W g μ h) {nm : Str} {v : Value} {y : V} {m : Str → Option Value} (hk : F.env.kindOf nm = some .local) (hr : Rep W.P g v y)
    (hm : ∀ z y', ρ.lookup z = some y' → F.env.kindOf z = some .local → ∃ v, m z = some v ∧ Rep W.P g v y')
    (hn : h'.Ns F.env.locals (fun z => if z = nm then some v else m z)) (hs : Heap.SameBut F.env.locals h h') : FSt W g F ((nm, y) :: ρ) μ h' := by
  have keep : ∀ b o, b ≠ F.env.locals → h.get? b = some o → h'.get? b = some o := fun b o e1 e2 => (hs.2 b e1).trans e2
  refine ⟨x.fn, x.gl, x.bt, ⟨_, hn, fun z y' e1 e2 => ?_⟩, fun z y' e1 e2 => ?_, fun z c e => ?_, x.own, fun z hz => ?_, x.inj, x.fzk⟩
  · by_cases q : z = nm
    · subst q; rw [lookup_cons_eq] at e1; cases e1; exact ⟨v, if_pos rfl, hr⟩
    · rw [lookup_cons_ne q] at e1
      obtain ⟨u, h1, h2⟩ := hm z y' e1 e2
      exact ⟨u, by rw [if_neg q]; exact h1, h2⟩
  · have q : z ≠ nm := fun q => by rw [q, hk] at e2; cases e2
    rw [lookup_cons_ne q] at e1
    obtain ⟨c, o, u, h1, h2, h3, h4⟩ := x.cel z y' e1 e2
    exact ⟨c, o, u, h1, keep _ _ (x.cin _ _ h1).2.2 h2, h3, h4⟩
  · obtain ⟨⟨o, u, h1, h2⟩, h3, h4⟩ := x.cin z c e
    exact ⟨⟨o, u, keep _ _ h4 h1, h2⟩, h3, h4⟩
  · obtain ⟨c, o, v', y', h0, h1, h2, h3, h4⟩ := x.fz z hz
    have q : z ≠ nm := fun q => by have := x.fzk z hz; rw [q, hk] at this; exact absurd this (by decide)
    exact ⟨c, o, v', y', by rw [lookup_cons_ne q]; exact h0, h1, h2, h3, h4⟩

/-- a cell of the frame's own turns -/
theorem FSt.setCell {g h h'} (x : FSt W g F ρ μ h) {nm : Str} {c : Addr} {v : Value} {y : V} (hk : F.env.kindOf nm = some .cell) (hc : F.env.cells.lookup nm = some c) (hz : nm ∉ F.fz) (hr : Rep W.P g v y)
    (hn : h'.IsCell c (some v)) (hs : Heap.SameBut c h h') : FSt W g F ((nm, y) :: ρ) μ h' := by
  have keep : ∀ b o, b ≠ c → h.get? b = some o → h'.get? b = some o := fun b o e1 e2 => (hs.2 b e1).trans e2
  have hcL : c ≠ F.env.locals := (x.cin _ _ hc).2.2
  obtain ⟨m, hn', hm⟩ := x.loc
  refine ⟨x.fn, x.gl, x.bt, ⟨m, ?_, fun z y' e1 e2 => ?_⟩, fun z y' e1 e2 => ?_, fun z d e => ?_, x.own, fun z hz' => ?_, x.inj, x.fzk⟩
  · obtain ⟨o, es, ep, ho, r⟩ := hn'
    exact ⟨o, es, ep, keep _ _ (Ne.symm hcL) ho, r⟩
  · have q : z ≠ nm := fun q => by rw [q, hk] at e2; cases e2
    rw [lookup_cons_ne q] at e1
    exact hm z y' e1 e2
  · by_cases q : z = nm
    · subst q
      rw [lookup_cons_eq] at e1; cases e1
      obtain ⟨o, h1, h2⟩ := hn
      exact ⟨c, o, v, hc, h1, h2, hr⟩
    · rw [lookup_cons_ne q] at e1
      obtain ⟨d, o, u, h1, h2, h3, h4⟩ := x.cel z y' e1 e2
      exact ⟨d, o, u, h1, keep _ _ (fun e => q (x.inj _ _ _ (e ▸ h1) hc)) h2, h3, h4⟩
  · obtain ⟨⟨o, u, h1, h2⟩, h3, h4⟩ := x.cin z d e
    by_cases q : d = c
    · obtain ⟨o', h1', h2'⟩ := hn
      exact ⟨⟨o', _, q ▸ h1', h2'⟩, h3, h4⟩
    · exact ⟨⟨o, u, keep _ _ q h1, h2⟩, h3, h4⟩
  · obtain ⟨d, o, v', y', h0, h1, h2, h3, h4⟩ := x.fz z hz'
    have q : z ≠ nm := fun q => hz (q ▸ hz')
    exact ⟨d, o, v', y', by rw [lookup_cons_ne q]; exact h0, h1, h2, h3, h4⟩

theorem St_local {x : Str} {y : V} {K : Loc → Mem → Prop} (hk : F.env.kindOf x = some .local) (h : K ((x, y) :: ρ) μ) : wpSt W n F ρ μ x y K := by
  refine ⟨fun A g s v hA hg hf hr Q hQ => ?_⟩
  obtain ⟨m, hn, hm⟩ := hf.loc
  have own := hf.own F.env.locals List.mem_cons_self
  refine wpAny_storeName_local hk hn (fun h' hn' hs' => ?_) (by rw [hf.fn]; rfl)
  obtain ⟨hg', nx⟩ := hg.mine (T := F.own) own.1 own.2 List.mem_cons_self fun b o e1 e2 => (hs'.2 b e1).trans e2
  exact hQ _ h' _ h hg' (hf.setLocal hg hk hr hm hn' hs') nx
theorem St_cell {x : Str} {c : Addr} {y : V} {K : Loc → Mem → Prop} (hk : F.env.kindOf x = some .cell) (hc : F.env.cells.lookup x = some c) (hp : x ∈ F.priv) (hz : x ∉ F.fz) (h : K ((x, y) :: ρ) μ) : wpSt W n F ρ μ x y K := by
  refine ⟨fun A g s v hA hg hf hr Q hQ => ?_⟩
  obtain ⟨⟨o, u, e1, e2⟩, h3, h4⟩ := hf.cin x c hc
  have hcm : c ∈ F.own := List.mem_cons_of_mem _ (List.mem_filterMap.mpr ⟨x, hp, hc⟩)
  have own := hf.own c hcm
  refine wpAny_storeName_cell hf.fn hk hc ⟨o, e1, e2⟩ fun h' hn' hs' => ?_
  obtain ⟨hg', nx⟩ := hg.mine (T := F.own) own.1 own.2 hcm fun b o e1 e2 => (hs'.2 b e1).trans e2
  exact hQ _ h' s.toks h hg' (hf.setCell hk hc hz hr hn' hs') nx

theorem X_AssignName {x : Str} {px : Pos} {value : Expr} {K : Out → Mem → Prop} (h : wpE W n F ρ μ value fun y μ' => wpSt W n F ρ μ' x y fun ρ' => K (.next ρ'))
    (hs : swapsWith value (some (.Name x px)) pos.line F.env = pure false := by rfl) : wpX W n F ρ μ (.Assign [.Name x px] value pos) K := by
  refine ⟨fun A g s hA hg hf Q hQ => ?_⟩
  refine wpAny_Assign_Name (h.go A g s hA hg hf _ fun v g₁ μ₁ h₁ tk₁ hR₁ hg₁ nx₁ => ?_) hs
  obtain ⟨y, r, k⟩ := hR₁
  exact k.go A g₁ _ v hA hg₁ (hf.next hg₁ nx₁) r _ fun ρ' h₂ tk₂ hK hg₂ hf₂ nx₂ => hQ _ (.next ρ') _ _ _ _ hK ⟨rfl, hf₂⟩ hg₂ (nx₁.weak0.trans nx₂)

/-! ## targets -/
/-- the assignment of a value to a target -/
structure wpTg (W : Wd) (n : Nat) (F : Fm) (ρ : Loc) (μ : Mem) (t : Expr) (y : V) (K : Loc → Mem → Prop) : Prop where
  go : ∀ (A : Around) (g : G) (s : Shared) (v : Value), Room n A → GSt W g μ s.heap → FSt W g F ρ μ s.heap → Rep W.P g v y → ∀ Q : Unit → Shared → Prop,
    (∀ g' ρ' μ' h' tk', K ρ' μ' → GSt W g' μ' h' → FSt W g' F ρ' μ' h' → Nx F.own g μ s.heap g' μ' h' → Q () { s with heap := h', toks := tk' }) → wpAny W.M A (assign t F.env v) Q (fun _ _ => False) s
structure wpTgs (W : Wd) (n : Nat) (F : Fm) (ρ : Loc) (μ : Mem) (ts : List Expr) (ys : List V) (K : Loc → Mem → Prop) : Prop where
  go : ∀ (A : Around) (g : G) (s : Shared) (vs : List Value), Room n A → GSt W g μ s.heap → FSt W g F ρ μ s.heap → Reps W.P g vs ys → ∀ Q : Unit → Shared → Prop,
    (∀ g' ρ' μ' h' tk', K ρ' μ' → GSt W g' μ' h' → FSt W g' F ρ' μ' h' → Nx F.own g μ s.heap g' μ' h' → Q () { s with heap := h', toks := tk' }) → wpAny W.M A (assignInOrder ((assignEach ts F.env).map (·.2)) vs) Q (fun _ _ => False) s
theorem Tg_Name {x : Str} {y : V} {K : Loc → Mem → Prop} (h : wpSt W n F ρ μ x y fun ρ' => K ρ') : wpTg W n F ρ μ (.Name x pos) y K :=
  ⟨fun A g s v hA hg hf hr Q hQ => wpAny_assign_Name (h.go A g s v hA hg hf hr _ fun ρ' h' tk' hK hg' hf' nx => hQ _ _ _ _ _ hK hg' hf' nx)⟩
theorem Tgs_nil {K : Loc → Mem → Prop} (h : K ρ μ) : wpTgs W n F ρ μ [] [] K :=
  ⟨fun A g s vs hA hg hf hr Q hQ => by apply hr.nil_elim; exact wpAny_pure (hQ _ _ _ _ s.toks h hg hf .refl)⟩
theorem Tgs_cons {t : Expr} {ts : List Expr} {y : V} {ys : List V} {K : Loc → Mem → Prop} (h : wpTg W n F ρ μ t y fun ρ' μ' => wpTgs W n F ρ' μ' ts ys K)
    (hs : assignEach (t :: ts) F.env = (false, assign t F.env) :: assignEach ts F.env := by rfl) : wpTgs W n F ρ μ (t :: ts) (y :: ys) K := by
  refine ⟨fun A g s vs hA hg hf hr Q hQ => ?_⟩
  apply hr.cons_elim; intro _ _ r1 r2
  rw [hs]
  refine wpAny_bind (wpAny_holding (h.go A g s _ hA hg hf r1 _ fun g₁ ρ₁ μ₁ h₁ tk₁ hK hg₁ hf₁ nx₁ => ?_))
  exact hK.go A g₁ _ _ hA hg₁ hf₁ (r2.mono nx₁.gle) _ fun g₂ ρ₂ μ₂ h₂ tk₂ hK₂ hg₂ hf₂ nx₂ => hQ _ _ _ _ _ hK₂ hg₂ hf₂ (nx₁.trans nx₂)
theorem assignEach_length : ∀ (ts : List Expr) (env : Env), (assignEach ts env).length = ts.length
  | [], _ => rfl
  | t :: ts, env => by
    cases t <;> exact congrArg (· + 1) (assignEach_length ts env)
theorem Tg_Tuple {elts : List Expr} {k} {ys : List V} {K : Loc → Mem → Prop} (hl : elts.length = ys.length) (hstar : (assignEach elts F.env).findIdx? (·.1) = none) (h : wpTgs W n F ρ μ elts ys K) : wpTg W n F ρ μ (.Tuple elts k pos) (.tup ys) K := by
  refine ⟨fun A g s v hA hg hf hr Q hQ => ?_⟩
  apply hr.tup_elim; intro _ _ _ _ e1 e2 e3 r
  rename_i a o vs nn
  show wpAny _ _ (standAt pos >>= fun _ => unpack _ (assignEach elts F.env)) _ _ _
  refine wpAny_bind (wpAny_standAt (PyProof.Rows.unpack_tuple hA.handled ⟨o, hg.le _ _ e1, e2, nn, e3⟩ (by rw [assignEach_length, hl, List.size_toArray, r.length]) hstar fun h' hx => ?_))
  obtain ⟨hg', nx⟩ := hg.keeps (h' := h') fun b o' e => hx b o' (Nat.ne_of_lt (Heap.lt_size e)) e
  exact h.go A g _ vs hA hg' (hf.next hg' nx) r Q fun g₂ ρ₂ μ₂ h₂ tk₂ hK₂ hg₂ hf₂ nx₂ => hQ _ _ _ _ _ hK₂ hg₂ hf₂ (nx.weak0.trans nx₂)
theorem X_AssignTuple {elts : List Expr} {k tpos} {value : Expr} {K : Out → Mem → Prop} (h : wpE W n F ρ μ value fun y μ' => wpTg W n F ρ μ' (.Tuple elts k tpos) y fun ρ' => K (.next ρ'))
    (hs : swapsWithSole [.Tuple elts k tpos] value pos.line F.env = pure false := by rfl) (hw : swappedStores [.Tuple elts k tpos] value F.env = pure none := by rfl) : wpX W n F ρ μ (.Assign [.Tuple elts k tpos] value pos) K := by
  refine ⟨fun A g s hA hg hf Q hQ => ?_⟩
  refine PyProof.Rows.Assign_Tuple (h.go A g s hA hg hf _ fun v g₁ μ₁ h₁ tk₁ hR₁ hg₁ nx₁ => ?_) hs hw
  obtain ⟨y, r, k⟩ := hR₁
  exact k.go A g₁ _ v hA hg₁ (hf.next hg₁ nx₁) r _ fun g₂ ρ' μ₂ h₂ tk₂ hK hg₂ hf₂ nx₂ => hQ _ (.next ρ') _ _ _ _ hK ⟨rfl, hf₂⟩ hg₂ (nx₁.weak0.trans nx₂)
/-- names stored one by one -/
structure wpSts (W : Wd) (n : Nat) (F : Fm) (ρ : Loc) (μ : Mem) (xs : List Str) (ys : List V) (K : Loc → Mem → Prop) : Prop where
  go : ∀ (A : Around) (g : G) (s : Shared) (vs : List Value), Room n A → GSt W g μ s.heap → FSt W g F ρ μ s.heap → Reps W.P g vs ys → ∀ Q : Unit → Shared → Prop,
    (∀ g' ρ' μ' h' tk', K ρ' μ' → GSt W g' μ' h' → FSt W g' F ρ' μ' h' → Nx F.own g μ s.heap g' μ' h' → Q () { s with heap := h', toks := tk' }) → wpAny W.M A (assignInOrder (xs.map fun x => bindName F.env x) vs) Q (fun _ _ => False) s
theorem Sts_nil {K : Loc → Mem → Prop} (h : K ρ μ) : wpSts W n F ρ μ [] [] K :=
  ⟨fun A g s vs hA hg hf hr Q hQ => by apply hr.nil_elim; exact wpAny_pure (hQ _ _ _ _ s.toks h hg hf .refl)⟩
theorem Sts_cons {x : Str} {xs : List Str} {y : V} {ys : List V} {K : Loc → Mem → Prop} (h : wpSt W n F ρ μ x y fun ρ' μ' => wpSts W n F ρ' μ' xs ys K) : wpSts W n F ρ μ (x :: xs) (y :: ys) K := by
  refine ⟨fun A g s vs hA hg hf hr Q hQ => ?_⟩
  apply hr.cons_elim; intro _ _ r1 r2
  refine wpAny_bind (wpAny_holding (wpAny_bindName (h.go A g s _ hA hg hf r1 _ fun ρ₁ h₁ tk₁ hK hg₁ hf₁ nx₁ => ?_)))
  exact hK.go A g _ _ hA hg₁ hf₁ r2 _ fun g₂ ρ₂ μ₂ h₂ tk₂ hK₂ hg₂ hf₂ nx₂ => hQ _ _ _ _ _ hK₂ hg₂ hf₂ (nx₁.trans nx₂)
theorem Reps.reverse {P : Params} {g : G} {vs : List Value} {ys : List V} (h : Reps P g vs ys) : Reps P g vs.reverse ys.reverse :=
  Reps.ind (p := fun vs ys => Reps P g vs.reverse ys.reverse) .nil (fun a b => by rw [List.reverse_cons, List.reverse_cons]; exact b.append (.one a)) h
theorem X_AssignSwapped {elts : List Expr} {k tpos} {value : Expr} {names : List Str} {K : Out → Mem → Prop} (h : wpE W n F ρ μ value fun y μ' => ∃ ys, y = .tup ys ∧ ys.length = names.length ∧ wpSts W n F ρ μ' names.reverse ys.reverse fun ρ' => K (.next ρ'))
    (hw : swappedStores [.Tuple elts k tpos] value F.env = pure (some names))
    (hs : swapsWithSole [.Tuple elts k tpos] value pos.line F.env = pure false := by rfl) : wpX W n F ρ μ (.Assign [.Tuple elts k tpos] value pos) K := by
  refine ⟨fun A g s hA hg hf Q hQ => ?_⟩
  refine PyProof.Rows.Assign_Tuple_swapped (h.go A g s hA hg hf _ fun v g₁ μ₁ h₁ tk₁ hR₁ hg₁ nx₁ => ?_) hs hw
  obtain ⟨y, r, ys, rfl, hl, k⟩ := hR₁
  have hf₁ := hf.next hg₁ nx₁
  apply r.tup_elim; intro _ _ _ _ e1 e2 e3 r
  rename_i a o vs nn
  have hn : names.length = vs.toArray.size := by rw [List.size_toArray, r.length, hl]
  rw [hn]
  refine PyProof.Rows.unpackItems_tuple hA.handled ⟨o, hg₁.le _ _ e1, e2, nn, e3⟩ fun h' hx => ?_
  obtain ⟨hg', nx⟩ := hg₁.keeps (h' := h') fun b o' e => hx b o' (Nat.ne_of_lt (Heap.lt_size e)) e
  exact k.go A g₁ _ _ hA hg' (hf₁.next hg' nx) r.reverse _ fun g₂ ρ₂ μ₂ h₂ tk₂ hK₂ hg₂ hf₂ nx₂ => hQ _ (.next ρ₂) _ _ _ _ hK₂ ⟨rfl, hf₂⟩ hg₂ ((nx₁.trans nx).weak0.trans nx₂)

/-! ## entering a def -/
inductive RepB (P : Params) (g : G) : List (Str × Value) → Loc → Prop
  | nil : RepB P g [] []
  | cons {x : Str} {v : Value} {y : V} {bs : List (Str × Value)} {ρ : Loc} : Rep P g v y → RepB P g bs ρ → RepB P g ((x, v) :: bs) ((x, y) :: ρ)
theorem RepB.names {P : Params} {g : G} {bs ρ} (h : RepB P g bs ρ) : bs.map (·.1) = ρ.map (·.1) := by
  induction h with
  | nil => rfl
  | cons _ _ ih => rw [List.map_cons, List.map_cons, ih]
theorem bindL_keep {kindOf : Str → Option NameKind} {z : Str} : ∀ (bs : List (Str × Value)) (m : Str → Option Value), z ∉ bs.map (·.1) → bindL kindOf bs m z = m z
  | [], _, _ => rfl
  | (x, v) :: bs, m, h => by
    rw [List.map_cons, List.mem_cons, not_or] at h
    unfold bindL
    rw [bindL_keep bs _ h.2]
    split
    · exact if_neg h.1
    · rfl
theorem bindC_keep {kindOf : Str → Option NameKind} {z : Str} : ∀ (bs : List (Str × Value)) (m : Str → Option Value), z ∉ bs.map (·.1) → bindC kindOf bs m z = m z
  | [], _, _ => rfl
  | (x, v) :: bs, m, h => by
    rw [List.map_cons, List.mem_cons, not_or] at h
    unfold bindC
    rw [bindC_keep bs _ h.2]
    split
    · rfl
    · exact if_neg h.1
theorem bindL_get {P : Params} {g : G} {kindOf : Str → Option NameKind} {z : Str} {y : V} (hk : kindOf z = some .local) : ∀ {bs : List (Str × Value)} {ρ : Loc} (m : Str → Option Value), RepB P g bs ρ → (ρ.map (·.1)).Nodup → ρ.lookup z = some y → ∃ v, bindL kindOf bs m z = some v ∧ Rep P g v y := by
  intro bs ρ m h
  induction h generalizing m with
  | nil => intro _ e; cases e
  | @cons x v y' bs ρ r b ih =>
    intro nd e
    rw [List.map_cons, List.nodup_cons] at nd
    by_cases q : z = x
    · subst q
      rw [lookup_cons_eq] at e; cases e
      refine ⟨v, ?_, r⟩
      unfold bindL
      rw [bindL_keep _ _ (by rw [b.names]; exact nd.1), if_pos hk]
      exact if_pos rfl
    · rw [lookup_cons_ne q] at e
      unfold bindL
      exact ih _ nd.2 e
theorem bindC_get {P : Params} {g : G} {kindOf : Str → Option NameKind} {z : Str} {y : V} (hk : kindOf z ≠ some .local) : ∀ {bs : List (Str × Value)} {ρ : Loc} (m : Str → Option Value), RepB P g bs ρ → (ρ.map (·.1)).Nodup → ρ.lookup z = some y → ∃ v, bindC kindOf bs m z = some v ∧ Rep P g v y := by
  intro bs ρ m h
  induction h generalizing m with
  | nil => intro _ e; cases e
  | @cons x v y' bs ρ r b ih =>
    intro nd e
    rw [List.map_cons, List.nodup_cons] at nd
    by_cases q : z = x
    · subst q
      rw [lookup_cons_eq] at e; cases e
      refine ⟨v, ?_, r⟩
      unfold bindC
      rw [bindC_keep _ _ (by rw [b.names]; exact nd.1), if_neg hk]
      exact if_pos rfl
    · rw [lookup_cons_ne q] at e
      unfold bindC
      exact ih _ nd.2 e

noncomputable def retK (K : V → Mem → Prop) : Out → Mem → Prop
  | .ret y => K y
  | .next _ => K .none
  | _ => fun _ => False

noncomputable def cellNames (sc : Scope) : List Str := (sc.names.filter fun q => q.2 == .cell).map (·.1)
/-- the binding of a call's arguments -/
noncomputable def Binds (W : Wd) (fd : FuncData) (xs : List V) (ρ₀ : Loc) : Prop := ∀ (g : G) (vs : List Value), Reps W.P g vs xs → ∀ s : Shared, (Mine.hd.heap_39 W.w.params).In s.heap → ∃ bs, BindsTo s fd ⟨vs, []⟩ bs ∧ RepB W.P g bs ρ₀
noncomputable def okNames (sc : Scope) (names : List Str) : Bool :=
  names.all fun x => sc.names.lookup x == some .local || (sc.names.lookup x == some .cell && (cellNames sc).contains x)
theorem cellsFrom_mem : ∀ (names : List (Str × NameKind)) (k : Nat) (acc : List (Str × Addr)) (x : Str), ((cellsFrom k names acc).lookup x).isSome = true ↔ (x ∈ (names.filter fun q => q.2 == .cell).map (·.1) ∨ (acc.lookup x).isSome = true)
  | [], k, acc, x => by simp [cellsFrom]
  | (z, kd) :: r, k, acc, x => by
    unfold cellsFrom
    by_cases hk : (kd == .cell) = true
    · rw [if_pos hk, cellsFrom_mem r, List.filter_cons, if_pos (by exact hk), List.map_cons, List.mem_cons, List.lookup_cons]
      by_cases q : x = z
      · subst q; simp
      · rw [beq_eq_false_iff_ne.mpr q]; simp [q]
    · rw [if_neg hk, cellsFrom_mem r, List.filter_cons, if_neg (by exact hk)]

/-- the call of a value, as code -/
structure wpC (W : Wd) (n : Nat) (f : V) (xs : List V) (μ : Mem) (K : V → Mem → Prop) : Prop where
  go : ∀ (fv : Value) (vs : List Value) (A : Around) (g : G) (s : Shared), Room n A → GSt W g μ s.heap → (Rep W.P g fv f ∧ Reps W.P g vs xs) → ∀ Q : Value → Shared → Prop,
    (∀ a g' μ' h' tk', VK W K g' a μ' → GSt W g' μ' h' → Nx [] g μ s.heap g' μ' h' → Q a { s with heap := h', toks := tk' }) → codeAny W.M A (.call fv ⟨vs, []⟩) (fun r s' => match r with | .ok (.ret v) => Q v s' | .ok _ => False | .error e => False) s
theorem wpC.toF {f : V} {xs : List V} {K : V → Mem → Prop} (h : wpC W n f xs μ K) : wpF W n f xs μ K :=
  ⟨fun fv vs A g s hA hg hp Q hQ => wpAny_call (h.go fv vs A g s hA hg hp Q hQ)⟩
theorem C_def (names : List Str) {f : Addr} {oc : Value} {od : Option Addr} {osl : Array (Option Value)} {name qual : Str} {params : Arguments} {body : List Stmt} {scope : Scope} {dV kV doc pm cdv ct : Value} {an : Option Addr} {xs : List V} {ρ₀ : Loc} {K : V → Mem → Prop}
    (ho : (Mine.hd.heap_39 W.w.params).lookup f = some ⟨oc, od, .func (fnOf name qual params body scope dV kV doc pm an cdv ct), osl⟩) (hcode : codeIn (Mine.hd.heap_39 W.w.params) cdv qual = true)
    (hk : scope.kind = .function) (hco : scope.isCoroutine = false) (hgen : scope.isGenerator = false)
    (hn : ρ₀.map (·.1) = names) (hnd : names.Nodup) (hok : okNames scope names = true) (hb : Binds W (fnOf name qual params body scope dV kV doc pm an cdv ct) xs ρ₀)
    (h : ∀ L, wpS W n ⟨envOfC qual scope L f cdv, cellNames scope, []⟩ ρ₀ μ body (retK K)) : wpC W (n + 1) (.raw (.ref f)) xs μ K := by
  subst hn
  refine ⟨fun fv vs A g s hA hg hp Q hQ => ?_⟩
  obtain ⟨hfv, hvs⟩ := hp
  apply hfv.raw_elim
  obtain ⟨bs, hbs, hrb⟩ := hb g vs hvs s hg.K
  refine codeAny_call_function hA.d (hg.K _ _ ho) rfl hco hgen rfl (codeRec_of hg.K hcode) (hbs _ _ _ _ ?_)
  have hok' := List.all_eq_true.mp hok
  refine wpAny_newFunctionEnv_cells hk (fun z hz => ?_) fun env he s₁ X => ?_
  · have := hok' z.1 (by rw [← hrb.names]; exact List.mem_map_of_mem hz)
    simp only [Bool.or_eq_true, Bool.and_eq_true, beq_iff_eq, List.contains_iff_mem] at this
    rcases this with q | ⟨q1, q2⟩
    · exact .inl q
    · exact .inr ⟨q1, (cellsFrom_mem _ _ _ _).mpr (.inl q2)⟩
  · subst he
    have hI := X.toInCall
    obtain ⟨h₁, tk₁, rfl⟩ := hI.same
    refine ⟨hg.top.nolimit.keeps hI.keep, codeAny_func ?_⟩
    obtain ⟨hg₁, nx₁⟩ := hg.keeps (h' := h₁) hI.keep
    have old : ∀ a, s.heap.objs.size ≤ a → s.heap.get? a = none := fun a ha => by
      cases e : s.heap.get? a with
      | none => rfl
      | some o' => exact absurd (Heap.lt_size e) (Nat.not_lt.mpr ha)
    have off : ∀ a, s.heap.objs.size ≤ a → g a = none ∧ a ∉ addrs μ := fun a ha => hg.fresh (old a ha)
    have hf₁ : FSt W g ⟨envOfC qual scope s.heap.objs.size f cdv, cellNames scope, []⟩ ρ₀ μ h₁ := by
      refine ⟨hk, rfl, rfl, ⟨_, hI.ns, fun z y e1 e2 => ?_⟩, fun z y e1 e2 => ?_, fun z c e => ?_, fun a ha => ?_, fun z hz => (nomatch hz), fun x y c e1 e2 => name_of_addr X.apart (mem_of_lookup e1) (mem_of_lookup e2), fun z hz => (nomatch hz)⟩
      · exact bindL_get e2 _ hrb hnd e1
      · have hz : z ∈ ρ₀.map (·.1) := List.mem_map_of_mem (mem_of_lookup (α := V) e1)
        have q := hok' z hz
        have hnl : (envOfC qual scope s.heap.objs.size f cdv).kindOf z ≠ some .local := fun q => by
          have e2' : isCellKind ((envOfC qual scope s.heap.objs.size f cdv).kindOf z) = true := e2
          rw [q] at e2'; exact absurd e2' (by decide)
        simp only [Bool.or_eq_true, Bool.and_eq_true, beq_iff_eq, List.contains_iff_mem] at q
        rcases q with q | ⟨q1, q2⟩
        · exact absurd q hnl
        · obtain ⟨c, hc⟩ := Option.isSome_iff_exists.mp ((cellsFrom_mem scope.names (s.heap.objs.size + 1) [] z).mpr (.inl q2))
          obtain ⟨v, h1, h2⟩ := bindC_get hnl (fun _ => none) hrb hnd e1
          obtain ⟨o, h3, h4⟩ := X.cell z c hc
          exact ⟨c, o, v, hc, h3, h1 ▸ h4, h2⟩
      · have ab := X.above z c (mem_of_lookup e)
        obtain ⟨o, h3, h4⟩ := X.cell z c e
        exact ⟨⟨o, _, h3, h4⟩, (off c (Nat.le_of_lt ab)).2, Nat.ne_of_gt ab⟩
      · rcases List.mem_cons.mp ha with rfl | ha
        · exact off _ (Nat.le_refl _)
        · obtain ⟨z, _, e⟩ := List.mem_filterMap.mp ha
          exact off _ (Nat.le_of_lt (X.above z a (mem_of_lookup e)))
    refine wpAny_mono ((h s.heap.objs.size).go _ g _ hA.deeper hg₁ hf₁ (fun fl s' => match (generalizing := true) fl with | .ret v => Q v s' | _ => Q .none s') fun fl o g₂ μ₂ h₂ tk₂ hK hfl hg₂ nx₂ => ?_) (fun fl s' hq => by cases fl <;> exact hq) fun _ _ e => e.elim
    have own : ∀ a ∈ Fm.own ⟨envOfC qual scope s.heap.objs.size f cdv, cellNames scope, []⟩, s.heap.get? a = none := fun a ha => by
      rcases List.mem_cons.mp ha with rfl | ha
      · exact old _ (Nat.le_refl _)
      · obtain ⟨z, _, e⟩ := List.mem_filterMap.mp ha
        exact old _ (Nat.le_of_lt (X.above z a (mem_of_lookup e)))
    have nx : Nx [] g μ s.heap g₂ μ₂ h₂ := by
      have t := (nx₁.weak0 (T := Fm.own ⟨envOfC qual scope s.heap.objs.size f cdv, cellNames scope, []⟩)).trans nx₂
      exact ⟨t.gle, fun a o e => (t.gfr a o e).imp id (Or.imp id fun q => q.elim (fun q => .inr (own a q)) .inr), fun a e => (t.mfr a e).imp id fun q => q.elim (fun q => .inr (own a q)) .inr,
        fun a o h1 _ e => t.step a o h1 (fun q => by rw [own a q] at e; cases e) e, fun a o _ e => t.alive a o (fun q => by rw [own a q] at e; cases e) e⟩
    cases o with
    | ret y => obtain ⟨v, rfl, r⟩ := hfl; exact hQ _ _ _ _ _ ⟨y, r, hK⟩ hg₂ nx
    | next ρ' => obtain ⟨rfl, _⟩ := hfl; exact hQ _ _ _ _ _ ⟨.none, .none, hK⟩ hg₂ nx
    | brk ρ' => exact hK.elim
    | cont ρ' => exact hK.elim
theorem F_def (names : List Str) {f : Addr} {oc : Value} {od : Option Addr} {osl : Array (Option Value)} {name qual : Str} {params : Arguments} {body : List Stmt} {scope : Scope} {dV kV doc pm cdv ct : Value} {an : Option Addr} {xs : List V} {ρ₀ : Loc} {K : V → Mem → Prop}
    (ho : (Mine.hd.heap_39 W.w.params).lookup f = some ⟨oc, od, .func (fnOf name qual params body scope dV kV doc pm an cdv ct), osl⟩) (hcode : codeIn (Mine.hd.heap_39 W.w.params) cdv qual = true)
    (hk : scope.kind = .function) (hco : scope.isCoroutine = false) (hgen : scope.isGenerator = false)
    (hn : ρ₀.map (·.1) = names) (hnd : names.Nodup) (hok : okNames scope names = true) (hb : Binds W (fnOf name qual params body scope dV kV doc pm an cdv ct) xs ρ₀)
    (h : ∀ L, wpS W n ⟨envOfC qual scope L f cdv, cellNames scope, []⟩ ρ₀ μ body (retK K)) : wpF W (n + 1) (.raw (.ref f)) xs μ K :=
  (C_def names ho hcode hk hco hgen hn hnd hok hb h).toF
end
end
section
section
variable {W : Wd} {n : Nat} {F : Fm} {ρ : Loc} {μ : Mem} {pos : Pos}

/-! ## calls -/
/-- a value that may stand in a call's head -/
noncomputable def Callable (W : Wd) (f : V) : Prop := ∀ (g : G) (h : Heap) (v : Value), (Mine.hd.heap_39 W.w.params).In h → GLe g (hG h) → Rep W.P g v f → ∃ k, (k = Keeper.frame ∨ k = Keeper.machine ∨ k = Keeper.boundFrame) ∧ Looks W.M h (keeperOf v) k
theorem callable_K {a : Addr} (h : keepIn (Mine.hd.heap_39 W.w.params) (.ref a) = true) : Callable W (.raw (.ref a)) := fun g hp v X _ r => by apply r.raw_elim; exact keeps_K h hp X
theorem callable_b {id : String} : Callable W (.raw (.builtin id)) := fun g hp v X _ r => by apply r.raw_elim; exact ⟨.machine, .inr (.inl rfl), Looks.of_pure rfl⟩
theorem callable_t {id : String} : Callable W (.raw (.type id)) := fun g hp v X _ r => by apply r.raw_elim; exact ⟨.machine, .inr (.inl rfl), Looks.of_pure rfl⟩
theorem callable_clo {fd : FuncData} {cs : List (Str × V)} : Callable W (.clo fd cs) := fun g hp v X k r => by
  apply r.clo_elim; intro _ _ e1 e2 _ _
  rename_i a o
  refine ⟨.frame, .inl rfl, (Looks.ld (part := none) (k _ _ e1)).andThen ?_⟩
  rw [e2]; exact .now

theorem E_Call {func e : Expr} {args : List Expr} {K : V → Mem → Prop} (h : wpE W n F ρ μ func fun f μ₁ => Callable W f ∧ wpEs W n F ρ μ₁ pos (e :: args) fun xs μ₂ => wpF W n f xs μ₂ K)
    (hs : starEach (e :: args) F.env = (false, eval e F.env) :: starEach args F.env := by rfl) (hp : (backTo pos (starEach args F.env)).any (·.1) = false := by rfl)
    (he : eval (.Call func (e :: args) [] pos) F.env = (do callWith pos (← eval func F.env) [] (backTo pos (starEach (e :: args) F.env)) (backToKw pos (keywordEach [] F.env))) := by rfl) : wpE W n F ρ μ (.Call func (e :: args) [] pos) K := by
  refine ⟨fun A g s hA hg hf Q hQ => ?_⟩
  refine PyProof.Rows.Call_ (h.go A g s hA hg hf _ fun v g₁ μ₁ h₁ tk₁ hR₁ hg₁ nx₁ => ?_) he
  obtain ⟨f, r, hcal, k⟩ := hR₁
  have hf₁ := hf.next hg₁ nx₁
  refine callWith_of (P := fun h => ∃ k, (k = Keeper.frame ∨ k = Keeper.machine ∨ k = Keeper.boundFrame) ∧ Looks W.M h (keeperOf v) k) (by rw [hs]; show ((false || (backTo pos (starEach args F.env)).any (·.1)) || false) = false; rw [hp]; rfl) (fun _ x => x) ?_
  rw [hs]
  refine Calls.evalArgs_plain (show wpAny _ _ (spliced (backTo pos ((false, eval e F.env) :: starEach args F.env))) _ _ _ from ?_)
  rw [← hs]
  refine k.go A g₁ _ hA hg₁ hf₁ _ fun vs g₂ μ₂ h₂ tk₂ hR₂ hg₂ nx₂ => ?_
  obtain ⟨ys, rs, _, k₂⟩ := hR₂
  exact ⟨hcal g₂ _ v hg₂.K hg₂.le (r.mono nx₂.gle), k₂.go v vs A g₂ _ hA hg₂ ⟨r.mono nx₂.gle, rs⟩ _ fun x g₃ μ₃ h₃ tk₃ hR₃ hg₃ nx₃ => hQ _ _ _ _ _ hR₃ hg₃ ((nx₁.trans nx₂).trans nx₃)⟩
/-- a method of a value -/
structure methT (W : Wd) (n : Nat) (y : V) (nm : Str) (μ : Mem) (f : V) (first : List V) : Prop where
  go : ∀ v pl, TrG W n (fun g => Rep W.P g v y) μ (getMethod v nm pl) fun g r μ' => μ' = μ ∧ Rep W.P g r.1 f ∧ Reps W.P g r.2 first
theorem E_MCall {o e : Expr} {nm : Str} {apos : Pos} {args : List Expr} {pl : Sem Bool} {K : V → Mem → Prop} (h : wpE W n F ρ μ o fun y μ₁ => ∃ f first, methT W n y nm μ₁ f first ∧ Callable W f ∧ wpEs W n F ρ μ₁ pos (e :: args) fun xs μ₂ => wpF W n f (first ++ xs) μ₂ K)
    (hs : starEach (e :: args) F.env = (false, eval e F.env) :: starEach args F.env := by rfl) (hp : (backTo pos (starEach args F.env)).any (·.1) = false := by rfl)
    (he : eval (.Call (.Attribute o nm apos) (e :: args) [] pos) F.env = (do
      let ov ← eval o F.env
      standAt apos.atName
      let (f, first) ← holding [ov] (getMethod ov nm pl)
      callWith pos f first (backTo pos (starEach (e :: args) F.env)) (backToKw pos (keywordEach [] F.env))) := by rfl) : wpE W n F ρ μ (.Call (.Attribute o nm apos) (e :: args) [] pos) K := by
  refine ⟨fun A g s hA hg hf Q hQ => ?_⟩
  refine methodCall_KW (h.go A g s hA hg hf _ fun v g₁ μ₁ h₁ tk₁ hR₁ hg₁ nx₁ => ?_) he
  obtain ⟨y, r, f, first, hm, hcal, k⟩ := hR₁
  refine hm.go v pl A g₁ _ hA hg₁ r _ fun fx g₂ μ₂ h₂ tk₂ hR₂ hg₂ nx₂ => ?_
  obtain ⟨rfl, rf, rfs⟩ := hR₂
  refine callWith_of (P := fun h => ∃ k, (k = Keeper.frame ∨ k = Keeper.machine ∨ k = Keeper.boundFrame) ∧ Looks W.M h (keeperOf fx.1) k) (by rw [hs]; show ((false || (backTo pos (starEach args F.env)).any (·.1)) || false) = false; rw [hp]; rfl) (fun _ x => x) ?_
  rw [hs]
  refine Calls.evalArgs_plain (show wpAny _ _ (spliced (backTo pos ((false, eval e F.env) :: starEach args F.env))) _ _ _ from ?_)
  rw [← hs]
  refine k.go A g₂ _ hA hg₂ (hf.next hg₂ (nx₁.trans nx₂)) _ fun vs g₃ μ₃ h₃ tk₃ hR₃ hg₃ nx₃ => ?_
  obtain ⟨ys, rs, _, k₂⟩ := hR₃
  have rf' := rf.mono nx₃.gle
  exact ⟨hcal g₃ _ _ hg₃.K hg₃.le rf', k₂.go fx.1 (fx.2 ++ vs) A g₃ _ hA hg₃ ⟨rf', (rfs.mono nx₃.gle).append rs⟩ _ fun x g₄ μ₄ h₄ tk₄ hR₄ hg₄ nx₄ => hQ _ _ _ _ _ hR₄ hg₄ (((nx₁.trans nx₂).trans nx₃).trans nx₄)⟩
/-! ## what a mutable object holds -/
theorem mem_of_mlookup {a : Addr} {m : M} : ∀ {μ : Mem}, μ.lookup a = some m → (a, m) ∈ μ
  | (b, x) :: r, h => by
    rw [List.lookup_cons] at h
    cases hb : a == b with
    | true => rw [hb] at h; cases h; rw [beq_iff_eq.mp hb]; exact List.mem_cons_self
    | false => rw [hb] at h; exact List.mem_cons_of_mem _ (mem_of_mlookup h)
theorem GSt.get {g h} (x : GSt W g μ h) {a : Addr} {m : M} (e : μ.lookup a = some m) : ∃ o, h.get? a = some o ∧ MRep W.P g o m := x.mem _ (mem_of_mlookup e)
theorem addr_of_mlookup {a : Addr} {m : M} {μ : Mem} (e : μ.lookup a = some m) : a ∈ addrs μ := List.mem_map_of_mem (mem_of_mlookup e)

/-! ## attributes of instances -/
theorem RepD.getL_some {P : Params} {g : G} {nm : Str} {y : V} {es : List DictEntry} {Es : List (Str × V)} (h : RepD P g es Es) : Es.lookup nm = some y → ∃ v, getL nm es = some (some v) ∧ Rep P g v y := by
  refine RepD.ind (p := fun es Es => Es.lookup nm = some y → ∃ v, getL nm es = some (some v) ∧ Rep P g v y) (fun e => nomatch e) (fun {x t v _ es ys} r b e => ?_) h
  by_cases q : nm = x
  · subst q
    rw [List.lookup_cons, beq_self_eq_true] at e; cases e
    refine ⟨v, ?_, r⟩
    unfold getL
    rw [List.find?_cons, show (Value.str nm t).isStr nm = true from beq_self_eq_true nm]
  · rw [List.lookup_cons, beq_eq_false_iff_ne.mpr q] at e
    obtain ⟨u, h1, h2⟩ := b e
    refine ⟨u, ?_, h2⟩
    unfold getL at h1 ⊢
    rw [List.find?_cons, show (Value.str x t).isStr nm = false from beq_eq_false_iff_ne.mpr (Ne.symm q)]
    exact h1
theorem RepD.getL_none {P : Params} {g : G} {nm : Str} {es : List DictEntry} {Es : List (Str × V)} (h : RepD P g es Es) : Es.lookup nm = none → getL nm es = some none := by
  refine RepD.ind (p := fun es Es => Es.lookup nm = none → getL nm es = some none) (fun _ => rfl) (fun {x t v _ es ys} r b e => ?_) h
  by_cases q : nm = x
  · subst q
    rw [List.lookup_cons, beq_self_eq_true] at e; cases e
  · rw [List.lookup_cons, beq_eq_false_iff_ne.mpr q] at e
    have h1 := b e
    unfold getL at h1 ⊢
    rw [List.find?_cons, show (Value.str x t).isStr nm = false from beq_eq_false_iff_ne.mpr (Ne.symm q)]
    exact h1
noncomputable def vHanded : V → Bool
  | .raw v => handedIn v
  | _ => true
theorem handed_of {P : Params} {g : G} {v : Value} {y : V} (r : Rep P g v y) (h : vHanded y = true) : handedIn v = true := by
  cases r <;> first | rfl | exact h

/-- an attribute read -/
structure attrT (W : Wd) (n : Nat) (y : V) (nm : Str) (μ : Mem) (K : V → Mem → Prop) : Prop where
  go : ∀ v, TrG W n (fun g => Rep W.P g v y) μ (getAttr v nm true) (VK W K)
theorem E_Attr {value : Expr} {nm : Str} {K : V → Mem → Prop} (h : wpE W n F ρ μ value fun y μ₁ => attrT W n y nm μ₁ K)
    (he : eval (.Attribute value nm pos) F.env = (do
      let o ← eval value F.env
      standAt pos.atName
      let r ← holding [o] (getAttr o nm true)
      letTemporaryGo value o r
      pure r) := by rfl) : wpE W n F ρ μ (.Attribute value nm pos) K := by
  refine ⟨fun A g s hA hg hf Q hQ => ?_⟩
  refine Attribute_any_ (h.go A g s hA hg hf _ fun v g₁ μ₁ h₁ tk₁ hR₁ hg₁ nx₁ => ?_) he
  obtain ⟨y, r, k⟩ := hR₁
  exact k.go v A g₁ _ hA hg₁ r _ fun x g₂ μ₂ h₂ tk₂ hR₂ hg₂ nx₂ => hQ _ _ _ _ _ hR₂ hg₂ (nx₁.trans nx₂)

/-- what the class says of a plain field -/
structure OwnField (W : Wd) (C : Addr) (nm : Str) : Prop where
  plain : plainGet (Mine.hd.heap_39 W.w.params) C nm = true
  dict : hasDictIn (Mine.hd.heap_39 W.w.params) C = true
  attr : ∃ a, findIn (Mine.hd.heap_39 W.w.params) (.ref C) nm = some a ∧ noGet (Mine.hd.heap_39 W.w.params) a = true
theorem attr_inst {C : Addr} {fs : List (Str × V)} {nm : Str} {y : V} {K : V → Mem → Prop} (hc : OwnField W C nm) (hl : fs.lookup nm = some y) (hh : vHanded y = true) (h : K y μ) : attrT W n (.inst C fs) nm μ K :=
  ⟨fun v => .still fun A g s Q hA hg hp hQ => by
    apply hp.inst_elim; intro _ _ _ _ e1 e2 rd
    rename_i x dx es k
    obtain ⟨u, h1, h2⟩ := rd.getL_some hl
    obtain ⟨a, ha, hn⟩ := hc.attr
    exact get_value (od := some (dictOf es k)) hg.K ⟨hg.le _ _ e1, rfl, rfl, hg.le _ _ e2⟩ (plainGet_of hc.plain).1 (findObj_own hc.dict ha hn (by rw [lookIn_dict]; exact h1)) (handed_of h2 hh) (hQ _ _ ⟨y, h2, h⟩)⟩
/-- what the class says of a method -/
structure OwnMeth (W : Wd) (C : Addr) (nm : Str) (f : Addr) : Prop where
  plain : plainGet (Mine.hd.heap_39 W.w.params) C nm = true
  attr : findIn (Mine.hd.heap_39 W.w.params) (.ref C) nm = some (some (.ref f))
  fn : isFn (Mine.hd.heap_39 W.w.params) (.ref f) = true
theorem meth_inst {C f : Addr} {fs : List (Str × V)} {nm : Str} (hc : OwnMeth W C nm f) (hl : fs.lookup nm = none) : methT W n (.inst C fs) nm μ (.raw (.ref f)) [.inst C fs] :=
  ⟨fun v pl => .still fun A g s Q hA hg hp hQ => by
    have hp' := hp
    cases hp with
    | inst e1 e2 rd =>
      rename_i x dx es k
      have pg := plainGet_of hc.plain
      refine method_fn (od := some (dictOf es k)) hg.K ⟨hg.le _ _ e1, rfl, rfl, hg.le _ _ e2⟩ pg.1 pg.2 hc.attr (beq_iff_eq.mp hc.fn) ?_ (hQ _ s.toks ⟨rfl, .raw _, .one hp'⟩)
      show (lookIn nm (dictOf es k)).map _ = _
      rw [lookIn_dict, rd.getL_none hl]; rfl⟩
theorem meth_append {a : Addr} {ys : List V} (hm : μ.lookup a = some (.lst ys)) : methT W n (.raw (.ref a)) "append" μ (.raw (.builtin "list.append")) [.raw (.ref a)] :=
  ⟨fun v pl => .still fun A g s Q hA hg hp hQ => by
    apply hp.raw_elim
    obtain ⟨o, ho, hr⟩ := hg.get hm
    apply hr.lst_elim; intro _ _ c1 c2 c3 c4 c5 c6
    exact Calls.getMethod_list_append ho c1 c4 (hQ _ s.toks ⟨rfl, .raw _, .one (.raw _)⟩)⟩
theorem F_append {a : Addr} {ys : List V} {y : V} {K : V → Mem → Prop} (hm : μ.lookup a = some (.lst ys)) (hsz : ys.length ≤ sizeLine) (h : K .none (mset μ a (.lst (ys ++ [y])))) : wpF W n (.raw (.builtin "list.append")) [.raw (.ref a), y] μ K := by
  refine ⟨fun fv vs A g s hA hg hp Q hQ => ?_⟩
  obtain ⟨h1, h2⟩ := hp
  apply h1.raw_elim
  apply h2.cons_elim; intro _ _ ra r2
  apply ra.raw_elim
  cases r2 with
  | @cons w₁ _ _ _ r r3 =>
    apply r3.nil_elim
    obtain ⟨o, ho, hr⟩ := hg.get hm
    apply hr.lst_elim; intro _ _ c1 c2 c3 c4 c5 c6
    rename_i ws k
    -- by hand: the object itself is wanted behind the step
    refine wpAny_call_entry slot_list_append (show Shared.TypeIs s (.ref a) "list" from ⟨o, ho, c1⟩) entry_list_append ?_ (args_list_append _ _)
    show wpAny _ _ (updateSeq a (·.push w₁) >>= fun _ => ret .none) _ _ s
    refine wpAny_bind (wpAny_updateSeq ho c2 (wpAny_pure ⟨.none, rfl, ?_⟩) (by rw [List.size_toArray, c6.length]; exact hsz) (by rw [Array.size_push, List.size_toArray, c6.length]; lia))
    obtain ⟨n', hd'⟩ := Obj.data_mapSeq c2 (·.push w₁)
    obtain ⟨hg', nx⟩ := hg.turn (h' := s.heap.update a (Obj.mapSeq (·.push w₁))) (m := .lst (ys ++ [y])) (addr_of_mlookup hm) (Heap.get?_update_self _ ho (Obj.isFreed_of_seq hd'))
      (.lst ((Obj.cls_mapSeq ..).trans c1) (vs := ws ++ [w₁]) (by rw [hd']; congr 1; simp) (Obj.isFreed_of_seq hd') (by cases o; simp only at c2; subst c2; exact c4) (by cases o; simp only at c2; subst c2; exact c5) (c6.append (.one r)))
      fun b o' e1 e2 => (Heap.get?_update_ne _ _ _ _ e1).trans e2
    exact hQ _ _ _ _ s.toks ⟨_, .none, h⟩ hg' nx

/-! ## places -/
structure subT (W : Wd) (n : Nat) (value slice : Expr) (o i : V) (μ : Mem) (K : V → Mem → Prop) : Prop where
  go : ∀ v u, TrG W n (fun g => Rep W.P g v o ∧ Rep W.P g u i) μ (subscriptTail value slice v u) (VK W K)
theorem E_Sub {value slice : Expr} {K : V → Mem → Prop} (h : wpE W n F ρ μ value fun o μ₁ => wpE W n F ρ μ₁ slice fun i μ₂ => subT W n value slice o i μ₂ K) : wpE W n F ρ μ (.Subscript value slice pos) K := by
  refine ⟨fun A g s hA hg hf Q hQ => ?_⟩
  refine PyProof.Rows.Subscript_ (h.go A g s hA hg hf _ fun v g₁ μ₁ h₁ tk₁ hR₁ hg₁ nx₁ => ?_)
  obtain ⟨a, r1, k1⟩ := hR₁
  refine k1.go A g₁ _ hA hg₁ (hf.next hg₁ nx₁) _ fun u g₂ μ₂ h₂ tk₂ hR₂ hg₂ nx₂ => ?_
  obtain ⟨b, r2, k2⟩ := hR₂
  exact k2.go v u A g₂ _ hA hg₂ ⟨r1.mono nx₂.gle, r2⟩ _ fun x g₃ μ₃ h₃ tk₃ hR₃ hg₃ nx₃ => hQ _ _ _ _ _ hR₃ hg₃ ((nx₁.trans nx₂).trans nx₃)
theorem sub_tup {value slice : Expr} {ys : List V} {k : Int} {j : Nat} {y : V} {K : V → Mem → Prop} (hj : seqIndex? k ys.length = some j) (hy : ys[j]? = some y) (h : K y μ) (hlo : -(2 ^ 63) ≤ k := by decide) (hhi : k < 2 ^ 63 := by decide)
    (hs : ∀ o i, subscripted slice false o i = operate [o, i] (getItem o i) := by intro _ _; rfl) : subT W n value slice (.tup ys) (.int k) μ K :=
  ⟨fun v u => .still fun A g s Q hA hg hp hQ => by
    obtain ⟨a, b⟩ := hp
    apply b.int_elim; intro _
    apply a.tup_elim; intro _ _ _ _ e1 e2 e3 r
    obtain ⟨x, h1, h2⟩ := r.get hy
    exact item_tupleT ⟨_, hg.le _ _ e1, e2, _, e3⟩ hlo hhi (by rw [r.length]; exact hj) h1 (hQ _ s.toks ⟨y, h2, h⟩) (hs _ _)⟩
theorem sub_lst {value slice : Expr} {ys : List V} {k : Int} {y : V} {K : V → Mem → Prop} (h0 : 0 ≤ k) (hhi : k < 2 ^ 63) (hy : ys[k.toNat]? = some y) (h : K y μ)
    (hs : ∀ o i, subscripted slice false o i = operate [o, i] (getItem o i) := by intro _ _; rfl) : subT W n value slice (.lst ys) (.int k) μ K :=
  ⟨fun v u => .still fun A g s Q hA hg hp hQ => by
    obtain ⟨a, b⟩ := hp
    apply b.int_elim; intro _
    apply a.lst_elim; intro _ _ _ _ e1 e2 e3 e4 r
    obtain ⟨x, h1, h2⟩ := r.get hy
    have hl : s.heap.IsList _ _ := ⟨_, hg.le _ _ e1, e2, _, e3⟩
    exact tail_any hl.typeIs slot_list_getitem.lookup (wpAny_getItem_list hl h0 hhi (by simpa using h1) (hQ _ s.toks ⟨y, h2, h⟩)) (hs _ _)⟩
theorem sub_mlst {value slice : Expr} {a : Addr} {ys : List V} {k : Int} {y : V} {K : V → Mem → Prop} (hm : μ.lookup a = some (.lst ys)) (h0 : 0 ≤ k) (hhi : k < 2 ^ 63) (hy : ys[k.toNat]? = some y) (h : K y μ)
    (hs : ∀ o i, subscripted slice false o i = operate [o, i] (getItem o i) := by intro _ _; rfl) : subT W n value slice (.raw (.ref a)) (.int k) μ K :=
  ⟨fun v u => .still fun A g s Q hA hg hp hQ => by
    obtain ⟨q, b⟩ := hp
    apply b.int_elim; intro _; apply q.raw_elim
    obtain ⟨o, ho, hr⟩ := hg.get hm
    apply hr.lst_elim; intro _ _ c1 c2 c3 c4 c5 c6
    obtain ⟨x, h1, h2⟩ := c6.get hy
    have hl : s.heap.IsList a _ := ⟨_, ho, c1, _, c2⟩
    exact tail_any hl.typeIs slot_list_getitem.lookup (wpAny_getItem_list hl h0 hhi (by simpa using h1) (hQ _ s.toks ⟨y, h2, h⟩)) (hs _ _)⟩
theorem sub_mlst_neg {value slice : Expr} {a : Addr} {ys : List V} {k : Int} {j : Nat} {y : V} {K : V → Mem → Prop} (hm : μ.lookup a = some (.lst ys)) (h0 : k < 0) (hlo : -(2 ^ 63) ≤ k) (hj : seqIndex? k ys.length = some j) (hy : ys[j]? = some y) (h : K y μ)
    (hs : ∀ o i, subscripted slice false o i = operate [o, i] (getItem o i) := by intro _ _; rfl) : subT W n value slice (.raw (.ref a)) (.int k) μ K :=
  ⟨fun v u => .still fun A g s Q hA hg hp hQ => by
    obtain ⟨q, b⟩ := hp
    apply b.int_elim; intro _; apply q.raw_elim
    obtain ⟨o, ho, hr⟩ := hg.get hm
    apply hr.lst_elim; intro _ _ c1 c2 c3 c4 c5 c6
    obtain ⟨x, h1, h2⟩ := c6.get hy
    exact kde_neg ⟨_, ho, c1, _, c2⟩ h0 hlo (by rw [c6.length]; exact hj) h1 (hQ _ s.toks ⟨y, h2, h⟩) (hs _ _)⟩
end
end
section
section
variable {W : Wd} {n : Nat} {F : Fm} {ρ : Loc} {μ : Mem} {pos : Pos}

/-! ## walks over items -/
noncomputable def ItemIs (P : Params) (g : G) (h h' : Heap) (v : Value) (y : V) : Prop :=
  Rep P g v y ∨ ∃ T o vs ys k, v = .ref T ∧ y = .tup ys ∧ h.get? T = none ∧ h'.get? T = some o ∧ o.cls = .type "tuple" ∧ o.data = .seq vs.toArray k ∧ Reps P g vs ys
structure Itr (W : Wd) (A : Around) (g : G) (target : Expr) (I : Addr) (fp wr : List Addr) (xs : List V) (St : Nat → Heap → Prop) : Prop where
  live : ∀ i h, St i h → ∀ b ∈ wr, ∃ o, h.get? b = some o
  frame : ∀ i h h', St i h → (∀ b ∈ fp, ∀ o, h.get? b = some o → h'.get? b = some o) → St i h'
  item : ∀ i y (s : Shared) (Q : Value → Shared → Prop) (E : Value → Shared → Prop), xs[i]? = some y → St i s.heap → (∀ a o, g a = some o → s.heap.get? a = some o) →
    (∀ v h' tk, ItemIs W.P g s.heap h' v y → St (i + 1) h' → (∀ b o, b ∉ wr → s.heap.get? b = some o → h'.get? b = some o) → Q v { s with heap := h', toks := tk }) →
    wpAny W.M A (pyNext (.ref I)) (fun r s₁ => ∃ v, r = some v ∧ wpAny W.M A (letOwnedTupleGo target (.ref I) v) (fun _ s₂ => Q v s₂) E s₁) E s
  done : ∀ (s : Shared) (Q : Option Value → Shared → Prop) (E : Value → Shared → Prop), St xs.length s.heap →
    (∀ h' tk, (∀ b o, b ∉ wr → s.heap.get? b = some o → h'.get? b = some o) → Q none { s with heap := h', toks := tk }) → wpAny W.M A (pyNext (.ref I)) Q E s
  self : ∀ i (s : Shared) (Q : Value → Shared → Prop) (E : Value → Shared → Prop), St i s.heap → Q (.ref I) s → wpAny W.M A (pyIter (.ref I)) Q E s

theorem GSt.item {g h h'} {wr : List Addr} {v : Value} {y : V} (x : GSt W g μ h) (hw : ∀ b ∈ wr, g b = none ∧ b ∉ addrs μ) (k : ∀ b o, b ∉ wr → h.get? b = some o → h'.get? b = some o) (it : ItemIs W.P g h h' v y) :
    ∃ g', GSt W g' μ h' ∧ Nx wr g μ h g' μ h' ∧ Rep W.P g' v y ∧ ∀ a o, g' a = some o → g a = some o ∨ h.get? a = none := by
  have kg : ∀ a o, g a = some o → h'.get? a = some o := fun a o e => k a o (fun q => by rw [(hw a q).1] at e; cases e) (x.le _ _ e)
  have km : ∀ q ∈ μ, ∃ o, h'.get? q.1 = some o ∧ MRep W.P g o q.2 := fun q hq => by
    obtain ⟨o, e1, e2⟩ := x.mem q hq
    exact ⟨o, k _ _ (fun r => (hw _ r).2 (List.mem_map_of_mem hq)) e1, e2⟩
  rcases it with r | ⟨T, o, vs, ys, kk, rfl, rfl, e1, e2, e3, e4, r⟩
  · exact ⟨g, ⟨x.base, kg, km, x.off, x.nd⟩, ⟨GLe.refl, fun _ _ e => .inl e, fun _ e => .inl e, fun a o _ h2 e => k a o h2 e, fun a o h2 e => ⟨o, k a o h2 e⟩⟩, r, fun _ _ e => .inl e⟩
  · have fr := x.fresh e1
    have gl : GLe g (gPut g T o) := fun a o' e => by
      unfold gPut
      by_cases q : a = T
      · rw [q, fr.1] at e; cases e
      · rw [if_neg q]; exact e
    refine ⟨gPut g T o, ⟨x.base.trans gl, fun a o' e => ?_, fun q hq => ?_, fun a ha => ?_, x.nd⟩, ⟨gl, fun a o' e => ?_, fun _ e => .inl e, fun a o _ h2 e => k a o h2 e, fun a o h2 e => ⟨o, k a o h2 e⟩⟩, .tup (if_pos rfl) e3 e4 (r.mono gl), fun a o e => ?_⟩
    · unfold gPut at e
      by_cases q : a = T
      · rw [if_pos q] at e; cases e; rw [q]; exact e2
      · rw [if_neg q] at e; exact kg _ _ e
    · obtain ⟨o', h1, h2⟩ := km q hq
      exact ⟨o', h1, h2.mono gl⟩
    · unfold gPut
      rw [if_neg fun q : a = T => fr.2 (q ▸ ha)]; exact x.off a ha
    · unfold gPut at e
      by_cases q : a = T
      · rw [q]; exact .inr (.inr (.inr e1))
      · rw [if_neg q] at e; exact .inl e
    · unfold gPut at e
      by_cases q : a = T
      · rw [q]; exact .inr e1
      · rw [if_neg q] at e; exact .inl e

/-- a frame outlives a step that turns other things -/
theorem FSt.nextT {T : List Addr} {g h g' μ' h'} (x : FSt W g F ρ μ h) (y : GSt W g' μ' h') (k : Nx T g μ h g' μ' h') (hT : ∀ a ∈ T, a ≠ F.env.locals ∧ ∀ z c, F.env.cells.lookup z = some c → a ≠ c) : FSt W g' F ρ μ' h' := by
  obtain ⟨m, hn, hm⟩ := x.loc
  have hLown : F.env.locals ∈ F.own := List.mem_cons_self
  have nT : ∀ a, (a = F.env.locals ∨ ∃ z, F.env.cells.lookup z = some a) → a ∉ T := fun a ha q => by
    rcases ha with e | ⟨z, e⟩
    · exact (hT a q).1 e
    · exact (hT a q).2 z a e rfl
  have alive : ∀ a o, (a = F.env.locals ∨ ∃ z, F.env.cells.lookup z = some a) → h.get? a = some o → a ∉ addrs μ → a ∉ addrs μ' := fun a o ha e h1 h2 => by
    rcases k.mfr a h2 with q | q | q
    · exact h1 q
    · exact nT a ha q
    · rw [e] at q; cases q
  have gnew : ∀ a o, (a = F.env.locals ∨ ∃ z, F.env.cells.lookup z = some a) → h.get? a = some o → a ∉ addrs μ → g a = none → g' a = none := fun a o ha e h1 h2 => by
    cases q : g' a with
    | none => rfl
    | some o' =>
      rcases k.gfr a o' q with r | r | r | r
      · rw [h2] at r; cases r
      · exact absurd r h1
      · exact absurd r (nT a ha)
      · rw [e] at r; cases r
  have keep : ∀ a o, (a = F.env.locals ∨ ∃ z, F.env.cells.lookup z = some a) → a ∉ addrs μ → h.get? a = some o → h'.get? a = some o := fun a o ha h1 e => k.step a o h1 (nT a ha) e
  have liveOwn : ∀ a ∈ F.own, (a = F.env.locals ∨ ∃ z, F.env.cells.lookup z = some a) ∧ ∃ o, h.get? a = some o := fun a ha => by
    rcases List.mem_cons.mp ha with rfl | ha
    · obtain ⟨o, _, _, e, _⟩ := hn; exact ⟨.inl rfl, o, e⟩
    · obtain ⟨z, hz, e⟩ := List.mem_filterMap.mp ha
      obtain ⟨⟨o, u, q, _⟩, _⟩ := x.cin _ _ e
      exact ⟨.inr ⟨z, e⟩, o, q⟩
  refine ⟨x.fn, x.gl, x.bt, ⟨m, ?_, fun z y' e1 e2 => ?_⟩, fun z y' e1 e2 => ?_, fun z c e => ?_, fun a ha => ?_, fun z hz => ?_, x.inj, x.fzk⟩
  · obtain ⟨o, es, ep, ho, r⟩ := hn
    exact ⟨o, es, ep, keep _ _ (.inl rfl) (x.own _ hLown).2 ho, r⟩
  · obtain ⟨v, h1, h2⟩ := hm z y' e1 e2
    exact ⟨v, h1, h2.mono k.gle⟩
  · obtain ⟨c, o, v, h1, h2, h3, h4⟩ := x.cel z y' e1 e2
    exact ⟨c, o, v, h1, keep _ _ (.inr ⟨z, h1⟩) (x.cin _ _ h1).2.1 h2, h3, h4.mono k.gle⟩
  · obtain ⟨⟨o, u, h1, h2⟩, h3, h4⟩ := x.cin z c e
    exact ⟨⟨o, u, keep _ _ (.inr ⟨z, e⟩) h3 h1, h2⟩, alive _ _ (.inr ⟨z, e⟩) h1 h3, h4⟩
  · obtain ⟨ha', o, e⟩ := liveOwn a ha
    obtain ⟨h1, h2⟩ := x.own a ha
    exact ⟨gnew a o ha' e h2 h1, alive a o ha' e h2⟩
  · obtain ⟨c, o, v, y', h0, h1, h2, h3, h4⟩ := x.fz z hz
    exact ⟨c, o, v, y', h0, h1, k.gle _ _ h2, h3, h4.mono k.gle⟩

/-- an iterable in a for's or a comprehension's head -/
structure iterE (W : Wd) (n : Nat) (F : Fm) (ρ : Loc) (μ : Mem) (target iter : Expr) (K : List V → Mem → Prop) : Prop where
  go : ∀ (A : Around) (g : G) (s : Shared), Room n A → GSt W g μ s.heap → FSt W g F ρ μ s.heap → ∀ Q : Value → Shared → Prop,
    (∀ g' μ' I fp wr St h' tk' xs, K xs μ' → GSt W g' μ' h' → Nx [] g μ s.heap g' μ' h' → Itr W A g' target I fp wr xs St → St 0 h' → (∀ b ∈ fp, b ∈ wr ∨ ∃ o, g' b = some o) → (∀ b ∈ wr, s.heap.get? b = none ∧ g' b = none ∧ b ∉ addrs μ') → Q (.ref I) { s with heap := h', toks := tk' }) →
    wpAny W.M A (eval iter F.env) (fun x s₁ => wpAny W.M A (pyIter x) Q (fun _ _ => False) s₁) (fun _ _ => False) s

/-- the turns of a for -/
noncomputable def forL (W : Wd) (n : Nat) (F : Fm) (target : Expr) (body : List Stmt) (K : Out → Mem → Prop) : List V → Loc → Mem → Prop
  | [], ρ, μ => K (.next ρ) μ
  | y :: ys, ρ, μ => wpTg W n F ρ μ target y fun ρ' μ' => wpS W n F ρ' μ' body fun o μ'' => match o with
    | .next ρ'' => forL W n F target body K ys ρ'' μ''
    | .cont ρ'' => forL W n F target body K ys ρ'' μ''
    | .brk ρ'' => K (.next ρ'') μ''
    | .ret z => K (.ret z) μ''

theorem Nx.drop {T wr : List Addr} {g h g₁ μ₁ h₁ g₂ μ₂ h₂} (x : Nx T g μ h g₁ μ₁ h₁) (y : Nx (T ++ wr) g₁ μ₁ h₁ g₂ μ₂ h₂) (hw : ∀ b ∈ wr, h.get? b = none) : Nx T g μ h g₂ μ₂ h₂ := by
  have t := (x.weakT (T' := T ++ wr) fun a ha => List.mem_append_left _ ha).trans y
  have off : ∀ a o, a ∉ T → h.get? a = some o → a ∉ T ++ wr := fun a o h2 e q => by
    rcases List.mem_append.mp q with q | q
    · exact h2 q
    · rw [hw a q] at e; cases e
  refine ⟨t.gle, fun a o e => ?_, fun a e => ?_, fun a o h1 h2 e => t.step a o h1 (off a o h2 e) e, fun a o h2 e => t.alive a o (off a o h2 e) e⟩
  · rcases t.gfr a o e with q | q | q | q
    · exact .inl q
    · exact .inr (.inl q)
    · exact (List.mem_append.mp q).elim (fun q => .inr (.inr (.inl q))) fun q => .inr (.inr (.inr (hw a q)))
    · exact .inr (.inr (.inr q))
  · rcases t.mfr a e with q | q | q
    · exact .inl q
    · exact (List.mem_append.mp q).elim (fun q => .inr (.inl q)) fun q => .inr (.inr (hw a q))
    · exact .inr (.inr q)

/-- the state at a loop's head -/
structure LoopSt (W : Wd) (F : Fm) (St : Nat → Heap → Prop) (wr : List Addr) (g₁ : G) (T : List Addr) (g₀ : G) (μ₀ : Mem) (s : Shared) (i : Nat) (g : G) (ρ : Loc) (μ : Mem) (h : Heap) : Prop where
  gst : GSt W g μ h
  fst : FSt W g F ρ μ h
  st : St i h
  off : ∀ b ∈ wr, g b = none ∧ b ∉ addrs μ
  le : GLe g₁ g
  nx : Nx T g₀ μ₀ s.heap g μ h

/-- what a frame's own step leaves of the walk -/
theorem LoopSt.step {A : Around} {target : Expr} {I : Addr} {fp wr : List Addr} {xs : List V} {St : Nat → Heap → Prop} {g₁ : G} {T : List Addr} {g₀ : G} {μ₀ : Mem} {s : Shared} {i : Nat} {g ρ μ h ρ' g' μ' h'}
    (it : Itr W A g₁ target I fp wr xs St) (hfp : ∀ b ∈ fp, b ∈ wr ∨ ∃ o, g₁ b = some o) (hTo : ∀ a ∈ wr, a ∉ F.own)
    (x : LoopSt W F St wr g₁ T g₀ μ₀ s i g ρ μ h) (hg : GSt W g' μ' h') (hf : FSt W g' F ρ' μ' h') (nx : Nx F.own g μ h g' μ' h') (hT : ∀ a ∈ F.own, a ∈ T) : LoopSt W F St wr g₁ T g₀ μ₀ s i g' ρ' μ' h' := by
  have lv := it.live _ _ x.st
  have hoff : ∀ b ∈ wr, g' b = none ∧ b ∉ addrs μ' := fun b hb => by
    obtain ⟨o', e⟩ := lv b hb
    constructor
    · cases q : g' b with
      | none => rfl
      | some o =>
        rcases nx.gfr b o q with r | r | r | r
        · rw [(x.off b hb).1] at r; cases r
        · exact absurd r (x.off b hb).2
        · exact absurd r (hTo b hb)
        · rw [e] at r; cases r
    · intro q
      rcases nx.mfr b q with r | r | r
      · exact (x.off b hb).2 r
      · exact hTo b hb r
      · rw [e] at r; cases r
  refine ⟨hg, hf, it.frame _ _ _ x.st fun b hb o e => ?_, hoff, x.le.trans nx.gle, x.nx.trans (nx.weakT hT)⟩
  rcases hfp b hb with q | ⟨o', q⟩
  · exact nx.step b o (x.off b q).2 (hTo b q) e
  · have q' := x.le _ _ q
    exact nx.step b o (fun r => by rw [x.gst.off b r] at q'; cases q') (fun r => by rw [(x.fst.own b r).1] at q'; cases q') e

/-- an item is drawn -/
theorem LoopSt.draw {A : Around} {target : Expr} {I : Addr} {fp wr : List Addr} {xs : List V} {St : Nat → Heap → Prop} {g₁ : G} {T : List Addr} {g₀ : G} {μ₀ : Mem} {s : Shared} {i : Nat} {g ρ μ h h'} {v : Value} {y : V}
    (it : Itr W A g₁ target I fp wr xs St) (hT : ∀ a ∈ wr, a ≠ F.env.locals ∧ ∀ z c, F.env.cells.lookup z = some c → a ≠ c) (hw : ∀ b ∈ wr, s.heap.get? b = none)
    (x : LoopSt W F St wr g₁ T g₀ μ₀ s i g ρ μ h) (hit : ItemIs W.P g₁ h h' v y) (hst : St (i + 1) h') (hk : ∀ b o, b ∉ wr → h.get? b = some o → h'.get? b = some o) :
    ∃ g', LoopSt W F St wr g₁ T g₀ μ₀ s (i + 1) g' ρ μ h' ∧ Rep W.P g' v y ∧ GLe g g' ∧ ∀ a o, g' a = some o → g a = some o ∨ h.get? a = none := by
  have hit' : ItemIs W.P g h h' v y := by
    rcases hit with r | ⟨T, o, vs, ys, kk, e1, e2, e3, e4, e5, e6, r⟩
    · exact .inl (r.mono x.le)
    · exact .inr ⟨T, o, vs, ys, kk, e1, e2, e3, e4, e5, e6, r.mono x.le⟩
  obtain ⟨g', hg', nx', r', hgf⟩ := x.gst.item x.off hk hit'
  refine ⟨g', ⟨hg', x.fst.nextT hg' nx' hT, hst, fun b hb => ⟨?_, (x.off b hb).2⟩, x.le.trans nx'.gle, ?_⟩, r', nx'.gle, hgf⟩
  · obtain ⟨o', e⟩ := it.live _ _ x.st b hb
    cases q : g' b with
    | none => rfl
    | some o =>
      rcases hgf b o q with r | r
      · rw [(x.off b hb).1] at r; cases r
      · rw [e] at r; cases r
  · exact x.nx.drop (wr := wr) (nx'.weakT fun a ha => List.mem_append_right _ ha) hw

theorem X_For {target iter : Expr} {body : List Stmt} {K : Out → Mem → Prop} (h : iterE W n F ρ μ target iter fun xs μ₁ => forL W n F target body K xs ρ μ₁)
    (hs : ∀ x, foldedSetIterable iter F.env x = pure x := by intro _; rfl) : wpX W n F ρ μ (.For target iter body [] pos) K := by
  refine ⟨fun A g s hA hg hf Q hQ => ?_⟩
  refine wpAny_For (h.go A g s hA hg hf _ fun g₁ μ₁ I fp wr St h₁ tk₁ xs hK hg₁ nx₁ it hst hfp hwr => ?_) hs
  have hf₁ := hf.next hg₁ nx₁
  obtain ⟨mm, hns, _⟩ := hf.loc
  have hT : ∀ a ∈ wr, a ≠ F.env.locals ∧ ∀ z c, F.env.cells.lookup z = some c → a ≠ c := fun a ha => by
    constructor
    · rintro rfl
      obtain ⟨o, _, _, e, _⟩ := hns
      rw [(hwr _ ha).1] at e; cases e
    · rintro z c e rfl
      obtain ⟨⟨o, u, e2, _⟩, _⟩ := hf.cin z _ e
      rw [(hwr _ ha).1] at e2; cases e2
  have hTo : ∀ a ∈ wr, a ∉ F.own := fun a ha q => by
    rcases List.mem_cons.mp q with e | q
    · exact (hT a ha).1 e
    · obtain ⟨z, _, e⟩ := List.mem_filterMap.mp q
      exact (hT a ha).2 z a e rfl
  let J : Nat → Shared → Prop := fun k s' => ∃ i g₂ μ₂ ρ₂ h₂ tk₂, s' = { s with heap := h₂, toks := tk₂ } ∧ k = xs.length - i ∧ i ≤ xs.length ∧ LoopSt W F St wr g₁ F.own g μ s i g₂ ρ₂ μ₂ h₂ ∧ forL W n F target body K (xs.drop i) ρ₂ μ₂
  refine codeAny_forLoop_any J ?_ xs.length ⟨0, g₁, μ₁, ρ, h₁, tk₁, rfl, rfl, Nat.zero_le _, ⟨hg₁, hf₁, hst, fun b hb => (hwr b hb).2, GLe.refl, nx₁.weak0⟩, hK⟩
  rintro k s' ⟨i, g₂, μ₂, ρ₂, h₂, tk₂, rfl, rfl, hi, L₂, hK₂⟩
  by_cases hlt : i < xs.length
  · have hy : xs[i]? = some xs[i] := by simp [hlt]
    have hd : xs.drop i = xs[i] :: xs.drop (i + 1) := by rw [List.drop_eq_getElem_cons hlt]
    rw [hd] at hK₂
    let Q' : Value → Shared → Prop := fun v s₁ => wpAny W.M A (assign target F.env v) (fun _ s₂ => wpAny W.M A (execs body F.env) (fun f s₃ => match f with
            | .next | .cont => ∃ m, m < xs.length - i ∧ J m s₃
            | .brk => Q .next s₃
            | .ret v => Q (.ret v) s₃) (fun _ _ => False) s₂) (fun _ _ => False) s₁
    refine wpAny_mono (it.item i _ { s with heap := h₂, toks := tk₂ } Q' (fun _ _ => False) hy L₂.st (fun a o e => L₂.gst.le _ _ (L₂.le _ _ e)) fun v h₃ tk₃ hit hst₃ hk₃ => ?_) (fun r s₁ hr => ?_) fun _ _ e => e.elim
    · obtain ⟨g₃, L₃, r₃, _⟩ := L₂.draw it hT (fun b hb => (hwr b hb).1) hit hst₃ hk₃
      refine hK₂.go A g₃ _ v hA L₃.gst L₃.fst r₃ _ fun g₄ ρ₄ μ₄ h₄ tk₄ hB hg₄ hf₄ nx₄ => ?_
      have L₄ := L₃.step it hfp hTo hg₄ hf₄ nx₄ fun _ x => x
      refine hB.go A g₄ _ hA hg₄ hf₄ _ fun f o g₅ μ₅ h₅ tk₅ hK₅ hfl hg₅ nx₅ => ?_
      have more : ∀ ρ₅, FSt W g₅ F ρ₅ μ₅ h₅ → forL W n F target body K (xs.drop (i + 1)) ρ₅ μ₅ → ∃ m, m < xs.length - i ∧ J m { s with heap := h₅, toks := tk₅ } := fun ρ₅ hf₅ hk₅ =>
        ⟨xs.length - (i + 1), by lia, i + 1, g₅, μ₅, ρ₅, h₅, tk₅, rfl, rfl, hlt, L₄.step it hfp hTo hg₅ hf₅ nx₅ fun _ x => x, hk₅⟩
      have nxs := L₄.nx.trans nx₅
      cases o with
      | next ρ₅ => obtain ⟨rfl, hf₅⟩ := hfl; exact more ρ₅ hf₅ hK₅
      | cont ρ₅ => obtain ⟨rfl, hf₅⟩ := hfl; exact more ρ₅ hf₅ hK₅
      | brk ρ₅ => obtain ⟨rfl, hf₅⟩ := hfl; exact hQ _ (.next ρ₅) _ _ _ _ hK₅ ⟨rfl, hf₅⟩ hg₅ nxs
      | ret z => obtain ⟨u, rfl, r⟩ := hfl; exact hQ _ (.ret z) _ _ _ _ hK₅ ⟨u, rfl, r⟩ hg₅ nxs
    · obtain ⟨v, rfl, hr⟩ := hr
      exact wpAny_mono hr (fun _ s₂ hq => wpAny_mono hq (fun _ s₃ hq' => wpAny_mono hq' (fun _ _ z => z) fun _ _ e => e.elim) fun _ _ e => e.elim) fun _ _ e => e.elim
  · have hin : i = xs.length := by lia
    subst hin
    rw [List.drop_length] at hK₂
    refine it.done _ _ _ L₂.st fun h₃ tk₃ hk₃ => wpAny_execs_nil ?_
    have hg₃ : GSt W g₂ μ₂ h₃ := ⟨L₂.gst.base, fun a o e => hk₃ a o (fun q => by rw [(L₂.off a q).1] at e; cases e) (L₂.gst.le _ _ e), fun q hq => by
      obtain ⟨o, e1, e2⟩ := L₂.gst.mem q hq
      exact ⟨o, hk₃ _ _ (fun r => (L₂.off _ r).2 (List.mem_map_of_mem hq)) e1, e2⟩, L₂.gst.off, L₂.gst.nd⟩
    have nx₃ : Nx wr g₂ μ₂ h₂ g₂ μ₂ h₃ := ⟨GLe.refl, fun _ _ e => .inl e, fun _ e => .inl e, fun a o _ h2 e => hk₃ a o h2 e, fun a o h2 e => ⟨o, hk₃ a o h2 e⟩⟩
    exact hQ _ (.next ρ₂) _ _ _ _ hK₂ ⟨rfl, L₂.fst.nextT hg₃ nx₃ hT⟩ hg₃ (L₂.nx.drop (wr := wr) (nx₃.weakT fun a ha => List.mem_append_right _ ha) fun b hb => (hwr b hb).1)
end
end
section

/-! ## tuples in an enumerate -/
section
variable {prog : Program} {w : World} {A : Around} {E : Value → Shared → Prop} {s : Shared}
theorem nextOf_tuple_item {it l : Addr} {i : Nat} {items} {x : Value} {Q : Value → Shared → Prop} (hit : s.heap.IsTupleIter it l i)
    (hl : s.heap.IsTuple l items) (hx : items[i]? = some x)
    (hQ : ∀ h', h'.IsTupleIter it l (i + 1) → Heap.SameBut it s.heap h' → Q x { s with heap := h' }) :
    wpAny (model prog w) A (Builtin.SmallTypes.nextOf (.ref it)) Q E s := by
  obtain ⟨o, ho, hc, hd⟩ := id hit
  obtain ⟨ol, hol, _, nl, hdl⟩ := hl
  unfold Builtin.SmallTypes.nextOf
  refine wpAny_bind (wpAny_callSpecial?_slot (name := Str.ofString "__next__") hit.typeIs F.slot_tuple_iterator_next
    (wpAny_call_entry F.slot_tuple_iterator_next hit.typeIs F.entry_tuple_iterator_next ?_ (F.args_tuple_iterator_next_1 _)))
  show wpAny _ _ (field (.ref it) 0 >>= _) _ _ s
  refine wpAny_bind (wpAny_field ho hd (x := .ref l) rfl ?_)
  show wpAny _ _ (if (Value.ref l == Value.none) = true then _ else _) _ _ s
  rw [if_neg (show ¬ ((Value.ref l == Value.none) = true) from Bool.false_ne_true)]
  show wpAny _ _ (field (.ref it) 1 >>= _) _ _ s
  refine wpAny_bind (wpAny_field ho hd (x := .int i 0) rfl ?_)
  show wpAny _ _ (seqItems? (.ref l) >>= _) _ _ s
  refine wpAny_bind (wpAny_seqItems hol hdl ?_)
  dsimp only
  rw [Int.toNat_natCast, hx]
  dsimp only
  refine wpAny_bind (wpAny_setField ho hd (by simp) (wpAny_pure ⟨x, rfl, wpAny_pure (hQ _ ?_ (Heap.SameBut.update ..))⟩))
  exact ⟨_, Heap.get?_update_self _ ho (Obj.isFreed_of_fields (Obj.data_mapFields hd _)), (Obj.cls_mapFields ..).trans hc, by
    rw [Obj.data_mapFields hd]; simp [rawInt]⟩
theorem nextOf_tuple_end {it l : Addr} {i : Nat} {items} {Q : Value → Shared → Prop} (hh : A.handled = none)
    (hit : s.heap.IsTupleIter it l i) (hl : s.heap.IsTuple l items) (hx : items[i]? = none)
    (hE : ∀ h' e, Heap.ExtBut it s.heap h' → (∃ o, h'.get? e = some o ∧ o.cls = .type "StopIteration") → E (.ref e) { s with heap := h' }) :
    wpAny (model prog w) A (Builtin.SmallTypes.nextOf (.ref it)) Q E s := by
  obtain ⟨o, ho, hc, hd⟩ := id hit
  obtain ⟨ol, hol, _, nl, hdl⟩ := hl
  unfold Builtin.SmallTypes.nextOf
  refine wpAny_bind (wpAny_callSpecial?_slot (name := Str.ofString "__next__") hit.typeIs F.slot_tuple_iterator_next
    (wpAny_call_entry F.slot_tuple_iterator_next hit.typeIs F.entry_tuple_iterator_next ?_ (F.args_tuple_iterator_next_1 _)))
  show wpAny _ _ (field (.ref it) 0 >>= _) _ _ s
  refine wpAny_bind (wpAny_field ho hd (x := .ref l) rfl ?_)
  show wpAny _ _ (if (Value.ref l == Value.none) = true then _ else _) _ _ s
  rw [if_neg (show ¬ ((Value.ref l == Value.none) = true) from Bool.false_ne_true)]
  show wpAny _ _ (field (.ref it) 1 >>= _) _ _ s
  refine wpAny_bind (wpAny_field ho hd (x := .int i 0) rfl ?_)
  show wpAny _ _ (seqItems? (.ref l) >>= _) _ _ s
  refine wpAny_bind (wpAny_seqItems hol hdl ?_)
  dsimp only
  rw [Int.toNat_natCast, hx]
  dsimp only
  refine wpAny_bind (wpAny_rule (wpAny_bind (wpAny_setField ho hd (by simp) ?_)))
  show wpAny _ _ (newExc (.type "StopIteration") [] >>= _) _ _ _
  refine wpAny_bind ?_
  simp only [newExc, newTuple]
  refine wpAny_bind (wpAny_newObj_type ?_ (by size_fits))
  refine wpAny_bind (m := firstArgMember _ _) (wpAny_of_eq (a := Value.none) (by first | rfl | (simp only [firstArgMember]; rfl)) ?_)
  refine wpAny_newObj_type ?_ (by size_fits)
  unfold raiseNew
  refine wpAny_bind (wpAny_handled ?_)
  first | rw [show A.in1.handled = none from hh] | rw [hh]
  refine wpAny_bind (wpAny_pure (wpAny_throw ?_))
  exact hE _ _ (((Heap.SameBut.update ..).extBut.push _).push _) ⟨_, Heap.get?_push_size _ rfl, rfl⟩
end
theorem IsTuple.at' {h h' : Heap} {a items} (x : h.IsTuple a items) (e : ∀ o, h.get? a = some o → h'.get? a = some o) : h'.IsTuple a items := let ⟨o, ho, r⟩ := x; ⟨o, e _ ho, r⟩
theorem IsTupleIter.at' {h h' : Heap} {a l i} (x : h.IsTupleIter a l i) (e : ∀ o, h.get? a = some o → h'.get? a = some o) : h'.IsTupleIter a l i := let ⟨o, ho, r⟩ := x; ⟨o, e _ ho, r⟩
theorem draws_tuple {prog : Program} {w : World} {A : Around} (hh : A.handled = none) (it l : Addr) (hne : l ≠ it) (items : Array Value) :
    Draws prog w A it [it, l] items.size (fun i v => items[i]? = some v) (fun i h => h.IsTupleIter it l i ∧ h.IsTuple l items) where
  live := fun _ _ st => let ⟨o, ho, _⟩ := st.1; ⟨o, ho⟩
  frame := fun _ _ _ st hk => ⟨IsTupleIter.at' st.1 fun o e => hk it (by simp) o e, IsTuple.at' st.2 fun o e => hk l (by simp) o e⟩
  item := fun i s Q E hi st hQ => by
    refine nextOf_tuple_item st.1 st.2 (x := items[i]) (by simp [hi]) fun h' hit' hs' => ?_
    exact hQ _ h' s.toks (by simp [hi]) ⟨hit', st.2.extBut hs'.extBut hne⟩ hs'
  done := fun s Q E st hE => nextOf_tuple_end hh st.1 st.2 (by simp) hE

theorem meets_enum_tuple (l : Addr) (items : Array Value) (n : Nat) (dct : Option Addr) (sl : Array (Option Value)) :
    Meets (Builtin.«enumerate.__new__» ⟨[.type "enumerate", .ref l], []⟩) (fun _ R s => s.heap.get? l = some { cls := .type "tuple", dict := dct, data := .seq items n, slots := sl } ∧
      R (.ok (.ret (.ref (s.heap.push { cls := .type "tuple_iterator", data := .fields #[.ref l, .int 0 0] }).objs.size)))
        { s with heap := (s.heap.push { cls := .type "tuple_iterator", data := .fields #[.ref l, .int 0 0] }).push { cls := .type "enumerate", data := .fields #[.none, .bool false, .ref s.heap.objs.size, rawInt 0, .none, .none] } }) :=
  .of_wp fun prog w A R s h => by
    obtain ⟨hp, g, d, tk, os⟩ := s; obtain ⟨hl, h⟩ := h
    have hsub := sub_enumerate
    have hL : Heap.IsTuple (Shared.heap ⟨hp, g, d, tk, os⟩) l items := ⟨_, hl, rfl, n, rfl⟩
    wp_walk using wpAny_loadPart' hl
    refine wpAny_stack_any fun st => wpAny_pure ?_
    split
    · rename_i c _ _ _ _ _
      cases (c == Value.type "enumerate")
      · wp_walk using wpAny_loadPart' hl, wpAny_pyIter_tuple hL
        exact ⟨_, rfl, h⟩
      · wp_walk using wpAny_loadPart' hl, wpAny_pyIter_tuple hL
        exact ⟨_, rfl, h⟩
    · wp_walk using wpAny_loadPart' hl, wpAny_pyIter_tuple hL
      exact ⟨_, rfl, h⟩
theorem call_enum_tuple {prog : Program} {w : World} {A : Around} {E : Value → Shared → Prop} {s : Shared} {l : Addr} {items : Array Value} {Q : Value → Shared → Prop} (hL : s.heap.IsTuple l items)
    (h : ∀ h', IsEnum h' (s.heap.objs.size + 1) s.heap.objs.size 0 .none → h'.IsTupleIter s.heap.objs.size l 0 → h'.objs.size = s.heap.objs.size + 2 →
      (∀ b o, s.heap.get? b = some o → h'.get? b = some o) → Q (.ref (s.heap.objs.size + 1)) { s with heap := h' }) :
    wpAny (model prog w) A (call (.type "enumerate") [.ref l]) Q E s := by
  obtain ⟨⟨c, dct, dt, sl⟩, hl, hc, n, hd⟩ := hL
  replace hc : c = .type "tuple" := hc
  replace hd : dt = .seq items n := hd
  subst hc hd
  refine callType_new F.called_enumerate (by decide) (F.typeCall_enumerate_1 _) (F.newCall_enumerate_1 _) (fun obj => F.args_object_init_2 obj _) F.entry_enumerate_new
    (meets_enum_tuple l items n dct sl) ⟨hl, ?_⟩
  have hz : (s.heap.push { cls := .type "tuple_iterator", data := .fields #[.ref l, .int 0 0] }).objs.size = s.heap.objs.size + 1 := Heap.size_push ..
  show _ ∧ _
  rw [hz]
  have he : IsEnum ((s.heap.push { cls := .type "tuple_iterator", data := .fields #[.ref l, .int 0 0] }).push
      { cls := .type "enumerate", data := .fields #[.none, .bool false, .ref s.heap.objs.size, rawInt 0, .none, .none] }) (s.heap.objs.size + 1) s.heap.objs.size 0 .none := by
    have := Heap.get?_push_size (s.heap.push { cls := .type "tuple_iterator", data := .fields #[.ref l, .int 0 0] })
      (o := { cls := .type "enumerate", data := .fields #[.none, .bool false, .ref s.heap.objs.size, rawInt 0, .none, .none] }) rfl
    rw [hz] at this; exact this
  refine ⟨⟨_, he, rfl⟩, h _ he ⟨_, Heap.get?_push_of_some _ (Heap.get?_push_size _ rfl), rfl, rfl⟩ (by rw [Heap.size_push, hz]) fun b o x => Heap.get?_push_of_some _ (Heap.get?_push_of_some _ x)⟩

section
variable {W : Wd} {n : Nat} {F : Fm} {ρ : Loc} {μ : Mem} {pos : Pos}

/-! ## the walks -/
noncomputable def ownersOfTuples : List String := ["enumerate", "zip", "dict_itemiterator", "dict_reverseitemiterator", "odict_iterator", "itertools.zip_longest", "itertools.pairwise"]
theorem letGo_plain {M : Model} {A : Around} {E : Value → Shared → Prop} {s : Shared} {target : Expr} {I : Addr} {v : Value} {nm : String} {o : Obj} {Q : Unit → Shared → Prop} (ho : s.heap.get? I = some o) (hc : o.cls = .type nm) (hn : ownersOfTuples.contains nm = false) (h : Q () s) :
    wpAny M A (letOwnedTupleGo target (.ref I) v) Q E s := by
  have go : ∀ v : Value, wpAny M A (do
      let (.ref r, .ref a) := (Value.ref I, v) | return
      let o ← load r
      match o.cls, o.data with
      | .type n, .fields vs =>
        if ["enumerate", "zip", "dict_itemiterator", "dict_reverseitemiterator", "odict_iterator", "itertools.zip_longest", "itertools.pairwise"].contains n && vs[0]? == some (rawInt a) then
          rule "for.unpacks-the-owned-tuple"
          updateField r 0 .none
      | _, _ => pure ()) Q E s := fun v => by
    cases v with
    | ref a =>
      refine wpAny_bind (wpAny_load ho ?_)
      rw [hc]
      cases o.data with
      | fields vs =>
        show wpAny M A (if (["enumerate", "zip", "dict_itemiterator", "dict_reverseitemiterator", "odict_iterator", "itertools.zip_longest", "itertools.pairwise"].contains nm && vs[0]? == some (rawInt a)) = true then _ else _) Q E s
        rw [show ["enumerate", "zip", "dict_itemiterator", "dict_reverseitemiterator", "odict_iterator", "itertools.zip_longest", "itertools.pairwise"].contains nm = false from hn]
        exact wpAny_pure h
      | _ => exact wpAny_pure h
    | _ => exact wpAny_pure h
  unfold letOwnedTupleGo
  cases target <;> first | exact go v | exact wpAny_pure h

/-- the items of a frozen sequence -/
theorem itr_list {A : Around} {g : G} {target : Expr} {I l : Addr} {o : Obj} {vs : List Value} {k : Nat} {ys : List V} (hh : A.handled = none) (hne : l ≠ I) (e1 : g l = some o) (e2 : o.cls = .type "list") (e3 : o.data = .seq vs.toArray k) (r : Reps W.P g vs ys) :
    Itr W A g target I [I, l] [I] ys (fun i h => h.IsListIter I l i ∧ h.IsList l vs.toArray) where
  live := fun i h st b hb => by rw [List.mem_singleton.mp hb]; exact let ⟨o, e, _⟩ := st.1; ⟨o, e⟩
  frame := fun i h h' st hk => (Walks.list (prog := W.prog) (w := W.w) hh I l hne vs.toArray).frame i h h' st hk
  item := fun i y s Q E hy st hg hQ => by
    obtain ⟨v, h1, h2⟩ := r.get hy
    refine wpAny_pyNext_list_item st.1 st.2 (x := v) (by simpa using h1) fun h' hit' hs' => ⟨v, rfl, ?_⟩
    obtain ⟨oI, ho, hc, _⟩ := id hit'
    exact letGo_plain (s := { s with heap := h' }) ho hc (by decide) (hQ v h' s.toks (.inl h2) ⟨hit', st.2.extBut hs'.extBut hne⟩ fun b o hb e => hs'.extBut b o (fun q => hb (by simp [q])) e)
  done := fun s Q E st hQ => wpAny_pyNext_list_end hh st.1 st.2 (by simp [r.length]) fun h' he' => hQ h' s.toks fun b o hb e => he' b o (fun q => hb (by simp [q])) e
  self := fun i s Q E st hQ => wpAny_pyIter_listiter st.1 hQ
theorem itr_tuple {A : Around} {g : G} {target : Expr} {I l : Addr} {o : Obj} {vs : List Value} {k : Nat} {ys : List V} (hh : A.handled = none) (hne : l ≠ I) (e1 : g l = some o) (e2 : o.cls = .type "tuple") (e3 : o.data = .seq vs.toArray k) (r : Reps W.P g vs ys) :
    Itr W A g target I [I, l] [I] ys (fun i h => h.IsTupleIter I l i ∧ h.IsTuple l vs.toArray) where
  live := fun i h st b hb => by rw [List.mem_singleton.mp hb]; exact let ⟨o, e, _⟩ := st.1; ⟨o, e⟩
  frame := fun i h h' st hk => (Walks.tuple (prog := W.prog) (w := W.w) hh I l hne vs.toArray).frame i h h' st hk
  item := fun i y s Q E hy st hg hQ => by
    obtain ⟨v, h1, h2⟩ := r.get hy
    refine wpAny_pyNext_tuple_item st.1 st.2 (x := v) (by simpa using h1) fun h' hit' hs' => ⟨v, rfl, ?_⟩
    obtain ⟨oI, ho, hc, _⟩ := id hit'
    exact letGo_plain (s := { s with heap := h' }) ho hc (by decide) (hQ v h' s.toks (.inl h2) ⟨hit', st.2.extBut hs'.extBut hne⟩ fun b o hb e => hs'.extBut b o (fun q => hb (by simp [q])) e)
  done := fun s Q E st hQ => wpAny_pyNext_tuple_end hh st.1 st.2 (by simp [r.length]) fun h' he' => hQ h' s.toks fun b o hb e => he' b o (fun q => hb (by simp [q])) e
  self := fun i s Q E st hQ => wpAny_pyIter_tupleiter st.1 hQ

/-- the items of a value in a loop's head -/
inductive Seqs : V → List V → Prop
  | lst (ys : List V) : Seqs (.lst ys) ys
  | tup (ys : List V) : Seqs (.tup ys) ys
/-- what is new now was not there before -/
theorem Nx.new {T g μ h g' μ' h'} (x : Nx T g μ h g' μ' h') {a : Addr} (e : h'.get? a = none) (hT : a ∉ T) : h.get? a = none := by
  cases q : h.get? a with
  | none => rfl
  | some o => obtain ⟨o', q'⟩ := x.alive a o hT q; rw [e] at q'; cases q'
theorem iter_seq {target iter : Expr} {K : List V → Mem → Prop} (h : wpE W n F ρ μ iter fun y μ' => ∃ ys, Seqs y ys ∧ K ys μ') : iterE W n F ρ μ target iter K := by
  refine ⟨fun A g s hA hg hf Q hQ => h.go A g s hA hg hf _ fun v g₁ μ₁ h₁ tk₁ hR hg₁ nx₁ => ?_⟩
  obtain ⟨y, r, ys, hs, hK⟩ := hR
  have fr := hg₁.fresh (get_size h₁)
  have fr0 := nx₁.new (get_size h₁) (fun q => nomatch q)
  have ne : ∀ l o, g₁ l = some o → l ≠ h₁.objs.size := fun l o e q => by rw [q, fr.1] at e; cases e
  have hwr : ∀ b ∈ [h₁.objs.size], s.heap.get? b = none ∧ g₁ b = none ∧ b ∉ addrs μ₁ := fun b hb => by rw [List.mem_singleton.mp hb]; exact ⟨fr0, fr⟩
  cases hs with
  | lst =>
    apply r.lst_elim; intro _ _ _ _ e1 e2 e3 e4 rs
    rename_i l o vs k
    have hL : h₁.IsList l vs.toArray := ⟨o, hg₁.le _ _ e1, e2, _, e3⟩
    obtain ⟨hg₂, nx₂⟩ := hg₁.keeps (h' := h₁.push { cls := .type "list_iterator", data := .fields #[.ref l, .int 0 0] }) fun _ _ e => Heap.get?_push_of_some _ e
    refine wpAny_pyIter_list hL (hQ g₁ μ₁ _ [h₁.objs.size, l] [h₁.objs.size] _ _ _ ys hK hg₂ (nx₁.trans nx₂) (itr_list hA.handled (ne _ _ e1) e1 e2 e3 rs) ⟨⟨_, Heap.get?_push_size _ rfl, rfl, rfl⟩, hL.push _⟩ (fun b hb => ?_) hwr)
    rcases List.mem_cons.mp hb with rfl | hb
    · exact .inl (by simp)
    · rw [List.mem_singleton.mp hb]; exact .inr ⟨_, e1⟩
  | tup =>
    apply r.tup_elim; intro _ _ _ _ e1 e2 e3 rs
    rename_i l o vs k
    have hL : h₁.IsTuple l vs.toArray := ⟨o, hg₁.le _ _ e1, e2, _, e3⟩
    obtain ⟨hg₂, nx₂⟩ := hg₁.keeps (h' := h₁.push { cls := .type "tuple_iterator", data := .fields #[.ref l, .int 0 0] }) fun _ _ e => Heap.get?_push_of_some _ e
    refine wpAny_pyIter_tuple hL (hQ g₁ μ₁ _ [h₁.objs.size, l] [h₁.objs.size] _ _ _ ys hK hg₂ (nx₁.trans nx₂) (itr_tuple hA.handled (ne _ _ e1) e1 e2 e3 rs) ⟨⟨_, Heap.get?_push_size _ rfl, rfl, rfl⟩, hL.push _⟩ (fun b hb => ?_) hwr)
    rcases List.mem_cons.mp hb with rfl | hb
    · exact .inl (by simp)
    · rw [List.mem_singleton.mp hb]; exact .inr ⟨_, e1⟩
end
end
section
noncomputable def IsListP (h : Heap) (D : Addr) (xs : Array Value) : Prop := ∃ o, h.get? D = some o ∧ o.cls = .type "list" ∧ (∃ n, o.data = .seq xs n) ∧ o.dict = none
theorem listP_append {prog : Program} {w : World} {A : Around} {E : Value → Shared → Prop} {s : Shared} {D : Addr} {xs : Array Value} {x : Value} {Q : Value → Shared → Prop} (hl : IsListP s.heap D xs)
    (h : ∀ h', IsListP h' D (xs.push x) → Heap.SameBut D s.heap h' → Q .none { s with heap := h' }) (hsz : xs.size ≤ sizeLine) : wpAny (model prog w) A (call (.builtin "list.append") [.ref D, x]) Q E s := by
  obtain ⟨o, ho, c1, ⟨k, c2⟩, c4⟩ := hl
  refine wpAny_call_entry slot_list_append (show Shared.TypeIs s (.ref D) "list" from ⟨o, ho, c1⟩) entry_list_append ?_ (args_list_append _ _)
  show wpAny _ _ (updateSeq D (·.push x) >>= fun _ => ret .none) _ _ s
  obtain ⟨n', hd'⟩ := Obj.data_mapSeq c2 (·.push x)
  exact wpAny_bind (wpAny_updateSeq ho c2 (wpAny_pure ⟨.none, rfl, h _ ⟨_, Heap.get?_update_self _ ho (Obj.isFreed_of_seq hd'), (Obj.cls_mapSeq ..).trans c1, ⟨n', hd'⟩, by cases o; simp only at c2; subst c2; exact c4⟩ (Heap.SameBut.update ..)⟩) hsz (by rw [Array.size_push]; lia))
section
variable {W : Wd} {n : Nat} {F : Fm} {ρ : Loc} {μ : Mem} {pos : Pos}

/-! ## a comprehension's frame -/
noncomputable def freeNames (sc : Scope) : List Str := (sc.names.filter fun q => q.2 == .free).map (·.1)
noncomputable def closL (env : Env) : List (Str × NameKind) → List (Str × Addr) → List (Str × Addr)
  | [], acc => acc
  | (x, k) :: r, acc => if k == .free then (match env.cells.lookup x with | some c => closL env r ((x, c) :: acc) | none => closL env r acc) else closL env r acc
noncomputable def clos (sc : Scope) (env : Env) : List (Str × Addr) := closL env sc.names []
theorem closureFor_eq {sc : Scope} {env : Env} (h : (freeNames sc).all (fun x => (env.cells.lookup x).isSome) = true) : closureFor sc env = pure (clos sc env) := by
  unfold closureFor clos
  have main : ∀ (names : List (Str × NameKind)) (acc : List (Str × Addr)), (∀ x, (x, NameKind.free) ∈ names → (env.cells.lookup x).isSome = true) →
      (forIn names acc (fun (x : Str × NameKind) (r : List (Str × Addr)) => (do
        if x.2 == .free then
          let a ← cellOf env x.1
          pure (ForInStep.yield ((x.1, a) :: r))
        else pure (ForInStep.yield r) : Sem _)) : Sem (List (Str × Addr))) = pure (closL env names acc) := by
    intro names
    induction names with
    | nil => intro acc _; rfl
    | cons q r ih =>
      intro acc hq
      obtain ⟨x, k⟩ := q
      rw [List.forIn_cons]
      by_cases hk : (k == NameKind.free) = true
      · have hk' := beq_iff_eq.mp hk
        subst hk'
        obtain ⟨c, hc⟩ := Option.isSome_iff_exists.mp (hq x (.head _))
        simp only [closL, hc]
        unfold cellOf
        rw [hc]
        exact ih _ fun y hy => hq y (.tail _ hy)
      · simp only [closL, hk]
        exact ih _ fun y hy => hq y (.tail _ hy)
  have := main sc.names [] fun x hx => List.all_eq_true.mp h x (List.mem_map.mpr ⟨_, List.mem_filter.mpr ⟨hx, rfl⟩, rfl⟩)
  simp only [bind_pure] at this ⊢
  exact this
theorem closL_lookup {env : Env} {x : Str} {c : Addr} : ∀ (names : List (Str × NameKind)) (acc : List (Str × Addr)), (∀ y d, acc.lookup y = some d → env.cells.lookup y = some d) → (closL env names acc).lookup x = some c → env.cells.lookup x = some c
  | [], acc, h, e => h x c e
  | (y, k) :: r, acc, h, e => by
    unfold closL at e
    split at e
    · split at e
      · rename_i d hd
        refine closL_lookup r _ (fun z d' e' => ?_) e
        rw [List.lookup_cons] at e'
        cases hz : z == y with
        | true => rw [hz] at e'; cases e'; rw [beq_iff_eq.mp hz]; exact hd
        | false => rw [hz] at e'; exact h z d' e'
      · exact closL_lookup r _ h e
    · exact closL_lookup r _ h e
theorem closL_some {env : Env} {x : Str} : ∀ (names : List (Str × NameKind)) (acc : List (Str × Addr)), ((x, NameKind.free) ∈ names ∧ (env.cells.lookup x).isSome = true ∨ (acc.lookup x).isSome = true) → ((closL env names acc).lookup x).isSome = true
  | [], acc, h => by rcases h with ⟨h, _⟩ | h; cases h; exact h
  | (y, k) :: r, acc, h => by
    unfold closL
    split
    · rename_i hk
      split
      · rename_i d hd
        refine closL_some r _ ?_
        by_cases q : x = y
        · right; rw [q, List.lookup_cons, beq_self_eq_true]; rfl
        · rcases h with ⟨h1, h2⟩ | h
          · rcases List.mem_cons.mp h1 with e | h1
            · cases e; exact absurd rfl q
            · exact .inl ⟨h1, h2⟩
          · right; rw [List.lookup_cons, beq_eq_false_iff_ne.mpr q]; exact h
      · rename_i hd
        refine closL_some r _ ?_
        rcases h with ⟨h1, h2⟩ | h
        · rcases List.mem_cons.mp h1 with e | h1
          · cases e; rw [hd] at h2; cases h2
          · exact .inl ⟨h1, h2⟩
        · exact .inr h
    · rename_i hk
      refine closL_some r _ ?_
      rcases h with ⟨h1, h2⟩ | h
      · rcases List.mem_cons.mp h1 with e | h1
        · cases e; exact absurd rfl hk
        · exact .inl ⟨h1, h2⟩
      · exact .inr h
noncomputable def subLoc (ρ : Loc) (names : List Str) : Loc := names.filterMap fun x => (ρ.lookup x).map (x, ·)
theorem subLoc_lookup {ρ : Loc} {x : Str} {y : V} : ∀ {names : List Str}, (subLoc ρ names).lookup x = some y → x ∈ names ∧ ρ.lookup x = some y
  | [], e => by cases e
  | z :: r, e => by
    unfold subLoc at e
    rw [List.filterMap_cons] at e
    cases hz : ρ.lookup z with
    | none => rw [hz] at e; have := subLoc_lookup (names := r) e; exact ⟨.tail _ this.1, this.2⟩
    | some u =>
      rw [hz] at e
      simp only [Option.map_some, List.lookup_cons] at e
      cases hx : x == z with
      | true => rw [hx] at e; cases e; have := beq_iff_eq.mp hx; subst this; exact ⟨.head _, hz⟩
      | false => rw [hx] at e; have := subLoc_lookup (names := r) e; exact ⟨.tail _ this.1, this.2⟩

/-- the frame of a comprehension, its names at C -/
noncomputable abbrev compF (sc : Scope) (F : Fm) (C : Addr) : Fm := ⟨compEnvC sc (clos sc F.env) C F.env, [], []⟩
/-- what a comprehension's names must be -/
structure CompOk (sc : Scope) (F : Fm) : Prop where
  kind : sc.kind = .function
  loc : (sc.names.all fun q => q.2 != .local || sc.names.lookup q.1 == some .local) = true
  nocell : (sc.names.all fun q => q.2 != .cell) = true
  free : (freeNames sc).all (fun x => (F.env.cells.lookup x).isSome && isCellKind (F.env.kindOf x)) = true
  freeK : ∀ C, (freeNames sc).all (fun x => isCellKind ((compF sc F C).env.kindOf x)) = true

theorem CompOk.clos {sc : Scope} (x : CompOk sc F) : closureFor sc F.env = pure (clos sc F.env) :=
  closureFor_eq (List.all_eq_true.mpr fun z hz => (Bool.and_eq_true_iff.mp (List.all_eq_true.mp x.free z hz)).1)

theorem CompOk.enter {sc : Scope} (x : CompOk sc F) {g h h'} {C : Addr} (hg : GSt W g μ h) (hf : FSt W g F ρ μ h) (hg' : GSt W g μ h') (hk : ∀ a o, h.get? a = some o → h'.get? a = some o) (hC : h.get? C = none) (hn : h'.Ns C fun _ => none) (hCg : g C = none ∧ C ∉ addrs μ) :
    FSt W g (compF sc F C) (subLoc ρ (freeNames sc)) μ h' := by
  have fr := List.all_eq_true.mp x.free
  refine ⟨x.kind, hf.gl, hf.bt, ⟨_, hn, fun z y e1 e2 => ?_⟩, fun z y e1 e2 => ?_, fun z c e => ?_, fun a ha => ?_, fun z hz => (nomatch hz), fun z y c e1 e2 => ?_, fun z hz => (nomatch hz)⟩
  · have hz := (subLoc_lookup e1).1
    have := List.all_eq_true.mp (x.freeK C) z hz
    rw [e2] at this; exact absurd this (by decide)
  · obtain ⟨hz, e3⟩ := subLoc_lookup e1
    have f := Bool.and_eq_true_iff.mp (fr z hz)
    obtain ⟨c, o, v, h1, h2, h3, h4⟩ := hf.cel z y e3 f.2
    obtain ⟨q, hq, rfl⟩ := List.mem_map.mp hz
    obtain ⟨hq1, hq2⟩ := List.mem_filter.mp hq
    obtain ⟨c', hc'⟩ := Option.isSome_iff_exists.mp (closL_some (env := F.env) (x := q.1) sc.names [] (.inl ⟨by rw [← beq_iff_eq.mp hq2]; exact hq1, f.1⟩))
    have := closL_lookup sc.names [] (fun _ _ e => by cases e) hc'
    rw [h1] at this; cases this
    exact ⟨c, o, v, hc', hk _ _ h2, h3, h4⟩
  · have e' := closL_lookup sc.names [] (fun _ _ e => by cases e) e
    obtain ⟨⟨o, u, h1, h2⟩, h3, h4⟩ := hf.cin z c e'
    exact ⟨⟨o, u, hk _ _ h1, h2⟩, h3, fun q => by have q' : c = C := q; rw [q'] at h1; rw [hC] at h1; cases h1⟩
  · rcases List.mem_cons.mp ha with e | ha
    · have e' : a = C := e
      rw [e']; exact hCg
    · cases ha
  · exact hf.inj z y c (closL_lookup sc.names [] (fun _ _ e => by cases e) e1) (closL_lookup sc.names [] (fun _ _ e => by cases e) e2)

/-! ## the loop of a list comprehension -/
noncomputable def ifsT (W : Wd) (n : Nat) (F : Fm) (ρ : Loc) (μ : Mem) : List Expr → (Bool → Mem → Prop) → Prop
  | [], K => K true μ
  | [c], K => wpB W n F ρ μ c K
  | _, _ => False
noncomputable def compL (W : Wd) (n : Nat) (F : Fm) (target : Expr) (ifs : List Expr) (elt : Expr) (K : List V → Mem → Prop) : List V → List V → Loc → Mem → Prop
  | [], acc, ρ, μ => K acc μ
  | y :: ys, acc, ρ, μ => wpTg W n F ρ μ target y fun ρ' μ' => ifsT W n F ρ' μ' ifs fun ok μ'' => if ok = true then wpE W n F ρ' μ'' elt fun z μ₃ => compL W n F target ifs elt K ys (acc ++ [z]) ρ' μ₃ else compL W n F target ifs elt K ys acc ρ' μ''

section
variable {prog : Program} {w : World} {A : Around} {E : Value → Shared → Prop} {R : Result → Shared → Prop} {s : Shared}
theorem compLoop_any {elt target iter : Expr} {ifs : List Expr} {scope : Scope} {it acc : Value} {env : Env} (I : Nat → Shared → Prop)
    (turn : ∀ n s, I n s → wpAny (model prog w) A (pyNext it) (fun r s₁ => match r with
      | none => R (.ok .next) s₁
      | some v => wpAny (model prog w) A (letOwnedTupleGo target it v) (fun _ s₁' => wpAny (model prog w) A (assign target env v) (fun _ s₂ =>
          wpAny (model prog w) A (forIn ifs true fun c r => if r = true then do let ok ← isTrue c env (eval c env); pure (ForInStep.yield ok) else pure (ForInStep.yield r)) (fun ok s₃ =>
            if ok = true then wpAny (model prog w) A (eval elt env) (fun x s₄ =>
              wpAny (model prog w) A (call (.builtin "list.append") [acc, x]) (fun _ s₅ => ∃ m, m < n ∧ I m s₅) (notedBy (model prog w) A env fun e s' => R (.error e) s') s₄) (notedBy (model prog w) A env fun e s' => R (.error e) s') s₃
            else ∃ m, m < n ∧ I m s₃) (notedBy (model prog w) A env fun e s' => R (.error e) s') s₂) (notedBy (model prog w) A env fun e s' => R (.error e) s') s₁') (notedBy (model prog w) A env fun e s' => R (.error e) s') s₁) (notedBy (model prog w) A env fun e s' => R (.error e) s') s)
    (n : Nat) (h : I n s) :
    codeAny (model prog w) A (.compLoop (.ListComp elt [⟨target, iter, ifs, 0⟩] scope pos) 0 it acc env) R s := by
  refine codeAny_loop rfl I (fun n s hI => ?_) n h
  show wpAny _ A ((compTurn (.ListComp elt [⟨target, iter, ifs, 0⟩] scope pos) 0 it acc env).onRaise (fun x => do noteFrame x env; theTreesLotGoes x)) _ _ s
  refine wpAny_noted ?_
  rw [compTurn_list]
  refine wpAny_bind (wpAny_standAt (wpAny_bind (wpAny_mono (turn n s hI) (fun r s₁ h₁ => ?_) fun _ _ h' => h')))
  cases r with
  | none => exact wpAny_pure h₁
  | some v =>
    refine wpAny_bind (wpAny_mono h₁ (fun _ s₁' h₁' => ?_) fun _ _ h' => h')
    refine wpAny_bind (wpAny_mono h₁' (fun _ s₂ h₂ => wpAny_bind (wpAny_mono h₂ (fun ok s₃ h₃ => ?_) fun _ _ h' => h')) fun _ _ h' => h')
    cases ok with
    | false => exact wpAny_pure ⟨rfl, h₃⟩
    | true =>
      exact wpAny_bind (wpAny_bind (wpAny_mono h₃ (fun x s₄ h₄ => wpAny_bind (wpAny_mono h₄ (fun _ s₅ h₅ => wpAny_pure (wpAny_pure ⟨rfl, h₅⟩)) fun _ _ h' => h')) fun _ _ h' => h'))
end

theorem ifsT_go {A : Around} {g : G} {s : Shared} {ifs : List Expr} {K : Bool → Mem → Prop} (h : ifsT W n F ρ μ ifs K) (hA : Room n A) (hg : GSt W g μ s.heap) (hf : FSt W g F ρ μ s.heap) (Q : Bool → Shared → Prop)
    (hQ : ∀ b g' μ' h' tk', K b μ' → GSt W g' μ' h' → Nx [] g μ s.heap g' μ' h' → Q b { s with heap := h', toks := tk' }) :
    wpAny W.M A (forIn ifs true fun c r => if r = true then do let ok ← isTrue c F.env (eval c F.env); pure (ForInStep.yield ok) else pure (ForInStep.yield r)) Q (fun _ _ => False) s := by
  match ifs, h with
  | [], h => exact wpAny_tests_nil (hQ true g μ s.heap s.toks h hg .refl)
  | [c], h => exact wpAny_tests_one (h.go A g s hA hg hf _ fun b g' μ' h' tk' hR hg' nx => hQ b g' μ' h' tk' hR hg' nx)
  | _ :: _ :: _, h => exact h.elim

theorem comp_core {sc : Scope} {target iter elt : Expr} {ifs : List Expr} {A : Around} {g : G} {s s₂ : Shared} {g₁ : G} {μ₁ : Mem} {h₁ : Heap} {tk₁ : Nat} {I : Addr} {fp wr : List Addr} {St : Nat → Heap → Prop} {xs : List V} {K : List V → Mem → Prop} {RR : Value → Addr → Result → Shared → Prop} {E : Value → Shared → Prop}
    (ok : CompOk sc F) (hA : Room n A) (hf : FSt W g F ρ μ s.heap) (hs₂ : s₂ = { s with heap := h₁, toks := tk₁ }) (hg₁ : GSt W g₁ μ₁ h₁) (nx₁ : Nx [] g μ s.heap g₁ μ₁ h₁) (it : Itr W A g₁ target I fp wr xs St) (hst : St 0 h₁) (hfp : ∀ b ∈ fp, b ∈ wr ∨ ∃ o, g₁ b = some o)
    (hwr : ∀ b ∈ wr, s.heap.get? b = none ∧ g₁ b = none ∧ b ∉ addrs μ₁) (hlen : xs.length ≤ sizeLine) (hK : ∀ C, compL W n (compF sc F C) target ifs elt K xs [] (subLoc ρ (freeNames sc)) μ₁)
    (hRR : ∀ D C g' μ' h' tk' ys m', K ys μ' → GSt W g' μ' h' → Rep W.P g' (.ref D) (.lst ys) → h'.Ns C m' → g' C = none → C ∉ addrs μ' → s.heap.get? C = none → Nx [] g μ s.heap g' μ' h' → RR (.ref D) C (.ok .next) { s with heap := h', toks := tk' }) :
    wpAny W.M A (newList []) (fun acc s₃ => wpAny W.M A (newFunctionEnv sc F.env.globals (clos sc F.env) [] F.env.qual none .none (some F.env)) (fun cenv s₄ =>
      codeAny W.M A (.compStart (.ListComp elt [⟨target, iter, ifs, 0⟩] sc pos) 0 (.ref I) acc { cenv with scope := relabel sc F.env }) (RR acc cenv.locals) s₄) E s₃) E s₂ := by
  subst hs₂
  have hf₁ := hf.next hg₁ nx₁
  have hcell : ∀ x ∈ sc.names, x.2 ≠ .cell := fun x hx => by have := List.all_eq_true.mp ok.nocell x hx; simpa using this
  refine wpAny_newObj_type (wpAny_newFunctionEnv hcell (by intro y hy; simp at hy) (fun h₃ hns₃ hsb₃ => ?_) ok.kind)
  dsimp only at hns₃ hsb₃ ⊢
  generalize hH2 : h₁.push { cls := .type "list", dict := none, data := .seq ([] : List Value).toArray } = H2 at hns₃ hsb₃ ⊢
  have hC : H2.objs.size = h₁.objs.size + 1 := by rw [← hH2, Heap.size_push]
  generalize hDe : h₁.objs.size = D at *
  generalize hCe : H2.objs.size = C at *
  have hDC : D ≠ C := neN (by lia)
  have old : ∀ b o, h₁.get? b = some o → h₃.get? b = some o := fun b o e => by
    have hb : b < D := hDe ▸ Heap.lt_size e
    exact hsb₃.extBut b o (Nat.ne_of_lt (Nat.lt_trans hb (hC ▸ Nat.lt_succ_self D))) (Heap.get?_push_of_some _ (hH2 ▸ Heap.get?_push_of_some _ e))
  have nD : h₁.get? D = none := by rw [← hDe]; exact get_size _
  have nC : h₁.get? C = none := by
    cases e : h₁.get? C with
    | none => rfl
    | some o => exact absurd (Heap.lt_size e) (by rw [hDe, hC]; exact Nat.not_lt.mpr (Nat.le_succ D))
  have frD := hg₁.fresh nD
  have frC := hg₁.fresh nC
  have sC : s.heap.get? C = none := nx₁.new nC (fun q => nomatch q)
  have sD : s.heap.get? D = none := nx₁.new nD (fun q => nomatch q)
  have hacc : IsListP h₃ D #[] := ⟨_, hsb₃.extBut _ _ hDC (Heap.get?_push_of_some _ (by rw [← hH2, ← hDe]; exact Heap.get?_push_size _ rfl)), rfl, ⟨0, rfl⟩, rfl⟩
  obtain ⟨hg₃, nx₃⟩ := hg₁.keeps (h' := h₃) old
  have hns₃' : h₃.Ns C fun _ => none := hns₃
  have hfC := ok.enter hg₁ hf₁ hg₃ old nC hns₃' frC
  -- the addresses of the frame
  have wC : ∀ a ∈ wr, a ≠ C ∧ a ≠ D := fun a ha => by
    obtain ⟨o, e⟩ := it.live _ _ hst a ha
    refine ⟨fun q => ?_, fun q => ?_⟩
    · rw [q, nC] at e; cases e
    · rw [q, nD] at e; cases e
  have cellOld : ∀ z c, (compF sc F C).env.cells.lookup z = some c → ∃ o, s.heap.get? c = some o := fun z c e => by
    obtain ⟨⟨o, u, e2, _⟩, _⟩ := hf.cin z c (closL_lookup sc.names [] (fun _ _ e => by cases e) e)
    exact ⟨o, e2⟩
  have hT : ∀ a ∈ wr, a ≠ (compF sc F C).env.locals ∧ ∀ z c, (compF sc F C).env.cells.lookup z = some c → a ≠ c := fun a ha => ⟨(wC a ha).1, fun z c e => by
    rintro rfl
    obtain ⟨o, e2⟩ := cellOld z _ e
    rw [(hwr _ ha).1] at e2; cases e2⟩
  have hTo : ∀ a ∈ wr, a ∉ (compF sc F C).own := fun a ha q => by
    rcases List.mem_cons.mp q with e | q
    · exact (wC a ha).1 e
    · cases q
  have hTD : ∀ a ∈ [D], a ≠ (compF sc F C).env.locals ∧ ∀ z c, (compF sc F C).env.cells.lookup z = some c → a ≠ c := fun a ha => by
    rw [List.mem_singleton.mp ha]
    refine ⟨hDC, fun z c e => ?_⟩
    rintro rfl
    obtain ⟨o, e2⟩ := cellOld z _ e
    rw [sD] at e2; cases e2
  have Dfp : D ∉ fp := fun q => by
    rcases hfp D q with r | ⟨o, r⟩
    · exact (wC D r).2 rfl
    · rw [frD.1] at r; cases r
  have Cfp : C ∉ fp := fun q => by
    rcases hfp C q with r | ⟨o, r⟩
    · exact (wC C r).1 rfl
    · rw [frC.1] at r; cases r
  have hst₃ : St 0 h₃ := it.frame _ _ _ hst fun b _ o e => old b o e
  have ownT : ∀ a ∈ (compF sc F C).own, a ∈ [C, D] := fun a ha => by
    rcases List.mem_cons.mp ha with e | ha
    · have e' : a = C := e
      rw [e']; simp
    · cases ha
  have L₃ : LoopSt W (compF sc F C) St wr g₁ [C, D] g μ s 0 g₁ (subLoc ρ (freeNames sc)) μ₁ h₃ :=
    ⟨hg₃, hfC, hst₃, fun b hb => (hwr b hb).2, GLe.refl, (nx₁.trans nx₃).weak0⟩
  let J : Nat → Shared → Prop := fun k s' => ∃ i g₂ μ₂ ρ₂ h₂ tk₂ ws acc, s' = { s with heap := h₂, toks := tk₂ } ∧ k = xs.length - i ∧ i ≤ xs.length ∧ LoopSt W (compF sc F C) St wr g₁ [C, D] g μ s i g₂ ρ₂ μ₂ h₂ ∧
    IsListP h₂ D (ws : List Value).toArray ∧ Reps W.P g₂ ws acc ∧ acc.length ≤ i ∧ g₂ D = none ∧ D ∉ addrs μ₂ ∧ compL W n (compF sc F C) target ifs elt K (xs.drop i) acc ρ₂ μ₂
  -- the private list outlives a step of the frame
  have keepD : ∀ {g₂ μ₂ h₂ g₄ μ₄ h₄} {ws : List Value}, Nx (compF sc F C).own g₂ μ₂ h₂ g₄ μ₄ h₄ → IsListP h₂ D ws.toArray → g₂ D = none → D ∉ addrs μ₂ → IsListP h₄ D ws.toArray ∧ g₄ D = none ∧ D ∉ addrs μ₄ := by
    intro g₂ μ₂ h₂ g₄ μ₄ h₄ ws nx hl e1 e2
    obtain ⟨o, ho, r⟩ := hl
    have no : D ∉ (compF sc F C).own := fun q => by
      rcases List.mem_cons.mp q with e | q
      · exact hDC e
      · cases q
    refine ⟨⟨o, nx.step D o e2 no ho, r⟩, ?_, fun q => ?_⟩
    · cases q : g₄ D with
      | none => rfl
      | some o' =>
        rcases nx.gfr D o' q with r | r | r | r
        · rw [e1] at r; cases r
        · exact absurd r e2
        · exact absurd r no
        · rw [ho] at r; cases r
    · rcases nx.mfr D q with r | r | r
      · exact e2 r
      · exact no r
      · rw [ho] at r; cases r
  have loop : codeAny W.M A (.compLoop (.ListComp elt [⟨target, iter, ifs, 0⟩] sc pos) 0 (.ref I) (.ref D) (compF sc F C).env) (RR (.ref D) C) { s with heap := h₃, toks := tk₁ + ([] : List (Str × Value)).length } := by
    refine compLoop_any J ?_ xs.length ⟨0, g₁, μ₁, _, h₃, _, [], [], rfl, rfl, Nat.zero_le _, L₃, hacc, .nil, Nat.le_refl _, frD.1, frD.2, hK C⟩
    rintro k s' ⟨i, g₂, μ₂, ρ₂, h₂, tk₂, ws, acc, rfl, rfl, hi, L₂, hl₂, hr₂, hal, hD1, hD2, hK₂⟩
    by_cases hlt : i < xs.length
    · have hy : xs[i]? = some xs[i] := by simp [hlt]
      have hd : xs.drop i = xs[i] :: xs.drop (i + 1) := by rw [List.drop_eq_getElem_cons hlt]
      rw [hd] at hK₂
      let Q' : Value → Shared → Prop := fun v s₁ => wpAny W.M A (assign target (compF sc F C).env v) (fun _ s₂ =>
          wpAny W.M A (forIn ifs true fun c r => if r = true then do let ok ← isTrue c (compF sc F C).env (eval c (compF sc F C).env); pure (ForInStep.yield ok) else pure (ForInStep.yield r)) (fun ok s₃ =>
            if ok = true then wpAny W.M A (eval elt (compF sc F C).env) (fun x s₄ => wpAny W.M A (call (.builtin "list.append") [.ref D, x]) (fun _ s₅ => ∃ m, m < xs.length - i ∧ J m s₅) (fun _ _ => False) s₄) (fun _ _ => False) s₃
            else ∃ m, m < xs.length - i ∧ J m s₃) (fun _ _ => False) s₂) (fun _ _ => False) s₁
      refine wpAny_mono (it.item i _ { s with heap := h₂, toks := tk₂ } Q' (fun _ _ => False) hy L₂.st (fun a o e => L₂.gst.le _ _ (L₂.le _ _ e)) fun v h₄ tk₄ hit hst₄ hk₄ => ?_) (fun r s₁ hr => ?_) fun _ _ e => e.elim
      · obtain ⟨g₄, L₄, r₄, gle₄, hgf₄⟩ := L₂.draw it hT (fun b hb => (hwr b hb).1) hit hst₄ hk₄
        -- the private list is none of the walk's own
        obtain ⟨oD, hoD, hcD, ⟨kD, hdD⟩, hzD⟩ := hl₂
        have hl₄ : IsListP h₄ D ws.toArray := ⟨oD, hk₄ D oD (fun q => (wC D q).2 rfl) hoD, hcD, ⟨kD, hdD⟩, hzD⟩
        have hD1' : g₄ D = none := by
          cases q : g₄ D with
          | none => rfl
          | some o' =>
            rcases hgf₄ D o' q with r | r
            · rw [hD1] at r; cases r
            · rw [hoD] at r; cases r
        refine hK₂.go A g₄ _ v hA L₄.gst L₄.fst r₄ _ fun g₅ ρ₅ μ₅ h₅ tk₅ hB hg₅ hf₅ nx₅ => ?_
        have L₅ := L₄.step it hfp hTo hg₅ hf₅ nx₅ ownT
        obtain ⟨hl₅, hD5, hD5'⟩ := keepD nx₅ hl₄ hD1' hD2
        refine ifsT_go hB hA hg₅ hf₅ _ fun b g₆ μ₆ h₆ tk₆ hC₆ hg₆ nx₆ => ?_
        have hf₆ := hf₅.next hg₆ nx₆
        have L₆ := L₅.step it hfp hTo hg₆ hf₆ nx₆.weak0 ownT
        obtain ⟨hl₆, hD6, hD6'⟩ := keepD nx₆.weak0 hl₅ hD5 hD5'
        have gle₆ : GLe g₂ g₆ := (gle₄.trans nx₅.gle).trans nx₆.gle
        cases b with
        | false =>
          exact ⟨xs.length - (i + 1), by lia, i + 1, g₆, μ₆, ρ₅, h₆, tk₆, ws, acc, rfl, rfl, hlt, L₆, hl₆, hr₂.mono gle₆, by lia, hD6, hD6', hC₆⟩
        | true =>
          refine wpE.go hC₆ A g₆ _ hA hg₆ hf₆ _ fun z g₇ μ₇ h₇ tk₇ hR₇ hg₇ nx₇ => ?_
          obtain ⟨zz, rz, hC₇⟩ := hR₇
          have hf₇ := hf₆.next hg₇ nx₇
          have L₇ := L₆.step it hfp hTo hg₇ hf₇ nx₇.weak0 ownT
          obtain ⟨hl₇, hD7, hD7'⟩ := keepD nx₇.weak0 hl₆ hD6 hD6'
          refine listP_append hl₇ (fun h₈ hl₈ hs₈ => ?_) (by rw [List.size_toArray, hr₂.length]; lia)
          obtain ⟨hg₈, nx₈⟩ := hg₇.mine (T := [D]) hD7 hD7' (by simp) fun b o e1 e2 => (hs₈.2 b e1).trans e2
          have hf₈ := hf₇.nextT hg₈ nx₈ hTD
          have L₈ : LoopSt W (compF sc F C) St wr g₁ [C, D] g μ s (i + 1) g₇ ρ₅ μ₇ h₈ :=
            ⟨hg₈, hf₈, it.frame _ _ _ L₇.st fun b hb o e => (hs₈.2 b fun q => Dfp (q ▸ hb)).trans e, L₇.off, L₇.le, L₇.nx.trans (nx₈.weakT fun a ha => by rw [List.mem_singleton.mp ha]; simp)⟩
          have e8 : ws.toArray.push z = (ws ++ [z]).toArray := by simp
          exact ⟨xs.length - (i + 1), by lia, i + 1, g₇, μ₇, ρ₅, h₈, tk₇, ws ++ [z], acc ++ [zz], rfl, rfl, hlt, L₈, e8 ▸ hl₈, (hr₂.mono (gle₆.trans nx₇.gle)).append (.one rz), by simp; lia, hD7, hD7', hC₇⟩
      · obtain ⟨v, rfl, hr⟩ := hr
        refine wpAny_mono hr (fun _ s₂ hq => wpAny_mono hq (fun _ s₃ hq' => wpAny_mono hq' (fun ok s₄ hok => ?_) fun _ _ e => e.elim) fun _ _ e => e.elim) fun _ _ e => e.elim
        cases ok with
        | true => exact wpAny_mono hok (fun x s₅ hx => wpAny_mono hx (fun _ _ z => z) fun _ _ e => e.elim) fun _ _ e => e.elim
        | false => exact hok
    · have hin : i = xs.length := by lia
      subst hin
      rw [List.drop_length] at hK₂
      refine it.done _ _ _ L₂.st fun h₃ tk₃ hk₃ => ?_
      have hg₄ : GSt W g₂ μ₂ h₃ := ⟨L₂.gst.base, fun a o e => hk₃ a o (fun q => by rw [(L₂.off a q).1] at e; cases e) (L₂.gst.le _ _ e), fun q hq => by
        obtain ⟨o, e1, e2⟩ := L₂.gst.mem q hq
        exact ⟨o, hk₃ _ _ (fun r => (L₂.off _ r).2 (List.mem_map_of_mem hq)) e1, e2⟩, L₂.gst.off, L₂.gst.nd⟩
      have nx₄ : Nx wr g₂ μ₂ h₂ g₂ μ₂ h₃ := ⟨GLe.refl, fun _ _ e => .inl e, fun _ e => .inl e, fun a o _ h2 e => hk₃ a o h2 e, fun a o h2 e => ⟨o, hk₃ a o h2 e⟩⟩
      have hf₄ := L₂.fst.nextT hg₄ nx₄ hT
      obtain ⟨oD, hoD, hcD, ⟨kD, hdD⟩, hzD⟩ := hl₂
      have hoD' := hk₃ D oD (fun q => (wC D q).2 rfl) hoD
      -- the list is frozen
      have gl : GLe g₂ (gPut g₂ D oD) := fun a o' e => by
        unfold gPut
        by_cases q : a = D
        · rw [q, hD1] at e; cases e
        · rw [if_neg q]; exact e
      have hg₅ : GSt W (gPut g₂ D oD) μ₂ h₃ := ⟨hg₄.base.trans gl, fun a o' e => by
          unfold gPut at e
          by_cases q : a = D
          · rw [if_pos q] at e; cases e; rw [q]; exact hoD'
          · rw [if_neg q] at e; exact hg₄.le _ _ e,
        fun q hq => let ⟨o', e1, e2⟩ := hg₄.mem q hq; ⟨o', e1, e2.mono gl⟩, fun a ha => by
          unfold gPut
          rw [if_neg fun q : a = D => hD2 (q ▸ ha)]; exact hg₄.off a ha, hg₄.nd⟩
      have nx₅ : Nx [D] g₂ μ₂ h₃ (gPut g₂ D oD) μ₂ h₃ := ⟨gl, fun a o' e => by
          unfold gPut at e
          by_cases q : a = D
          · rw [q]; exact .inr (.inr (.inl (by simp)))
          · rw [if_neg q] at e; exact .inl e, fun _ e => .inl e, fun _ _ _ _ e => e, fun _ o _ e => ⟨o, e⟩⟩
      have nxA : Nx [C, D] g μ s.heap g₂ μ₂ h₃ := L₂.nx.drop (wr := wr) (nx₄.weakT fun a ha => List.mem_append_right _ ha) fun b hb => (hwr b hb).1
      have nxB : Nx ([] ++ [C, D]) g μ s.heap (gPut g₂ D oD) μ₂ h₃ := nxA.trans (nx₅.weakT fun a ha => by rw [List.mem_singleton.mp ha]; simp)
      have nxC : Nx [] g μ s.heap (gPut g₂ D oD) μ₂ h₃ := Nx.refl.drop (wr := [C, D]) nxB fun b hb => by
        rcases List.mem_cons.mp hb with rfl | hb
        · exact sC
        · rw [List.mem_singleton.mp hb]; exact sD
      obtain ⟨m', hm', _⟩ := hf₄.loc
      have oC := hf₄.own C List.mem_cons_self
      exact hRR D C _ μ₂ h₃ tk₃ acc m' hK₂ hg₅ (.lst (if_pos rfl) hcD hdD hzD (hr₂.mono gl)) hm' (by unfold gPut; rw [if_neg (Ne.symm hDC)]; exact oC.1) oC.2 sC nxC
  exact codeAny_compStart_list loop (it.self 0 _ _ _ hst₃ loop)

theorem E_ListComp {sc : Scope} {target iter elt : Expr} {ifs : List Expr} {K : V → Mem → Prop} (ok : CompOk sc F)
    (h : iterE W n F ρ μ target iter fun xs μ₁ => xs.length ≤ sizeLine ∧ ∀ C, compL W n (compF sc F C) target ifs elt (fun ys => K (.lst ys)) xs [] (subLoc ρ (freeNames sc)) μ₁)
    (hs : ∀ x, foldedSetIterable iter F.env x = pure x := by intro _; rfl) : wpE W n F ρ μ (.ListComp elt [⟨target, iter, ifs, 0⟩] sc pos) K := by
  refine ⟨fun A g s hA hg hf Q hQ => ?_⟩
  rw [eval_ListComp]
  have hnames : ∀ x ∈ sc.names, x.2 = .local → sc.names.lookup x.1 = some .local := fun x hx hl => by
    have := List.all_eq_true.mp ok.loc x hx
    simpa [hl] using this
  refine wpAny_comprehension_free (use := none) rfl hs ok.clos ok.kind hnames (h.go A g s hA hg hf _ fun g₁ μ₁ I fp wr St h₁ tk₁ xs hK hg₁ nx₁ it hst hfp hwr => ?_)
  refine comp_core (tk₁ := tk₁) (RR := fun acc C => compPost W.M A (fun _ _ => False) none Q acc C) ok hA hf rfl hg₁ nx₁ it hst hfp hwr hK.1 hK.2 ?_
  intro D C g' μ' h' tk' ys m' hKy hg' hr hn hC1 hC2 hC3 nx
  refine ⟨m', hn, fun h'' hs'' => ?_⟩
  obtain ⟨hg'', nx''⟩ := hg'.mine (T := [C]) (h' := h'') hC1 hC2 (by simp) fun b o e1 e2 => (hs''.2 b e1).trans e2
  exact hQ _ g' μ' h'' tk' ⟨_, hr, hKy⟩ hg'' (nx.drop (wr := [C]) nx'' fun b hb => by rw [List.mem_singleton.mp hb]; exact hC3)

theorem X_AssignComp {sc : Scope} {target iter elt : Expr} {ifs : List Expr} {x : Str} {px cpos : Pos} {K : Out → Mem → Prop} (ok : CompOk sc F)
    (hsw : swapsWith (.ListComp elt [⟨target, iter, ifs, 0⟩] sc cpos) (some (.Name x px)) pos.line F.env = pure true)
    (h : iterE W n F ρ μ target iter fun xs μ₁ => xs.length ≤ sizeLine ∧ ∀ C, compL W n (compF sc F C) target ifs elt (fun ys μ' => wpSt W n F ρ μ' x (.lst ys) fun ρ' => K (.next ρ')) xs [] (subLoc ρ (freeNames sc)) μ₁)
    (hs : ∀ x, foldedSetIterable iter F.env x = pure x := by intro _; rfl) : wpX W n F ρ μ (.Assign [.Name x px] (.ListComp elt [⟨target, iter, ifs, 0⟩] sc cpos) pos) K := by
  refine ⟨fun A g s hA hg hf Q hQ => ?_⟩
  have hnames : ∀ x ∈ sc.names, x.2 = .local → sc.names.lookup x.1 = some .local := fun x hx hl => by
    have := List.all_eq_true.mp ok.loc x hx
    simpa [hl] using this
  rw [exec_Assign_Name_used _ _ _ _ hsw]
  refine wpAny_bind (wpAny_standAt (wpAny_bind ?_))
  show wpAny _ A (do let _ ← comprehension (.ListComp elt [⟨target, iter, ifs, 0⟩] sc cpos) sc F.env _ (newList []) false (eval iter F.env) (some (assign (.Name x px) F.env))) _ _ s
  refine wpAny_bind (wpAny_mono (wpAny_comprehension_free (use := some (assign (.Name x px) F.env)) (Q := fun _ s' => Q .next s') rfl hs ok.clos ok.kind hnames
    (h.go A g s hA hg hf _ fun g₁ μ₁ I fp wr St h₁ tk₁ xs hK hg₁ nx₁ it hst hfp hwr => ?_)) (fun _ s' hq => wpAny_pure (wpAny_pure hq)) fun _ _ e => e)
  refine comp_core (tk₁ := tk₁) (RR := fun acc C => compPost W.M A (fun _ _ => False) (some (assign (.Name x px) F.env)) (fun _ s' => Q .next s') acc C) ok hA hf rfl hg₁ nx₁ it hst hfp hwr hK.1 hK.2 ?_
  intro D C g' μ' h' tk' ys m' hKy hg' hr hn hC1 hC2 hC3 nx
  have hf' := hf.next hg' nx
  show wpAny _ A (assign (.Name x px) F.env (.ref D)) _ _ _
  refine wpAny_assign_Name (hKy.go A g' _ _ hA hg' hf' hr _ fun ρ₂ h₂ tk₂ hK₂ hg₂ hf₂ nx₂ => ?_)
  have hCo : C ∉ F.own := fun q => by
    rcases List.mem_cons.mp q with e | q
    · obtain ⟨m, ⟨o, _, _, e2, _⟩, _⟩ := hf.loc
      rw [← e, hC3] at e2; cases e2
    · obtain ⟨z, _, e⟩ := List.mem_filterMap.mp q
      obtain ⟨⟨o, u, e2, _⟩, _⟩ := hf.cin z _ e
      rw [hC3] at e2; cases e2
  obtain ⟨oC, es, ep, eC, r⟩ := hn
  refine ⟨m', ⟨oC, es, ep, nx₂.step _ _ hC2 hCo eC, r⟩, fun h'' hs'' => ?_⟩
  obtain ⟨hg'', nx''⟩ := hg₂.mine (T := [C]) (h' := h'') hC1 hC2 (by simp) fun b o e1 e2 => (hs''.2 b e1).trans e2
  have hf'' := hf₂.nextT hg'' nx'' fun a ha => by
    rw [List.mem_singleton.mp ha]
    refine ⟨fun q => hCo (q ▸ List.mem_cons_self), fun z c e q => ?_⟩
    obtain ⟨⟨o, u, e2, _⟩, _⟩ := hf.cin z _ e
    rw [← q, hC3] at e2; cases e2
  exact hQ _ (.next ρ₂) _ _ h'' tk₂ hK₂ ⟨rfl, hf''⟩ hg'' ((nx.weak0.trans nx₂).drop (wr := [C]) (nx''.weakT fun a ha => List.mem_append_right _ ha) fun b hb => by rw [List.mem_singleton.mp hb]; exact hC3)
end
end
section
section
variable {W : Wd} {n : Nat} {F : Fm} {ρ : Loc} {μ : Mem} {pos : Pos}

/-! ## what is new becomes ours -/
theorem GSt.adopt {g h h'} (x : GSt W g μ h) {a : Addr} {o : Obj} (k : ∀ b o, h.get? b = some o → h'.get? b = some o) (e0 : h.get? a = none) (e : h'.get? a = some o) :
    GSt W (gPut g a o) μ h' ∧ Nx [] g μ h (gPut g a o) μ h' ∧ (gPut g a o) a = some o := by
  have fr := x.fresh e0
  have gl : GLe g (gPut g a o) := fun b o' e => by
    unfold gPut
    by_cases q : b = a
    · rw [q, fr.1] at e; cases e
    · rw [if_neg q]; exact e
  refine ⟨⟨x.base.trans gl, fun b o' e' => ?_, fun q hq => ?_, fun b hb => ?_, x.nd⟩, ⟨gl, fun b o' e' => ?_, fun b hb => .inl hb, fun b o' _ _ e => k _ _ e, fun b o' _ e => ⟨o', k _ _ e⟩⟩, if_pos rfl⟩
  · unfold gPut at e'
    by_cases q : b = a
    · rw [if_pos q] at e'; cases e'; rw [q]; exact e
    · rw [if_neg q] at e'; exact k _ _ (x.le _ _ e')
  · obtain ⟨o', h1, h2⟩ := x.mem q hq
    exact ⟨o', k _ _ h1, h2.mono gl⟩
  · unfold gPut
    rw [if_neg fun q : b = a => fr.2 (q ▸ hb)]; exact x.off b hb
  · unfold gPut at e'
    by_cases q : b = a
    · rw [q]; exact .inr (.inr (.inr e0))
    · rw [if_neg q] at e'; exact .inl e'
/-! ## builtin calls -/
theorem F_len_lst {ys : List V} {K : V → Mem → Prop} (hsz : (ys.length : Int) < 2 ^ 63) (h : K (.int ys.length) μ) : wpF W n (.raw (.builtin "len")) [.lst ys] μ K :=
  ⟨fun fv vs => .still fun A g s Q hA hg hp hQ => by
    obtain ⟨h1, h2⟩ := hp
    apply h1.raw_elim
    apply h2.cons_elim; intro _ _ r r2
    apply r2.nil_elim
    apply r.lst_elim; intro _ _ _ _ e1 e2 e3 e4 rs
    have e := rs.length
    exact len_list ⟨_, hg.le _ _ e1, e2, _, e3⟩ (by rw [List.size_toArray, e]; exact hsz) (hQ _ _ ⟨_, by rw [List.size_toArray, e]; exact .int _ _, h⟩)⟩
theorem F_len_tup {ys : List V} {K : V → Mem → Prop} (hsz : (ys.length : Int) < 2 ^ 63) (h : K (.int ys.length) μ) : wpF W n (.raw (.builtin "len")) [.tup ys] μ K :=
  ⟨fun fv vs => .still fun A g s Q hA hg hp hQ => by
    obtain ⟨h1, h2⟩ := hp
    apply h1.raw_elim
    apply h2.cons_elim; intro _ _ r r2
    apply r2.nil_elim
    apply r.tup_elim; intro _ _ _ _ e1 e2 e3 rs
    have e := rs.length
    exact PyProof.Rows.len_tuple ⟨_, hg.le _ _ e1, e2, _, e3⟩ (by rw [List.size_toArray, e]; exact hsz) (hQ _ _ ⟨_, by rw [List.size_toArray, e]; exact .int _ _, h⟩)⟩
theorem F_len_mlst {a : Addr} {ys : List V} {K : V → Mem → Prop} (hm : μ.lookup a = some (.lst ys)) (hsz : (ys.length : Int) < 2 ^ 63) (h : K (.int ys.length) μ) : wpF W n (.raw (.builtin "len")) [.raw (.ref a)] μ K :=
  ⟨fun fv vs => .still fun A g s Q hA hg hp hQ => by
    obtain ⟨h1, h2⟩ := hp
    apply h1.raw_elim
    apply h2.cons_elim; intro _ _ r r2
    apply r2.nil_elim; apply r.raw_elim
    obtain ⟨o, ho, hr⟩ := hg.get hm
    apply hr.lst_elim; intro _ _ c1 c2 c3 c4 c5 rs
    have e := rs.length
    exact len_list ⟨_, ho, c1, _, c2⟩ (by rw [List.size_toArray, e]; exact hsz) (hQ _ _ ⟨_, by rw [List.size_toArray, e]; exact .int _ _, h⟩)⟩
theorem F_tuple_lst {ys : List V} {K : V → Mem → Prop} (hsz : ys.length ≤ sizeLine) (h : K (.tup ys) μ) : wpF W n (.raw (.type "tuple")) [.lst ys] μ K := by
  refine ⟨fun fv vs A g s hA hg hp Q hQ => ?_⟩
  obtain ⟨h1, h2⟩ := hp
  apply h1.raw_elim
  apply h2.cons_elim; intro _ _ r r2
  apply r2.nil_elim
  apply r.lst_elim; intro _ _ _ _ e1 e2 e3 e4 rs
  rename_i a o ws k
  refine call_tuple_list ⟨_, hg.le _ _ e1, e2, _, e3⟩ (fun h' k' => ?_) (by rw [List.size_toArray, rs.length]; exact hsz)
  obtain ⟨hg₁, nx₁⟩ := hg.keeps k'
  obtain ⟨hg₂, nx₂, e⟩ := hg₁.alloc (o := { cls := .type "tuple", data := .seq ws.toArray }) rfl
  exact hQ _ _ _ _ s.toks ⟨_, .tup e rfl rfl (rs.mono nx₂.gle), h⟩ hg₂ (nx₁.trans nx₂)
/-- list(list), frozen -/
theorem F_list_lst {ys : List V} {K : V → Mem → Prop} (hsz : ys.length ≤ sizeLine) (h : K (.lst ys) μ) : wpF W n (.raw (.type "list")) [.lst ys] μ K := by
  refine ⟨fun fv vs A g s hA hg hp Q hQ => ?_⟩
  obtain ⟨h1, h2⟩ := hp
  apply h1.raw_elim
  apply h2.cons_elim; intro _ _ r r2
  apply r2.nil_elim
  apply r.lst_elim; intro _ _ _ _ e1 e2 e3 e4 rs
  rename_i a o ws k
  refine call_list_seq a (.inl rfl) (hg.le _ _ e1) e2 e3 (fun h' c' k' e' => ?_) (by rw [List.size_toArray, rs.length]; exact hsz)
  obtain ⟨hg₂, nx₂, e⟩ := hg.adopt k' (get_size _) e'
  exact hQ _ _ _ _ s.toks ⟨_, .lst e rfl rfl rfl (rs.mono nx₂.gle), h⟩ hg₂ nx₂
theorem F_int_int {i : Int} {K : V → Mem → Prop} (h : K (.int i) μ) : wpF W n (.raw (.type "int")) [.int i] μ K :=
  ⟨fun fv vs => .still fun A g s Q hA hg hp hQ => by
    obtain ⟨h1, h2⟩ := hp
    apply h1.raw_elim
    apply h2.cons_elim; intro _ _ r r2
    apply r2.nil_elim; apply r.int_elim; intro _; exact call_int_int (hQ _ s.toks ⟨_, .int _ _, h⟩)⟩
theorem F_int_bool {b : Bool} {K : V → Mem → Prop} (h : K (.int (if b then 1 else 0)) μ) : wpF W n (.raw (.type "int")) [.bool b] μ K :=
  ⟨fun fv vs => .still fun A g s Q hA hg hp hQ => by
    obtain ⟨h1, h2⟩ := hp
    apply h1.raw_elim
    apply h2.cons_elim; intro _ _ r r2
    apply r2.nil_elim; apply r.bool_elim; exact call_int_bool (hQ _ _ ⟨_, .int _ _, h⟩)⟩
theorem F_max2 {i j : Int} {K : V → Mem → Prop} (h : K (.int (if j > i then j else i)) μ) : wpF W n (.raw (.builtin "max")) [.int i, .int j] μ K := by
  refine ⟨fun fv vs A g s hA hg hp Q hQ => ?_⟩
  obtain ⟨h1, h2⟩ := hp
  apply h1.raw_elim
  apply h2.cons_elim; intro _ _ r r2
  apply r2.cons_elim; intro _ _ r' r3
  apply r3.nil_elim; apply r.int_elim; intro _; apply r'.int_elim; intro _
  refine max_two_ints hA.handled fun h' tk k => ?_
  obtain ⟨hg₁, nx₁⟩ := hg.keeps k
  refine hQ _ _ _ _ tk ⟨_, ?_, h⟩ hg₁ nx₁
  split <;> exact .int _ _
theorem F_isint {i : Int} {K : V → Mem → Prop} (h : K (.bool true) μ) : wpF W n (.raw (.builtin "isinstance")) [.int i, .raw (.type "int")] μ K :=
  ⟨fun fv vs => .still fun A g s Q hA hg hp hQ => by
    obtain ⟨h1, h2⟩ := hp
    apply h1.raw_elim
    apply h2.cons_elim; intro _ _ r r2
    apply r2.cons_elim; intro _ _ r' r3
    apply r3.nil_elim; apply r.int_elim; intro _; apply r'.raw_elim; exact IsiPair.int_int (hQ _ s.toks ⟨_, .bool _, h⟩)⟩

/-! ## joining -/
theorem op_add_lst {xs ys : List V} {K : V → Mem → Prop} (hsz : xs.length + ys.length ≤ sizeLine) (h : K (.lst (xs ++ ys)) μ) : opT W n (binaryOp .Add) (.lst xs) (.lst ys) μ K := by
  refine ⟨fun v u A g s hA hg hp Q hQ => ?_⟩
  obtain ⟨r1, r2⟩ := hp
  apply r1.lst_elim; intro _ _ _ _ e1 e2 e3 e4 rs
  apply r2.lst_elim; intro _ _ _ _ f1 f2 f3 f4 rt
  rename_i a o vs k b o' ws k'
  obtain ⟨cls, dd, data, sl⟩ := o
  obtain ⟨cls2, dd2, data2, sl2⟩ := o'
  simp only at e2 e3 f2 f3
  subst e2 e3 f2 f3
  have e : vs.toArray ++ ws.toArray = (vs ++ ws).toArray := by simp
  refine concat_meets ⟨_, hg.le _ _ e1, rfl⟩ ⟨_, hg.le _ _ f1, rfl⟩ noFill_list_add seq_list_add PySem.F.slot_list_add PySem.F.entry_list_add (PySem.F.args_list_add_2 _ _) (list_addW a b vs.toArray ws.toArray k k' dd dd2 sl sl2 (by rw [List.size_toArray, List.size_toArray, rs.length, rt.length]; exact hsz)) ⟨hg.le _ _ e1, hg.le _ _ f1, ?_⟩
  rw [e]
  obtain ⟨hg₂, nx₂, e'⟩ := hg.alloc (o := { cls := .type "list", data := .seq (vs ++ ws).toArray }) rfl
  exact hQ _ _ _ _ s.toks ⟨_, .lst e' rfl rfl rfl ((rs.append rt).mono nx₂.gle), h⟩ hg₂ nx₂
theorem op_add_tup {xs ys : List V} {K : V → Mem → Prop} (hsz : xs.length + ys.length ≤ sizeLine) (h : K (.tup (xs ++ ys)) μ) : opT W n (binaryOp .Add) (.tup xs) (.tup ys) μ K := by
  refine ⟨fun v u A g s hA hg hp Q hQ => ?_⟩
  obtain ⟨r1, r2⟩ := hp
  have r1' := r1
  have r2' := r2
  cases r1 with
  | tup e1 e2 e3 rs =>
    cases r2 with
    | tup f1 f2 f3 rt =>
      rename_i a o vs k b o' ws k'
      obtain ⟨cls, dd, data, sl⟩ := o
      obtain ⟨cls2, dd2, data2, sl2⟩ := o'
      simp only at e2 e3 f2 f3
      subst e2 e3 f2 f3
      have e : vs.toArray ++ ws.toArray = (vs ++ ws).toArray := by simp
      by_cases hv : vs = []
      · subst hv
        cases rs
        exact concat_meets ⟨_, hg.le _ _ e1, rfl⟩ ⟨_, hg.le _ _ f1, rfl⟩ noFill_tuple_add seq_tuple_add PySem.F.slot_tuple_add PySem.F.entry_tuple_add (PySem.F.args_tuple_add_2 _ _)
          (tuple_addW0 a b _ ws.toArray k k' dd dd2 sl sl2 rfl) ⟨hg.le _ _ e1, hg.le _ _ f1, hQ _ g μ s.heap s.toks ⟨_, r2', h⟩ hg .refl⟩
      · by_cases hw : ws = []
        · subst hw
          cases rt
          rw [List.append_nil] at h
          exact concat_meets ⟨_, hg.le _ _ e1, rfl⟩ ⟨_, hg.le _ _ f1, rfl⟩ noFill_tuple_add seq_tuple_add PySem.F.slot_tuple_add PySem.F.entry_tuple_add (PySem.F.args_tuple_add_2 _ _)
            (tuple_addW1 a b vs.toArray _ k k' dd dd2 sl sl2 (by simpa using hv) rfl) ⟨hg.le _ _ e1, hg.le _ _ f1, hQ _ g μ s.heap s.toks ⟨_, r1', h⟩ hg .refl⟩
        · refine concat_meets ⟨_, hg.le _ _ e1, rfl⟩ ⟨_, hg.le _ _ f1, rfl⟩ noFill_tuple_add seq_tuple_add PySem.F.slot_tuple_add PySem.F.entry_tuple_add (PySem.F.args_tuple_add_2 _ _)
            (tuple_addW2 a b vs.toArray ws.toArray k k' dd dd2 sl sl2 (by simpa using hv) (by simpa using hw) (by rw [List.size_toArray, List.size_toArray, rs.length, rt.length]; exact hsz)) ⟨hg.le _ _ e1, hg.le _ _ f1, ?_⟩
          rw [e]
          obtain ⟨hg₂, nx₂, e'⟩ := hg.alloc (o := { cls := .type "tuple", data := .seq (vs ++ ws).toArray }) rfl
          exact hQ _ _ _ _ s.toks ⟨_, .tup e' rfl rfl ((rs.append rt).mono nx₂.gle), h⟩ hg₂ nx₂
end

theorem rmul_listG (a : Int) (t : Tok) (l : Addr) (items : Array Value) (n : Nat) (dd : Option Addr) (sl : Array (Option Value)) :
    Meets (Builtin.«int.__rmul__» ⟨[.int a t, .ref l], []⟩) (fun _ R s => s.heap.get? l = some { cls := .type "list", dict := dd, data := .seq items n, slots := sl } ∧ R (.ok (.ret Value.notImplemented)) s) :=
  .of_wp fun prog w A R s h => by obtain ⟨hp, g, d, tk, os⟩ := s; obtain ⟨hl, h⟩ := h; wp_walk; exact ⟨_, rfl, h⟩
theorem mul_listG (l : Addr) (items : Array Value) (n : Nat) (x : Int) (u : Tok) (dd : Option Addr) (sl : Array (Option Value)) (hc0 : ¬(!Builtin.List.listFitsIndex x) = true) (hc1 : ¬items.size * x.toNat > (2 ^ 63 - 1) / 8) (hc2 : ¬Builtin.List.listTooLong (items.size * x.toNat) = true) :
    Meets (Builtin.«list.__mul__» ⟨[.ref l, .int x u], []⟩) (fun _ R s => s.heap.get? l = some { cls := .type "list", dict := dd, data := .seq items n, slots := sl } ∧ R (.ok (.ret (Value.ref s.heap.objs.size))) { s with heap := s.heap.push { cls := Value.type "list", data := Data.seq (List.foldl (fun x1 x2 => x1 ++ x2) #[] (List.replicate (if items.isEmpty = true then 0 else x.toNat) items)) }, toks := s.toks }) :=
  .of_wp fun prog w A R s h => by
    obtain ⟨hp, g, d, tk, os⟩ := s; obtain ⟨hl, h⟩ := h
    have hsz := AutoListH.joined_fits hc2
    have f1 := AutoSeq1.idx_int; have f2 := AutoSeq1.sub_tuple_tuple; have f3 := AutoSeq1.sub_list_list; have f4 := AutoSeq1.sub_tuple_list; have f5 := AutoSeq1.sub_list_tuple
    wp_walk; refine wpAny_ite_false (decide_eq_false (Nat.not_lt.mpr hsz)) ?_; wp_walk; exact ⟨_, rfl, h⟩
theorem fold_rep (vs : List Value) : ∀ (k : Nat) (acc : List Value), List.foldl (fun x1 x2 => x1 ++ x2) acc.toArray (List.replicate k vs.toArray) = (acc ++ (List.replicate k vs).flatten).toArray
  | 0, acc => by simp
  | k + 1, acc => by
    rw [List.replicate_succ, List.foldl_cons, List.replicate_succ, List.flatten_cons, ← List.append_assoc]
    have := fold_rep vs k (acc ++ vs)
    rw [← this]; simp
theorem Reps.rep {P : Params} {g : G} {vs : List Value} {ys : List V} (h : Reps P g vs ys) : ∀ k : Nat, Reps P g (List.replicate k vs).flatten (List.replicate k ys).flatten
  | 0 => .nil
  | k + 1 => by rw [List.replicate_succ, List.replicate_succ, List.flatten_cons, List.flatten_cons]; exact h.append (Reps.rep h k)
section
variable {W : Wd} {n : Nat} {F : Fm} {ρ : Loc} {μ : Mem} {pos : Pos}
theorem op_mul_lst {xs : List V} {i : Int} {K : V → Mem → Prop} (hi : 0 ≤ i) (hne : xs ≠ []) (hhi : i < 2 ^ 20) (hsz : xs.length * i.toNat ≤ 2 ^ 24) (h : K (.lst (List.replicate i.toNat xs).flatten) μ) : opT W n (binaryOp .Mult) (.lst xs) (.int i) μ K := by
  refine ⟨fun v u A g s hA hg hp Q hQ => ?_⟩
  obtain ⟨r1, r2⟩ := hp
  apply r2.int_elim; intro _
  apply r1.lst_elim; intro _ _ _ _ e1 e2 e3 e4 rs
  rename_i t a o vs k
  obtain ⟨cls, dd, data, sl⟩ := o
  simp only at e2 e3
  subst e2 e3
  have el := hg.le _ _ e1
  have hl := rs.length
  have hsz' : vs.toArray.size * i.toNat ≤ 2 ^ 24 := by rw [List.size_toArray, hl]; exact hsz
  refine wpAny_binaryOp_repeat_ref (T := "list") (U := "int") (by decide) ⟨_, el, rfl⟩ (fun s' => typeIs_int s' i t) noFill_list_mul F.fills_int_mul F.slot_int_rmul repeat_list F.slot_int_index.lookup
    (call_meets F.slot_int_rmul (typeIs_int s i t) F.entry_int_rmul (F.args_int_rmul_2 _ _) (rmul_listG i t a vs.toArray k dd sl)
      ⟨el, rfl, ⟨_, el, rfl⟩, call_meets F.slot_list_mul ⟨_, el, rfl⟩ F.entry_list_mul (F.args_list_mul_2 _ _)
        (mul_listG a vs.toArray k i t dd sl (by simp [Builtin.List.listFitsIndex]; lia) (by lia) (by simp [Builtin.List.listTooLong, sizeLine]; rw [← List.size_toArray]; lia))
        ⟨el, ?_⟩⟩)
  have hvs : vs ≠ [] := fun q => hne (List.length_eq_zero_iff.mp (by rw [← hl, q]; rfl))
  rw [if_neg (by simpa using hvs), show (#[] : Array Value) = ([] : List Value).toArray from rfl, fold_rep, List.nil_append]
  obtain ⟨hg₂, nx₂, e'⟩ := hg.alloc (o := { cls := .type "list", data := .seq (List.replicate i.toNat vs).flatten.toArray }) rfl
  exact hQ _ _ _ _ s.toks ⟨_, .lst e' rfl rfl rfl ((rs.rep _).mono nx₂.gle), h⟩ hg₂ nx₂
theorem E_Neg {x : Expr} {K : V → Mem → Prop} (h : wpE W n F ρ μ x fun y μ' => ∃ i, y = .int i ∧ K (.int (-i)) μ') : wpE W n F ρ μ (.UnaryOp .USub x pos) K := by
  refine ⟨fun A g s hA hg hf Q hQ => ?_⟩
  refine wpAny_UnaryOp (h.go A g s hA hg hf _ fun v g₁ μ₁ h₁ tk₁ hR₁ hg₁ nx₁ => ?_)
  obtain ⟨y, r, i, rfl, hb⟩ := hR₁
  apply r.int_elim; intro _
  exact PyProof.Rows.neg_int (hQ _ _ _ _ _ ⟨_, .int _ _, hb⟩ hg₁ nx₁)
/-! ## freezing -/
noncomputable def mdel (μ : Mem) (a : Addr) : Mem := μ.filter fun q => !(q.1 == a)
theorem mem_mdel {a : Addr} {q : Addr × M} : q ∈ mdel μ a ↔ q ∈ μ ∧ q.1 ≠ a := by
  unfold mdel
  rw [List.mem_filter]; simp
theorem addrs_mdel {a b : Addr} : b ∈ addrs (mdel μ a) ↔ b ∈ addrs μ ∧ b ≠ a := by
  constructor
  · intro h
    obtain ⟨q, hq, rfl⟩ := List.mem_map.mp h
    exact ⟨List.mem_map_of_mem (mem_mdel.mp hq).1, (mem_mdel.mp hq).2⟩
  · rintro ⟨h, h2⟩
    obtain ⟨q, hq, rfl⟩ := List.mem_map.mp h
    exact List.mem_map_of_mem (mem_mdel.mpr ⟨hq, h2⟩)
theorem mdel_head {a : Addr} {m : M} (h : a ∉ addrs μ) : mdel ((a, m) :: μ) a = μ := by
  unfold mdel
  rw [List.filter_cons, if_neg (by simp)]
  exact List.filter_eq_self.mpr fun q hq => by
    have : q.1 ≠ a := fun e => h (e ▸ List.mem_map_of_mem hq)
    simpa using this
theorem mdel_ne {a b : Addr} {m : M} (h : b ≠ a) : mdel ((b, m) :: μ) a = (b, m) :: mdel μ a := by
  unfold mdel
  rw [List.filter_cons, if_pos (by simpa using h)]
theorem mset_head {a : Addr} {m m' : M} (h : a ∉ addrs μ) : mset ((a, m) :: μ) a m' = (a, m') :: μ := by
  unfold mset
  rw [List.map_cons, if_pos rfl]
  congr 1
  conv => rhs; rw [← List.map_id μ]
  exact List.map_congr_left fun q hq => if_neg fun e : q.1 = a => h (e ▸ List.mem_map_of_mem hq)
theorem mset_ne {a b : Addr} {m m' : M} (h : b ≠ a) : mset ((b, m) :: μ) a m' = (b, m) :: mset μ a m' := by
  unfold mset
  rw [List.map_cons, if_neg h]
theorem mset_mset {a : Addr} {m m' : M} : mset (mset μ a m) a m' = mset μ a m' := by
  unfold mset
  rw [List.map_map]
  exact List.map_congr_left fun q _ => by
    simp only [Function.comp]
    by_cases e : q.1 = a
    · rw [if_pos e, if_pos rfl, if_pos e]
    · rw [if_neg e, if_neg e]
theorem mlookup_mset {a : Addr} {m m' : M} : ∀ {μ : Mem}, μ.lookup a = some m → (mset μ a m').lookup a = some m'
  | (b, x) :: r, h => by
    by_cases e : b = a
    · subst e
      unfold mset
      rw [List.map_cons, if_pos rfl, List.lookup_cons, beq_self_eq_true]
    · rw [mset_ne e, List.lookup_cons, beq_eq_false_iff_ne.mpr (Ne.symm e)]
      rw [List.lookup_cons, beq_eq_false_iff_ne.mpr (Ne.symm e)] at h
      exact mlookup_mset h
theorem mlookup_mset_ne {a b : Addr} {m : M} (hb : b ≠ a) : ∀ {μ : Mem}, (mset μ a m).lookup b = μ.lookup b
  | [] => rfl
  | (c, x) :: r => by
    by_cases e : c = a
    · subst e
      have : mset ((c, x) :: r) c m = (c, m) :: mset r c m := by unfold mset; rw [List.map_cons, if_pos rfl]
      rw [this, List.lookup_cons, List.lookup_cons, beq_eq_false_iff_ne.mpr hb]
      exact mlookup_mset_ne hb
    · rw [mset_ne e, List.lookup_cons, List.lookup_cons]
      split
      · rfl
      · exact mlookup_mset_ne hb
theorem mlookup_mdel_ne {a b : Addr} (hb : b ≠ a) : ∀ {μ : Mem}, (mdel μ a).lookup b = μ.lookup b
  | [] => rfl
  | (c, x) :: r => by
    by_cases e : c = a
    · subst e
      have : mdel ((c, x) :: r) c = mdel r c := by unfold mdel; rw [List.filter_cons, if_neg (by simp)]
      rw [this, List.lookup_cons, beq_eq_false_iff_ne.mpr hb]
      exact mlookup_mdel_ne hb
    · rw [mdel_ne e, List.lookup_cons, List.lookup_cons]
      split
      · rfl
      · exact mlookup_mdel_ne hb

theorem GSt.freeze {g h} (x : GSt W g μ h) {a : Addr} {m : M} (hm : μ.lookup a = some m) :
    ∃ o, GSt W (gPut g a o) (mdel μ a) h ∧ Nx [] g μ h (gPut g a o) (mdel μ a) h ∧ MRep W.P (gPut g a o) o m ∧ (gPut g a o) a = some o := by
  obtain ⟨o, ho, hr⟩ := x.get hm
  have ha := addr_of_mlookup hm
  have gl : GLe g (gPut g a o) := fun b o' e => by
    unfold gPut
    by_cases q : b = a
    · rw [q, x.off a ha] at e; cases e
    · rw [if_neg q]; exact e
  refine ⟨o, ⟨x.base.trans gl, fun b o' e => ?_, fun q hq => ?_, fun b hb => ?_, ?_⟩, ⟨gl, fun b o' e => ?_, fun b hb => .inl (addrs_mdel.mp hb).1, fun b o' _ _ e => e, fun b o' _ e => ⟨o', e⟩⟩, hr.mono gl, if_pos rfl⟩
  · unfold gPut at e
    by_cases q : b = a
    · rw [if_pos q] at e; cases e; rw [q]; exact ho
    · rw [if_neg q] at e; exact x.le _ _ e
  · obtain ⟨o', h1, h2⟩ := x.mem q (mem_mdel.mp hq).1
    exact ⟨o', h1, h2.mono gl⟩
  · have := addrs_mdel.mp hb
    unfold gPut
    rw [if_neg this.2]; exact x.off b this.1
  · exact List.Nodup.sublist (List.Sublist.map _ List.filter_sublist) x.nd
  · unfold gPut at e
    by_cases q : b = a
    · rw [q]; exact .inr (.inl ha)
    · rw [if_neg q] at e; exact .inl e

/-- the value that a mutable thing is once it is frozen -/
inductive Frz (μ : Mem) : V → V → Mem → Prop
  | lst {a : Addr} {ys : List V} : μ.lookup a = some (.lst ys) → Frz μ (.raw (.ref a)) (.lst ys) (mdel μ a)
  | dct {a : Addr} {es : List (Str × V)} : μ.lookup a = some (.dct es) → (a == sysModules) = false → Frz μ (.raw (.ref a)) (.dct es) (mdel μ a)
  | obj {x C dx : Addr} {es : List (Str × V)} : μ.lookup dx = some (.dct es) → Frz μ (.obj x C dx) (.inst C es) (mdel μ dx)
  | fld {C : Addr} {pre post : List (Str × V)} {nm : Str} {y y' : V} {μ' : Mem} : Frz μ y y' μ' → Frz μ (.inst C (pre ++ (nm, y) :: post)) (.inst C (pre ++ (nm, y') :: post)) μ'
theorem RepD.see {P : Params} {g g' : G} {nm : Str} {y y' : V} {post : List (Str × V)} (gl : GLe g g') (k : ∀ v, Rep P g v y → Rep P g' v y') : ∀ {pre : List (Str × V)} {es : List DictEntry}, RepD P g es (pre ++ (nm, y) :: post) → RepD P g' es (pre ++ (nm, y') :: post)
  | [], _, .cons r b => .cons (k _ r) (b.mono gl)
  | _ :: pre, _, .cons r b => .cons (r.mono gl) (RepD.see gl k b)
theorem GSt.frz {g h} (x : GSt W g μ h) {y y' : V} {μ' : Mem} (hf : Frz μ y y' μ') : ∃ g', GSt W g' μ' h ∧ Nx [] g μ h g' μ' h ∧ ∀ v, Rep W.P g v y → Rep W.P g' v y' := by
  induction hf with
  | fld _ ih =>
    obtain ⟨g', hg', nx, k⟩ := ih
    refine ⟨g', hg', nx, fun v r => ?_⟩
    apply r.inst_elim; intro _ _ _ _ e1 e2 rd
    exact .inst (nx.gle _ _ e1) (nx.gle _ _ e2) (rd.see nx.gle k)
  | lst hm =>
    obtain ⟨o, hg, nx, hr, e⟩ := x.freeze hm
    refine ⟨_, hg, nx, fun v r => ?_⟩
    apply r.raw_elim
    apply hr.lst_elim; intro _ _ c1 c2 _ c4 _ rs
    exact .lst e c1 c2 c4 rs
  | dct hm hz =>
    obtain ⟨o, hg, nx, hr, e⟩ := x.freeze hm
    refine ⟨_, hg, nx, fun v r => ?_⟩
    apply r.raw_elim
    cases hr with
    | dct rs => exact .dct e hz rs
  | obj hm =>
    obtain ⟨o, hg, nx, hr, e⟩ := x.freeze hm
    refine ⟨_, hg, nx, fun v r => ?_⟩
    apply r.obj_elim; intro e1
    cases hr with
    | dct rs => exact .inst (nx.gle _ _ e1) e rs
theorem S_frz {ss : List Stmt} {z : Str} {y y' : V} {μ' : Mem} {K : Out → Mem → Prop} (hz : ρ.lookup z = some y) (hf : Frz μ y y' μ') (h : wpS W n F ((z, y') :: ρ) μ' ss K) : wpS W n F ρ μ ss K := by
  refine ⟨fun A g s hA hg hF Q hQ => ?_⟩
  obtain ⟨g', hg', nx, k⟩ := hg.frz hf
  have hF' := hF.next hg' nx
  have hF'' : FSt W g' F ((z, y') :: ρ) μ' s.heap := by
    -- the value was read before it was frozen
    have hF0 := hF
    obtain ⟨m, hn, hm⟩ := hF0.loc
    have x := hF'
    refine ⟨x.fn, x.gl, x.bt, ⟨m, hn, fun u w e1 e2 => ?_⟩, fun u w e1 e2 => ?_, x.cin, x.own, fun u hu => ?_, x.inj, x.fzk⟩
    · by_cases q : u = z
      · subst q
        rw [lookup_cons_eq] at e1; cases e1
        obtain ⟨v, h1, h2⟩ := hm u y hz e2
        exact ⟨v, h1, k v h2⟩
      · rw [lookup_cons_ne q] at e1
        obtain ⟨v, h1, h2⟩ := hm u w e1 e2
        exact ⟨v, h1, h2.mono nx.gle⟩
    · by_cases q : u = z
      · subst q
        rw [lookup_cons_eq] at e1; cases e1
        obtain ⟨c, o, v, h1, h2, h3, h4⟩ := hF0.cel u y hz e2
        exact ⟨c, o, v, h1, h2, h3, k v h4⟩
      · rw [lookup_cons_ne q] at e1
        exact x.cel u w e1 e2
    · obtain ⟨c, o, v, w, h0, h1, h2, h3, h4⟩ := hF0.fz u hu
      by_cases q : u = z
      · subst q
        rw [hz] at h0; cases h0
        exact ⟨c, o, v, y', lookup_cons_eq, h1, nx.gle _ _ h2, h3, k v h4⟩
      · exact ⟨c, o, v, w, by rw [lookup_cons_ne q]; exact h0, h1, nx.gle _ _ h2, h3, h4.mono nx.gle⟩
  exact h.go A g' s hA hg' hF'' Q fun f o g₂ μ₂ h₂ tk₂ hK hfl hg₂ nx₂ => hQ f o g₂ μ₂ h₂ tk₂ hK hfl hg₂ (nx.weak0.trans nx₂)
theorem wpF_frz {f : V} {xs : List V} {K : V → Mem → Prop} (h : wpF W n f xs μ fun y μ₁ => ∃ y' μ₂, Frz μ₁ y y' μ₂ ∧ K y' μ₂) : wpF W n f xs μ K :=
  ⟨fun fv vs A g s hA hg hp Q hQ => h.go fv vs A g s hA hg hp _ fun v g₁ μ₁ h₁ tk₁ hR₁ hg₁ nx₁ => by
    obtain ⟨y, r, y', μ₂, hf, hK⟩ := hR₁
    obtain ⟨g', hg', nx, k⟩ := hg₁.frz hf
    exact hQ _ _ _ _ _ ⟨y', k v r, hK⟩ hg' (nx₁.trans nx)⟩
theorem wpE_mono {e : Expr} {K K' : V → Mem → Prop} (h : wpE W n F ρ μ e K) (k : ∀ y μ', K y μ' → K' y μ') : wpE W n F ρ μ e K' :=
  ⟨fun A g s hA hg hp Q hQ => h.go A g s hA hg hp _ fun v g₁ μ₁ h₁ tk₁ hR₁ hg₁ nx₁ => by
    obtain ⟨y, r, hK⟩ := hR₁
    exact hQ _ _ _ _ _ ⟨y, r, k _ _ hK⟩ hg₁ nx₁⟩
theorem wpF_weak {m : Nat} {f : V} {xs : List V} {K : V → Mem → Prop} (hm : m ≤ n) (h : wpF W m f xs μ K) : wpF W n f xs μ K :=
  ⟨fun fv vs A g s hA hg hp Q hQ => h.go fv vs A g s (hA.weak hm) hg hp Q hQ⟩
end
end
section
/-! ## values as data -/
mutual
noncomputable def datV : V → PyData
  | .none => .none
  | .bool b => .bool b
  | .int i => .int i
  | .str x => .str x
  | .tup vs => .tuple (datVs vs)
  | .lst vs => .list (datVs vs)
  | .dct _ => .dict []
  | .inst _ _ => .dict []
  | .obj _ _ _ => .dict []
  | .clo _ _ => .dict []
  | .raw _ => .dict []
noncomputable def datVs : List V → List PyData
  | [] => []
  | x :: xs => datV x :: datVs xs
end
theorem Rep.readsAll {P : Params} {g : G} {h : Heap} (k : GLe g (hG h)) : (∀ {v : Value} {y : V}, Rep P g v y → (datV y).canLay0 = true → ∃ as, Reads h v (datV y) as) ∧ (∀ {vs : List Value} {ys : List V}, Reps P g vs ys → PyData.canLayAll0 (datVs ys) = true → ∃ as, ReadsAll h vs (datVs ys) as) := by
  have q := Rep.ind (P := P) (g := g) (p1 := fun v y => (datV y).canLay0 = true → ∃ as, Reads h v (datV y) as) (p2 := fun vs ys => PyData.canLayAll0 (datVs ys) = true → ∃ as, ReadsAll h vs (datVs ys) as) (p3 := fun _ _ => True) (p4 := fun _ _ => True)
    (fun _ => ⟨_, .none⟩) (fun b _ => ⟨_, .bool b⟩) (fun i t _ => ⟨_, .int i t⟩) (fun x t _ => ⟨_, .str x t⟩) (fun _ hc => (Bool.false_ne_true hc).elim) (fun a b c d hc => (d hc).elim fun as r => ⟨_, .tuple (k _ _ a) b c r⟩) (fun a b c _ d hc => (d hc).elim fun as r => ⟨_, .list (k _ _ a) b c r⟩)
    (fun _ _ _ hc => (Bool.false_ne_true hc).elim) (fun _ _ _ hc => (Bool.false_ne_true hc).elim) (fun _ hc => (Bool.false_ne_true hc).elim) (fun _ _ _ _ hc => (Bool.false_ne_true hc).elim)
    (fun _ => ⟨_, .nil⟩) (fun {v x vs xs} _ a b hc => by
      have hc' : (datV x).canLay0 = true ∧ PyData.canLayAll0 (datVs xs) = true := Bool.and_eq_true_iff.mp hc
      obtain ⟨as, r⟩ := a hc'.1
      obtain ⟨bs, rs⟩ := b hc'.2
      exact ⟨_, .cons r rs⟩) trivial (fun _ _ _ => trivial) trivial (fun _ _ _ _ => trivial)
  exact ⟨q.1, q.2.1⟩
theorem Rep.reads {P : Params} {g : G} {h : Heap} (k : GLe g (hG h)) {v : Value} {y : V} (r : Rep P g v y) (hc : (datV y).canLay0 = true) : ∃ as, Reads h v (datV y) as := (Rep.readsAll k).1 r hc
theorem Reps.reads {P : Params} {g : G} {h : Heap} (k : GLe g (hG h)) {vs : List Value} {ys : List V} (r : Reps P g vs ys) (hc : PyData.canLayAll0 (datVs ys) = true) : ∃ as, ReadsAll h vs (datVs ys) as := (Rep.readsAll k).2 r hc
section
variable {W : Wd} {n : Nat} {F : Fm} {ρ : Loc} {μ : Mem} {pos : Pos}
theorem Room.dat {A : Around} (x : Room n A) {a b : Nat} (h : a ≤ 64) : A.units + min a b < cLine := by
  have := x.units
  have h2 : min a b ≤ a := Nat.min_le_left _ _
  rw [cLine_is]; lia
theorem Room.dat1 {A : Around} (x : Room n A) {a b : Nat} (h : b ≤ 64) : A.units + 1 + min a b < cLine := by
  have := x.units
  have h2 : min a b ≤ b := Nat.min_le_right _ _
  rw [cLine_is]; lia
theorem cmp_eq_dat {a b : V} {K : Bool → Mem → Prop} (ha : (datV a).canLay0 = true) (hb : (datV b).canLay0 = true) (hd : (datV a).depth ≤ 64) (h : K (PyData.eqv (datV a) (datV b)) μ) : cmpT W n .Eq a b μ K :=
  ⟨fun v u => .still fun A g s Q hA hg hp hQ => by
    obtain ⟨r1, r2⟩ := hp
    obtain ⟨as, q1⟩ := r1.reads hg.le ha
    obtain ⟨bs, q2⟩ := r2.reads hg.le hb
    exact SeqAt.compareEq_reads q1 q2 ha hb (hA.dat hd) (hQ _ s.toks ⟨_, rfl, h⟩)⟩
theorem cmp_ne_dat {a b : V} {K : Bool → Mem → Prop} (ha : (datV a).canLay0 = true) (hb : (datV b).canLay0 = true) (hd : (datV a).depth ≤ 64) (h : K (!PyData.eqv (datV a) (datV b)) μ) : cmpT W n .NotEq a b μ K :=
  ⟨fun v u => .still fun A g s Q hA hg hp hQ => by
    obtain ⟨r1, r2⟩ := hp
    obtain ⟨as, q1⟩ := r1.reads hg.le ha
    obtain ⟨bs, q2⟩ := r2.reads hg.le hb
    exact SeqAt.compareNe_reads q1 q2 ha hb (hA.dat hd) (hQ _ s.toks ⟨_, rfl, h⟩)⟩
theorem cmp_in_lst {a : V} {ys : List V} {K : Bool → Mem → Prop} (ha : (datV a).canLay0 = true) (hb : PyData.canLayAll0 (datVs ys) = true) (hd : (datV a).depth ≤ 64) (h : K ((datVs ys).any fun y => PyData.eqv y (datV a)) μ) : cmpT W n .In a (.lst ys) μ K :=
  ⟨fun v u => .still fun A g s Q hA hg hp hQ => by
    obtain ⟨r1, r2⟩ := hp
    obtain ⟨as, q1⟩ := r1.reads hg.le ha
    obtain ⟨bs, q2⟩ := r2.reads hg.le (show (datV (.lst ys)).canLay0 = true from hb)
    exact SeqAt.in_list_reads q2 q1 hb ha (hA.dat1 hd) (hQ _ s.toks ⟨_, rfl, h⟩)⟩
theorem cmp_in_tup {a : V} {ys : List V} {K : Bool → Mem → Prop} (ha : (datV a).canLay0 = true) (hb : PyData.canLayAll0 (datVs ys) = true) (hd : (datV a).depth ≤ 64) (h : K ((datVs ys).any fun y => PyData.eqv y (datV a)) μ) : cmpT W n .In a (.tup ys) μ K :=
  ⟨fun v u => .still fun A g s Q hA hg hp hQ => by
    obtain ⟨r1, r2⟩ := hp
    obtain ⟨as, q1⟩ := r1.reads hg.le ha
    obtain ⟨bs, q2⟩ := r2.reads hg.le (show (datV (.tup ys)).canLay0 = true from hb)
    exact SeqAt.in_tuple_reads q2 q1 hb ha (hA.dat1 hd) (hQ _ s.toks ⟨_, rfl, h⟩)⟩
theorem cmp_notin_mlst {a : V} {l : Addr} {ys : List V} {K : Bool → Mem → Prop} (hm : μ.lookup l = some (.lst ys)) (ha : (datV a).canLay0 = true) (hb : PyData.canLayAll0 (datVs ys) = true) (hd : (datV a).depth ≤ 64) (h : K (!(datVs ys).any fun y => PyData.eqv y (datV a)) μ) : cmpT W n .NotIn a (.raw (.ref l)) μ K :=
  ⟨fun v u => .still fun A g s Q hA hg hp hQ => by
    obtain ⟨r1, r2⟩ := hp
    apply r2.raw_elim
    obtain ⟨as, q1⟩ := r1.reads hg.le ha
    obtain ⟨o, ho, hr⟩ := hg.get hm
    apply hr.lst_elim; intro _ _ c1 c2 _ _ _ rs
    obtain ⟨bs, q2⟩ := rs.reads hg.le hb
    exact SeqAt.notIn_list_reads (.list ho c1 c2 q2) q1 hb ha (hA.dat1 hd) (hQ _ s.toks ⟨_, rfl, h⟩)⟩
/-- a value that is no None -/
inductive NotNone : V → Prop
  | lst (ys : List V) : NotNone (.lst ys)
  | dct (es : List (Str × V)) : NotNone (.dct es)
  | ref (a : Addr) : NotNone (.raw (.ref a))
theorem cmp_is_none {y : V} {K : Bool → Mem → Prop} (hy : NotNone y) (h : K false μ) : cmpT W n .Is y .none μ K :=
  ⟨fun v u => .still fun A g s Q hA hg hp hQ => by
    obtain ⟨r1, r2⟩ := hp
    apply r2.none_elim
    cases hy <;> cases r1 <;> exact wpAny_is_other rfl (fun e => nomatch e) (hQ _ s.toks ⟨_, rfl, h⟩)⟩

/-! ## slices of tuples -/
end
section
variable {prog : Program} {w : World} {A : Around} {E : Value → Shared → Prop} {s : Shared}
theorem adjust_upto (b n : Nat) (hb : b ≤ n) : Builtin.Slice.sliceAdjust none (some (b : Int)) 1 (n : Int) = ((0 : Int), (b : Int)) := by
  unfold Builtin.Slice.sliceAdjust
  have h1 : ¬ ((1 : Int) < 0) := by lia
  have h2 : ¬ ((b : Int) < 0) := by lia
  simp only [h1, h2, if_false]
  rw [show min (b : Int) (n : Int) = (b : Int) by lia]
theorem places_upto (b : Nat) : Builtin.Slice.slicePlaces 0 (b : Int) 1 = b := by
  unfold Builtin.Slice.slicePlaces
  have h1 : (1 : Int) > 0 := by lia
  simp only [h1, if_true, Int.ediv_one]
  split <;> lia
theorem sliceApplied_upto {sl : Addr} {b n : Nat} {u : Tok} {Q : Int × Int × Nat → Shared → Prop} (hs : s.heap.IsSliceOf sl .none (.int b u) .none) (hb : b ≤ n) (h : Q (0, 1, b) s) :
    wpAny (model prog w) A (Builtin.Slice.sliceApplied (.ref sl) (pure (n : Int))) Q E s := by
  obtain ⟨os, hos, hcs, hds⟩ := id hs
  unfold Builtin.Slice.sliceApplied Builtin.Slice.sliceFields
  refine wpAny_bind (wpAny_bind (wpAny_field hos hds (x := .none) rfl (wpAny_bind (wpAny_field hos hds (x := .int b u) rfl (wpAny_bind (wpAny_field hos hds (x := .none) rfl (wpAny_pure ?_)))))))
  refine wpAny_bind (slicePart_none ?_)
  show wpAny _ _ (if ((1 : Int) == 0) = true then _ else _) _ _ s
  rw [if_neg (by decide)]
  refine wpAny_bind (slicePart_none (wpAny_bind (slicePart_int (wpAny_bind (wpAny_pure ?_)))))
  show wpAny _ _ (match Builtin.Slice.sliceAdjust none (some (b : Int)) 1 (n : Int) with | (lo, hi) => pure (lo, (1 : Int), Builtin.Slice.slicePlaces lo hi 1)) _ _ s
  rw [adjust_upto b n hb]
  show wpAny _ _ (pure ((0 : Int), (1 : Int), Builtin.Slice.slicePlaces 0 (b : Int) 1)) _ _ s
  rw [places_upto b]
  exact wpAny_pure h
theorem pick_upto (xs : Array Value) (b : Nat) : ((List.range b).filterMap fun (k : Nat) => xs[((0 : Int) + (k : Int) * 1).toNat]?).toArray = (xs.toList.take b).toArray := by
  have e : (fun (k : Nat) => xs[((0 : Int) + (k : Int) * 1).toNat]?) = fun k => xs[0 + k]? := by
    funext k
    have : ((0 : Int) + (k : Int) * 1).toNat = 0 + k := by lia
    rw [this]
  rw [e]
  have := pick_run xs 0 b
  rw [List.filterMap_map] at this
  have e2 : ((fun x => xs[x]?) ∘ fun x => 0 + x) = fun k => xs[0 + k]? := rfl
  rw [e2] at this
  rw [this, List.drop_zero]
theorem getItem_tuple_upto {t sl : Addr} {items : Array Value} {b : Nat} {u : Tok} {Q : Value → Shared → Prop} (ht : IsTup s.heap t items) (hs : s.heap.IsSliceOf sl .none (.int b u) .none) (hb : b < items.size)
    (h : Q (.ref s.heap.objs.size) { s with heap := s.heap.push { cls := .type "tuple", data := .seq (items.toList.take b).toArray } })
    (hsz : items.size ≤ sizeLine) : wpAny (model prog w) A (getItem (.ref t) (.ref sl)) Q E s := by
  have htake : sizeOk (.seq (items.toList.take b).toArray) := by
    show (items.toList.take b).toArray.size ≤ sizeLine
    rw [List.size_toArray, List.length_take, Array.length_toList]
    lia
  obtain ⟨os, hos, hcs, hds⟩ := id hs
  have hTs : s.TypeIs (.ref sl) "slice" := ⟨os, hos, hcs⟩
  unfold getItem
  try with_reducible refine wpAny_holding ?_
  first | refine wpAny_bind (wpAny_pure ?_) | skip
  refine wpAny_bind (wpAny_sequenceKey ht.typeIs (by decide) ?_)
  refine wpAny_bind (wpAny_callSpecial?_slot (name := Str.ofString "__getitem__") ht.typeIs slot_tuple_getitem
    (wpAny_call_entry slot_tuple_getitem ht.typeIs entry_tuple_getitem ?_ (args_tuple_getitem _ _)))
  show wpAny _ _ (Builtin.Tuple.tupleItemsOf (.ref t) >>= _) _ _ s
  refine wpAny_bind (tupleItemsOf_ ht ?_)
  refine wpAny_bind (wpAny_typeOf hTs ?_)
  rw [if_pos (by decide)]
  refine wpAny_bind (sliceApplied_upto hs (Nat.le_of_lt hb) ?_)
  have hno : ¬ (((0 : Int) == 0 && (1 : Int) == 1 && b == items.size) = true) := by
    have : (b == items.size) = false := by rw [beq_eq_false_iff_ne]; lia
    rw [this]; simp
  show wpAny _ _ (if ((0 : Int) == 0 && (1 : Int) == 1 && b == items.size) = true then _ else _) _ _ s
  rw [if_neg hno, pick_upto items b]
  first
    | exact wpAny_bind (m := Builtin.Tuple.tupleExact _) (wpAny_newObj_type (wpAny_pure ⟨_, rfl, wpAny_pure h⟩) htake)
    | exact wpAny_bind (m := Builtin.Tuple.tupleExact _) (wpAny_newObj_type (wpAny_bind (wpAny_pure (wpAny_pure ⟨_, rfl, wpAny_pure h⟩))) htake)
    | exact wpAny_bind (wpAny_bind (m := Builtin.Tuple.tupleExact _) (wpAny_newObj_type (wpAny_pure (wpAny_pure ⟨_, rfl, wpAny_pure h⟩)) htake))
    | exact wpAny_bind (wpAny_bind (m := Builtin.Tuple.tupleExact _) (wpAny_newObj_type (wpAny_pure ⟨_, rfl, wpAny_pure h⟩) htake))
end
section
variable {W : Wd} {n : Nat} {F : Fm} {ρ : Loc} {μ : Mem} {pos : Pos}
theorem E_SliceFrom {value lo : Expr} {p : Pos} {K : V → Mem → Prop} (h : wpE W n F ρ μ value fun y μ₁ => ∃ ys, y = .tup ys ∧ wpE W n F ρ μ₁ lo fun i μ₂ => ∃ a : Nat, i = .int a ∧ 1 ≤ a ∧ a ≤ ys.length ∧ ys.length ≤ sizeLine ∧ K (.tup (ys.drop a)) μ₂)
    (ht : ∀ o r, letTemporaryGo value o r = pure () := by intro _ _; rfl) : wpE W n F ρ μ (.Subscript value (.Slice (some lo) none none p) pos) K := by
  refine ⟨fun A g s hA hg hf Q hQ => ?_⟩
  refine wpAny_Subscript_Slice (T := "tuple") slot_tuple_getitem.lookup (h.go A g s hA hg hf _ fun v g₁ μ₁ h₁ tk₁ hR₁ hg₁ nx₁ => ?_) ht
  obtain ⟨y, r, ys, rfl, k⟩ := hR₁
  refine wpAny_Slice ?_
  rw [evalPart_some]
  refine k.go A g₁ _ hA hg₁ (hf.next hg₁ nx₁) _ fun u g₂ μ₂ h₂ tk₂ hR₂ hg₂ nx₂ => ?_
  obtain ⟨i, ri, a, rfl, h1, ha, hl, hK⟩ := hR₂
  rw [evalPart_none]
  refine wpAny_pure (wpAny_pure ?_)
  apply ri.int_elim; intro _
  rename_i t
  apply r.tup_elim; intro _ _ _ _ e1 e2 e3 rs
  rename_i b o vs k'
  obtain ⟨hg₃, nx₃⟩ := hg₂.keeps (h' := h₂.push { cls := .type "slice", data := .fields #[.int a t, .none, .none] }) fun _ _ e => Heap.get?_push_of_some _ e
  have ht' : IsTup (h₂.push { cls := .type "slice", data := .fields #[.int a t, .none, .none] }) b vs.toArray := ⟨o, hg₃.le _ _ (nx₂.gle _ _ e1), e2, _, e3⟩
  have hl' : vs.length = ys.length := rs.length
  refine ⟨ht'.typeIs, getItem_tuple_from ht' (Heap.IsSliceOf.new ..) h1 (by rw [List.size_toArray, hl']; exact ha) ?_ (by rw [List.size_toArray, hl']; exact hl)⟩
  obtain ⟨hg₄, nx₄, e4⟩ := hg₃.alloc (o := { cls := .type "tuple", data := .seq (vs.toArray.toList.drop a).toArray }) rfl
  exact hQ _ _ _ _ tk₂ ⟨_, .tup e4 rfl rfl (((rs.mono (nx₂.gle.trans nx₃.gle)).mono nx₄.gle).drop a), hK⟩ hg₄ (((nx₁.trans nx₂).trans nx₃).trans nx₄)
theorem E_SliceUpto {value hi : Expr} {p : Pos} {K : V → Mem → Prop} (h : wpE W n F ρ μ value fun y μ₁ => ∃ ys, y = .tup ys ∧ wpE W n F ρ μ₁ hi fun i μ₂ => ∃ a : Nat, i = .int a ∧ a < ys.length ∧ ys.length ≤ sizeLine ∧ K (.tup (ys.take a)) μ₂)
    (ht : ∀ o r, letTemporaryGo value o r = pure () := by intro _ _; rfl) : wpE W n F ρ μ (.Subscript value (.Slice none (some hi) none p) pos) K := by
  refine ⟨fun A g s hA hg hf Q hQ => ?_⟩
  refine wpAny_Subscript_Slice (T := "tuple") slot_tuple_getitem.lookup (h.go A g s hA hg hf _ fun v g₁ μ₁ h₁ tk₁ hR₁ hg₁ nx₁ => ?_) ht
  obtain ⟨y, r, ys, rfl, k⟩ := hR₁
  refine wpAny_Slice ?_
  rw [evalPart_none]
  refine wpAny_pure ?_
  rw [evalPart_some]
  refine k.go A g₁ _ hA hg₁ (hf.next hg₁ nx₁) _ fun u g₂ μ₂ h₂ tk₂ hR₂ hg₂ nx₂ => ?_
  obtain ⟨i, ri, a, rfl, ha, hl, hK⟩ := hR₂
  refine wpAny_pure ?_
  apply ri.int_elim; intro _
  rename_i t
  apply r.tup_elim; intro _ _ _ _ e1 e2 e3 rs
  rename_i b o vs k'
  obtain ⟨hg₃, nx₃⟩ := hg₂.keeps (h' := h₂.push { cls := .type "slice", data := .fields #[.none, .int a t, .none] }) fun _ _ e => Heap.get?_push_of_some _ e
  have ht' : IsTup (h₂.push { cls := .type "slice", data := .fields #[.none, .int a t, .none] }) b vs.toArray := ⟨o, hg₃.le _ _ (nx₂.gle _ _ e1), e2, _, e3⟩
  have hl' : vs.length = ys.length := rs.length
  refine ⟨ht'.typeIs, getItem_tuple_upto ht' (Heap.IsSliceOf.new ..) (by rw [List.size_toArray, hl']; exact ha) ?_ (by rw [List.size_toArray, hl']; exact hl)⟩
  obtain ⟨hg₄, nx₄, e4⟩ := hg₃.alloc (o := { cls := .type "tuple", data := .seq (vs.toArray.toList.take a).toArray }) rfl
  exact hQ _ _ _ _ tk₂ ⟨_, .tup e4 rfl rfl (((rs.mono (nx₂.gle.trans nx₃.gle)).mono nx₄.gle).take a), hK⟩ hg₄ (((nx₁.trans nx₂).trans nx₃).trans nx₄)
end
end
section
section
variable {W : Wd} {n : Nat} {F : Fm} {ρ : Loc} {μ : Mem} {pos : Pos}

/-! ## iterables that a call gives -/
structure itF (W : Wd) (n : Nat) (f : V) (xs : List V) (μ : Mem) (target : Expr) (K : List V → Mem → Prop) : Prop where
  go : ∀ (fv : Value) (vs : List Value) (A : Around) (g : G) (s : Shared), Room n A → GSt W g μ s.heap → Rep W.P g fv f → Reps W.P g vs xs → ∀ Q : Value → Shared → Prop,
    (∀ g' μ' I fp wr St h' tk' ys, K ys μ' → GSt W g' μ' h' → Nx [] g μ s.heap g' μ' h' → Itr W A g' target I fp wr ys St → St 0 h' → (∀ b ∈ fp, b ∈ wr ∨ ∃ o, g' b = some o) → (∀ b ∈ wr, s.heap.get? b = none ∧ g' b = none ∧ b ∉ addrs μ') → Q (.ref I) { s with heap := h', toks := tk' }) →
    wpAny W.M A (call fv vs []) (fun x s₁ => wpAny W.M A (pyIter x) Q (fun _ _ => False) s₁) (fun _ _ => False) s
theorem iter_Call {target func e : Expr} {args : List Expr} {K : List V → Mem → Prop} (h : wpE W n F ρ μ func fun f μ₁ => Callable W f ∧ wpEs W n F ρ μ₁ pos (e :: args) fun xs μ₂ => itF W n f xs μ₂ target K)
    (hs : starEach (e :: args) F.env = (false, eval e F.env) :: starEach args F.env := by rfl) (hp : (backTo pos (starEach args F.env)).any (·.1) = false := by rfl)
    (he : eval (.Call func (e :: args) [] pos) F.env = (do callWith pos (← eval func F.env) [] (backTo pos (starEach (e :: args) F.env)) (backToKw pos (keywordEach [] F.env))) := by rfl) : iterE W n F ρ μ target (.Call func (e :: args) [] pos) K := by
  refine ⟨fun A g s hA hg hf Q hQ => ?_⟩
  refine PyProof.Rows.Call_ (h.go A g s hA hg hf _ fun v g₁ μ₁ h₁ tk₁ hR₁ hg₁ nx₁ => ?_) he
  obtain ⟨f, r, hcal, k⟩ := hR₁
  have hf₁ := hf.next hg₁ nx₁
  refine callWith_of (P := fun h => ∃ k, (k = Keeper.frame ∨ k = Keeper.machine ∨ k = Keeper.boundFrame) ∧ Looks W.M h (keeperOf v) k) (by rw [hs]; show ((false || (backTo pos (starEach args F.env)).any (·.1)) || false) = false; rw [hp]; rfl) (fun _ x => x) ?_
  rw [hs]
  refine Calls.evalArgs_plain (show wpAny _ _ (spliced (backTo pos ((false, eval e F.env) :: starEach args F.env))) _ _ _ from ?_)
  rw [← hs]
  refine k.go A g₁ _ hA hg₁ hf₁ _ fun vs g₂ μ₂ h₂ tk₂ hR₂ hg₂ nx₂ => ?_
  obtain ⟨ys, rs, _, k₂⟩ := hR₂
  refine ⟨hcal g₂ _ v hg₂.K hg₂.le (r.mono nx₂.gle), k₂.go v vs A g₂ _ hA hg₂ (r.mono nx₂.gle) rs _ fun g₃ μ₃ I fp wr St h₃ tk₃ zs hK hg₃ nx₃ it hst hfp hwr => ?_⟩
  have nx := nx₁.trans nx₂
  exact hQ g₃ μ₃ I fp wr St h₃ tk₃ zs hK hg₃ (nx.trans nx₃) it hst hfp fun b hb => ⟨nx.new (hwr b hb).1 (fun q => nomatch q), (hwr b hb).2⟩

/-- walks that give tuples of their own -/
theorem Itr.of_walksT {A : Around} {g : G} {elts : List Expr} {k : Nat} {tp : Pos} {I : Addr} {fp wr : List Addr} {m : Nat} {Pt : Nat → Array Value → Prop} {St : Nat → Heap → Prop} {Mid : Nat → Addr → Heap → Prop} {xs : List V}
    (T : WalksT W.prog W.w A I fp wr m Pt St Mid) (hlive : ∀ i h, St i h → ∀ b ∈ wr, ∃ o, h.get? b = some o) (hm : m = xs.length)
    (hP : ∀ i vals y, xs[i]? = some y → Pt i vals → ∃ ys, y = .tup ys ∧ Reps W.P g vals.toList ys) : Itr W A g (.Tuple elts k tp) I fp wr xs St where
  live := hlive
  frame := T.frame
  item := fun i y s Q E hy st hg hQ => by
    have hi : i < m := by rw [hm]; exact (List.getElem?_eq_some_iff.mp hy).1
    refine T.item i s _ E hi st fun Ta vals h' tk hp hge ht hmid hk => ⟨_, rfl, ?_⟩
    refine T.go elts k tp i Ta _ _ E hmid fun h'' st'' hk'' => ?_
    obtain ⟨ys, rfl, rs⟩ := hP i vals y hy hp
    obtain ⟨o, ho, hc, kk, hd⟩ := ht
    refine hQ (.ref Ta) h'' tk (.inr ⟨Ta, o, vals.toList, ys, kk, rfl, rfl, ?_, hk'' _ _ (T.apart i Ta h' hmid) ho, hc, by rw [hd], rs⟩) st'' fun b o hb e => hk'' b o hb (hk b o hb e)
    cases q : s.heap.get? Ta with
    | none => rfl
    | some o' => exact absurd (Heap.lt_size q) (Nat.not_lt.mpr hge)
  done := fun s Q E st hQ => T.done s Q E (hm ▸ st) hQ
  self := T.self
/-- walks that give plain values -/
theorem Itr.of_walks {A : Around} {g : G} {target : Expr} {I : Addr} {fp wr : List Addr} {m : Nat} {Pt : Nat → Value → Prop} {St : Nat → Heap → Prop} {xs : List V} {nm : String} 
    (T : Walks W.prog W.w A I fp wr m Pt St) (hlive : ∀ i h, St i h → ∀ b ∈ wr, ∃ o, h.get? b = some o) (hI : ∀ i h, St i h → ∃ o, h.get? I = some o ∧ o.cls = .type nm) (hn : ownersOfTuples.contains nm = false) (hm : m = xs.length)
    (hP : ∀ i v y, xs[i]? = some y → Pt i v → Rep W.P g v y) : Itr W A g target I fp wr xs St where
  live := hlive
  frame := T.frame
  item := fun i y s Q E hy st hg hQ => by
    have hi : i < m := by rw [hm]; exact (List.getElem?_eq_some_iff.mp hy).1
    refine T.item i s _ E hi st fun v h' tk hp st' hk => ⟨_, rfl, ?_⟩
    obtain ⟨o, ho, hc⟩ := hI _ _ st'
    exact letGo_plain (s := { s with heap := h', toks := tk }) ho hc hn (hQ v h' tk (.inl (hP i v y hy hp)) st' hk)
  done := fun s Q E st hQ => T.done s Q E (hm ▸ st) hQ
  self := T.self

noncomputable def enumV (ys : List V) : List V := ys.zipIdx.map fun p => .tup [.int p.2, p.1]
theorem enumV_get {ys : List V} {i : Nat} {y : V} (h : (enumV ys)[i]? = some y) : ∃ z, ys[i]? = some z ∧ y = .tup [.int i, z] := by
  unfold enumV at h
  rw [List.getElem?_map, List.getElem?_zipIdx] at h
  cases q : ys[i]? with
  | none => rw [q] at h; cases h
  | some z => rw [q] at h; refine ⟨z, rfl, ?_⟩; simp at h; exact h.symm
theorem enumV_length {ys : List V} : (enumV ys).length = ys.length := by unfold enumV; simp
theorem IsEnum.live {h : Heap} {e it : Addr} {i : Int} {old : Value} (x : IsEnum h e it i old) : ∃ o, h.get? e = some o := ⟨_, x⟩

theorem it_enum_lst {elts : List Expr} {k : Nat} {tp : Pos} {ys : List V} {K : List V → Mem → Prop} (h : K (enumV ys) μ) : itF W n (.raw (.type "enumerate")) [.lst ys] μ (.Tuple elts k tp) K := by
  refine ⟨fun fv vs A g s hA hg hfv hvs Q hQ => ?_⟩
  apply hfv.raw_elim
  apply hvs.cons_elim; intro _ _ r r2
  apply r2.nil_elim
  apply r.lst_elim; intro _ _ _ _ e1 e2 e3 e4 rs
  rename_i l o ws kk
  have hL : s.heap.IsList l ws.toArray := ⟨o, hg.le _ _ e1, e2, _, e3⟩
  refine call_enumerate_list hL fun h' he hit hsz hk => ?_
  have f0 : s.heap.get? s.heap.objs.size = none := get_size _
  have f1 : s.heap.get? (s.heap.objs.size + 1) = none := by
    cases q : s.heap.get? (s.heap.objs.size + 1) with
    | none => rfl
    | some o => exact absurd (Heap.lt_size q) (Nat.not_lt.mpr (Nat.le_succ _))
  have l0 : l ≠ s.heap.objs.size := fun q => by have := hg.le _ _ e1; rw [q] at this; rw [show hG s.heap s.heap.objs.size = s.heap.get? s.heap.objs.size from rfl, f0] at this; cases this
  have l1 : l ≠ s.heap.objs.size + 1 := fun q => by have := hg.le _ _ e1; rw [q] at this; rw [show hG s.heap (s.heap.objs.size + 1) = s.heap.get? (s.heap.objs.size + 1) from rfl, f1] at this; cases this
  obtain ⟨hg₂, nx₂⟩ := hg.keeps hk
  have hL' : h'.IsList l ws.toArray := hL.at fun o e => hk _ _ e
  refine wpAny_pyIter_enum he ?_
  have T := WalksT.enumerate (prog := W.prog) (w := W.w) hA.handled (s.heap.objs.size + 1) s.heap.objs.size l (Nat.succ_ne_self _) l1 l0 ws.toArray
  refine hQ g μ _ _ _ _ h' s.toks _ h hg₂ nx₂ (Itr.of_walksT T (fun i h st b hb => ?_) (by rw [List.size_toArray, rs.length, enumV_length]) fun i vals y hy hp => ?_) ⟨⟨_, he⟩, hit, hL'⟩ (fun b hb => ?_) fun b hb => ?_
  · obtain ⟨⟨old, a⟩, ⟨o2, b1, _⟩, c⟩ := st
    rcases List.mem_cons.mp hb with rfl | hb
    · exact ⟨_, a⟩
    · rw [List.mem_singleton.mp hb]; exact ⟨_, b1⟩
  · obtain ⟨z, hz, rfl⟩ := enumV_get hy
    obtain ⟨t, x, hx, rfl⟩ := hp
    obtain ⟨x', hx', rx⟩ := rs.get hz
    have : x' = x := by
      have e : ws.toArray[i]? = ws[i]? := by simp
      rw [e, hx'] at hx; cases hx; rfl
    exact ⟨_, rfl, .cons (.int _ _) (.cons (this ▸ rx) .nil)⟩
  · rcases List.mem_cons.mp hb with rfl | hb
    · exact .inl (by simp)
    · rcases List.mem_cons.mp hb with rfl | hb
      · exact .inl (by simp)
      · rw [List.mem_singleton.mp hb]; exact .inr ⟨_, e1⟩
  · rcases List.mem_cons.mp hb with rfl | hb
    · exact ⟨f1, hg.fresh f1⟩
    · rw [List.mem_singleton.mp hb]; exact ⟨f0, hg.fresh f0⟩
theorem it_enum_tup {elts : List Expr} {k : Nat} {tp : Pos} {ys : List V} {K : List V → Mem → Prop} (h : K (enumV ys) μ) : itF W n (.raw (.type "enumerate")) [.tup ys] μ (.Tuple elts k tp) K := by
  refine ⟨fun fv vs A g s hA hg hfv hvs Q hQ => ?_⟩
  apply hfv.raw_elim
  apply hvs.cons_elim; intro _ _ r r2
  apply r2.nil_elim
  apply r.tup_elim; intro _ _ _ _ e1 e2 e3 rs
  rename_i l o ws kk
  have hL : s.heap.IsTuple l ws.toArray := ⟨o, hg.le _ _ e1, e2, _, e3⟩
  refine call_enum_tuple hL fun h' he hit hsz hk => ?_
  have f0 : s.heap.get? s.heap.objs.size = none := get_size _
  have f1 : s.heap.get? (s.heap.objs.size + 1) = none := by
    cases q : s.heap.get? (s.heap.objs.size + 1) with
    | none => rfl
    | some o => exact absurd (Heap.lt_size q) (Nat.not_lt.mpr (Nat.le_succ _))
  have l0 : l ≠ s.heap.objs.size := fun q => by have := hg.le _ _ e1; rw [q] at this; rw [show hG s.heap s.heap.objs.size = s.heap.get? s.heap.objs.size from rfl, f0] at this; cases this
  have l1 : l ≠ s.heap.objs.size + 1 := fun q => by have := hg.le _ _ e1; rw [q] at this; rw [show hG s.heap (s.heap.objs.size + 1) = s.heap.get? (s.heap.objs.size + 1) from rfl, f1] at this; cases this
  obtain ⟨hg₂, nx₂⟩ := hg.keeps hk
  have hL' : h'.IsTuple l ws.toArray := IsTuple.at' hL fun o e => hk _ _ e
  refine wpAny_pyIter_enum he ?_
  have T := WalksT.enumerateD (draws_tuple (prog := W.prog) (w := W.w) (A := A.in1) hA.handled s.heap.objs.size l l0 ws.toArray) (s.heap.objs.size + 1) (Nat.succ_ne_self _) (by
    intro q
    rcases List.mem_cons.mp q with q | q
    · exact absurd q (Nat.succ_ne_self _)
    · exact l1 (List.mem_singleton.mp q).symm) (by simp)
  refine hQ g μ _ _ _ _ h' s.toks _ h hg₂ nx₂ (Itr.of_walksT T (fun i h st b hb => ?_) (by rw [List.size_toArray, rs.length, enumV_length]) fun i vals y hy hp => ?_) ⟨⟨_, he⟩, hit, hL'⟩ (fun b hb => ?_) fun b hb => ?_
  · obtain ⟨⟨old, a⟩, ⟨o2, b1, _⟩, c⟩ := st
    rcases List.mem_cons.mp hb with rfl | hb
    · exact ⟨_, a⟩
    · rw [List.mem_singleton.mp hb]; exact ⟨_, b1⟩
  · obtain ⟨z, hz, rfl⟩ := enumV_get hy
    obtain ⟨t, x, hx, rfl⟩ := hp
    obtain ⟨x', hx', rx⟩ := rs.get hz
    have : x' = x := by
      have e : ws.toArray[i]? = ws[i]? := by simp
      rw [e, hx'] at hx; cases hx; rfl
    exact ⟨_, rfl, .cons (.int _ _) (.cons (this ▸ rx) .nil)⟩
  · rcases List.mem_cons.mp hb with rfl | hb
    · exact .inl (by simp)
    · rcases List.mem_cons.mp hb with rfl | hb
      · exact .inl (by simp)
      · rw [List.mem_singleton.mp hb]; exact .inr ⟨_, e1⟩
  · rcases List.mem_cons.mp hb with rfl | hb
    · exact ⟨f1, hg.fresh f1⟩
    · rw [List.mem_singleton.mp hb]; exact ⟨f0, hg.fresh f0⟩

/-! ## ranges -/
theorem rangeIter_live {h : Heap} {I : Addr} {a m c : Int} (x : IsRangeIter h I a m c) : ∃ o, h.get? I = some o ∧ o.cls = .type "range_iterator" := ⟨_, x, rfl⟩
theorem it_range_core {A : Around} {target : Expr} {s : Shared} {g : G} {a b c : Int} {t u v : Tok} {m : Nat} {tk : Nat} {h₁ : Heap} {K : List V → Mem → Prop} {Q : Value → Shared → Prop} (hA : Room n A) (hg : GSt W g μ s.heap)
    (e₁ : h₁ = s.heap.push { cls := .type "range", data := .fields #[.int a t, .int b u, .int c v] }) (hsm : Builtin.Range.small a b c = true) (hm : Builtin.Range.rangeSize a b c = m)
    (hK : K ((List.range m).map fun i : Nat => V.int (a + (i : Int) * c)) μ)
    (hQ : ∀ g' μ' I fp wr St h' tk' ys, K ys μ' → GSt W g' μ' h' → Nx [] g μ s.heap g' μ' h' → Itr W A g' target I fp wr ys St → St 0 h' → (∀ b ∈ fp, b ∈ wr ∨ ∃ o, g' b = some o) → (∀ b ∈ wr, s.heap.get? b = none ∧ g' b = none ∧ b ∉ addrs μ') → Q (.ref I) { s with heap := h', toks := tk' }) :
    wpAny W.M A (pyIter (.ref s.heap.objs.size)) Q (fun _ _ => False) { s with heap := h₁, toks := tk } := by
  subst e₁
  obtain ⟨hg₁, nx₁⟩ := hg.keeps (h' := s.heap.push { cls := .type "range", data := .fields #[.int a t, .int b u, .int c v] }) fun _ _ e => Heap.get?_push_of_some _ e
  have fr := hg₁.fresh (get_size _)
  have fr0 := nx₁.new (get_size _) (fun q => nomatch q)
  refine wpAny_pyIter_range (a := a) (b := b) (c := c) (t := t) (u := u) (v := v) (Heap.get?_push_size _ rfl) hsm ?_
  obtain ⟨hg₂, nx₂⟩ := hg₁.keeps (h' := (s.heap.push { cls := .type "range", data := .fields #[.int a t, .int b u, .int c v] }).push { cls := .type "range_iterator", data := .fields #[rawInt a, rawInt (Builtin.Range.rangeSize a b c), rawInt c] }) fun _ _ e => Heap.get?_push_of_some _ e
  have T := Walks.range (prog := W.prog) (w := W.w) (A := A) hA.handled (s.heap.push { cls := .type "range", data := .fields #[.int a t, .int b u, .int c v] }).objs.size a c m
  refine hQ g μ _ _ _ _ _ tk _ hK hg₂ (nx₁.trans nx₂) (Itr.of_walks (nm := "range_iterator") T (fun i h st b hb => ?_) (fun i h st => rangeIter_live st) (by decide) (by simp) fun i v y hy hp => ?_) ?_ (fun b hb => .inl hb) fun b hb => ?_
  · rw [List.mem_singleton.mp hb]; obtain ⟨o, e, _⟩ := rangeIter_live st; exact ⟨o, e⟩
  · rw [List.getElem?_map] at hy
    cases q : (List.range m)[i]? with
    | none => rw [q] at hy; cases hy
    | some j =>
      rw [q] at hy
      have : j = i := by
        have := List.getElem?_eq_some_iff.mp q
        obtain ⟨h1, h2⟩ := this
        simpa using h2.symm
      subst this
      cases hy
      obtain ⟨tt, rfl⟩ := hp
      exact .int _ _
  · have : IsRangeIter ((s.heap.push { cls := .type "range", data := .fields #[.int a t, .int b u, .int c v] }).push { cls := .type "range_iterator", data := .fields #[rawInt a, rawInt (Builtin.Range.rangeSize a b c), rawInt c] }) (s.heap.push { cls := .type "range", data := .fields #[.int a t, .int b u, .int c v] }).objs.size a (Builtin.Range.rangeSize a b c) c := Heap.get?_push_size _ rfl
    rw [hm] at this ⊢
    show IsRangeIter _ _ (a + ((0 : Nat) : Int) * c) ((m : Int) - ((0 : Nat) : Int)) c
    rw [show a + ((0 : Nat) : Int) * c = a by simp, show (m : Int) - ((0 : Nat) : Int) = m by simp]
    exact this
  · rw [List.mem_singleton.mp hb]; exact ⟨fr0, fr⟩
theorem it_range1 {target : Expr} {m : Nat} {K : List V → Mem → Prop} (hsz : m < 2 ^ 62) (h : K ((List.range m).map fun i : Nat => V.int (i : Int)) μ) : itF W n (.raw (.type "range")) [.int m] μ target K := by
  refine ⟨fun fv vs A g s hA hg hfv hvs Q hQ => ?_⟩
  apply hfv.raw_elim
  apply hvs.cons_elim; intro _ _ r r2
  apply r2.nil_elim; apply r.int_elim; intro _
  refine call_range_1 ?_
  refine it_range_core (n := n) (K := K) (m := m) hA hg rfl (small_one (by lia) (by lia) (by lia) (by lia)) ?_ ?_ hQ
  · unfold Builtin.Range.rangeSize
    rw [if_pos (by lia)]
    split <;> lia
  · have : (List.range m).map (fun i : Nat => V.int (0 + (i : Int) * 1)) = (List.range m).map fun i : Nat => V.int i := List.map_congr_left fun i _ => by congr 1; lia
    rw [this]; exact h
theorem small_down {a : Int} (ha : -1 ≤ a) (ha' : a < 2 ^ 62) : Builtin.Range.small a (-1) (-1) = true := by
  have hs : Builtin.Range.rangeSize a (-1) (-1) = a + 1 := by
    unfold Builtin.Range.rangeSize
    rw [if_neg (by lia), show (- -1 : Int) = 1 from rfl, Int.ediv_one]
    split <;> lia
  unfold Builtin.Range.small Builtin.Range.rangeFitsLong
  rw [hs]
  simp
  lia
theorem it_range_down {target : Expr} {a : Int} {K : List V → Mem → Prop} (ha : -1 ≤ a) (ha' : a < 2 ^ 62) (h : K ((List.range (a + 1).toNat).map fun i : Nat => V.int (a - (i : Int))) μ) : itF W n (.raw (.type "range")) [.int a, .int (-1), .int (-1)] μ target K := by
  refine ⟨fun fv vs A g s hA hg hfv hvs Q hQ => ?_⟩
  apply hfv.raw_elim
  apply hvs.cons_elim; intro _ _ r r2
  apply r2.cons_elim; intro _ _ r' r3
  apply r3.cons_elim; intro _ _ r'' r4
  apply r4.nil_elim; apply r.int_elim; intro _; apply r'.int_elim; intro _; apply r''.int_elim; intro _
  refine call_range_3 (by decide) ?_ (.inl (PyProof.noPylong_small (by decide)))
  refine it_range_core (n := n) (K := K) (m := (a + 1).toNat) hA hg rfl (small_down ha ha') ?_ ?_ hQ
  · unfold Builtin.Range.rangeSize
    rw [if_neg (by lia), show (- -1 : Int) = 1 from rfl, Int.ediv_one]
    split <;> lia
  · have : (List.range (a + 1).toNat).map (fun i : Nat => V.int (a + (i : Int) * (-1))) = (List.range (a + 1).toNat).map fun i : Nat => V.int (a - i) := List.map_congr_left fun i _ => by congr 1; lia
    rw [this]; exact h
end
end
section
theorem RepD.length {P : Params} {g : G} {es : List DictEntry} {Es : List (Str × V)} (h : RepD P g es Es) : es.length = Es.length := RepD.ind (p := fun es Es => es.length = Es.length) rfl (fun _ b => congrArg (· + 1) b) h
theorem RepD.append {P : Params} {g : G} {x : Str} {t : Tok} {v : Value} {y : V} (r : Rep P g v y) {es : List DictEntry} {Es : List (Str × V)} (h : RepD P g es Es) : RepD P g (es ++ [⟨PyData.keyHash P x, .str x t, v⟩]) (Es ++ [(x, y)]) :=
  RepD.ind (p := fun es Es => RepD P g (es ++ [⟨PyData.keyHash P x, .str x t, v⟩]) (Es ++ [(x, y)])) (.cons r .nil) (fun a b => .cons a b) h
theorem RepD.put {P : Params} {g : G} {nm : Str} {hsh : Int} {key v : Value} {es : List DictEntry} {Es : List (Str × V)} (h : RepD P g es Es) : Es.lookup nm = none → putL nm hsh key v es = es ++ [⟨hsh, key, v⟩] := by
  refine RepD.ind (p := fun es Es => Es.lookup nm = none → putL nm hsh key v es = es ++ [⟨hsh, key, v⟩]) (fun _ => rfl) (fun {x t u _ es ys} r b e => ?_) h
  by_cases q : nm = x
  · subst q; rw [List.lookup_cons, beq_self_eq_true] at e; cases e
  · rw [List.lookup_cons, beq_eq_false_iff_ne.mpr q] at e
    unfold putL
    rw [if_neg (by rw [show (Value.str x t).isStr nm = false from beq_eq_false_iff_ne.mpr (Ne.symm q)]; exact Bool.false_ne_true), b e]
    rfl
section
variable {W : Wd} {n : Nat} {F : Fm} {ρ : Loc} {μ : Mem} {pos : Pos}
/-- what the class says of a field that is set -/
structure OwnSet (W : Wd) (C : Addr) (nm : Str) : Prop where
  set : findIn (Mine.hd.heap_39 W.w.params) (.ref C) "__setattr__" = some (some (.builtin "object.__setattr__"))
  plain : plainOver (Mine.hd.heap_39 W.w.params) C = true
  taker : takerIn (Mine.hd.heap_39 W.w.params) C nm = some none
  dict : (clsIn (Mine.hd.heap_39 W.w.params) C).any (·.hasDict) = true
theorem G_setAttr {x C dx : Addr} {nm : Str} {fs : List (Str × V)} {y : V} {K : Mem → Prop} (hc : OwnSet W C nm) (hm : μ.lookup dx = some (.dct fs)) (hl : fs.lookup nm = none) (hz : fs.length < 1000) (h : K (mset μ dx (.dct (fs ++ [(nm, y)])))) :
    ∀ (ov v : Value), TrG W n (fun g => Rep W.P g ov (.obj x C dx) ∧ Rep W.P g v y) μ (setAttr ov nm v) (fun _ _ μ' => K μ') := by
  intro ov v A g s hA hg hp Q hQ
  obtain ⟨r1, r2⟩ := hp
  apply r1.obj_elim; intro e1
  obtain ⟨o, ho, hr⟩ := hg.get hm
  cases hr with
  | dct rd =>
    rename_i es k
    have X := hg.K
    have hx := hg.le _ _ e1
    have I : InstAt s.heap x (instObj C dx) C (some (dictOf es k)) := ⟨hx, rfl, rfl, ho⟩
    refine set_plain X I hc.set ?_
    refine osa_open (s := { s with toks := s.toks + 1 }) X I hc.plain hc.taker fun b => ?_
    obtain ⟨cd, hcd, hd'⟩ := any_some hc.dict
    refine wpAny_bind (wpAny_pure (wpAny_bind (wpAny_bind (wpAny_loadPart hx (wpAny_bind ((looks_clsIn X hcd).here (s := { s with toks := s.toks + 1 }) ?_))))))
    rw [hd']
    refine wpAny_pure (a := some dx) (wpAny_bind (wpAny_pure (wpAny_bind ?_)))
    unfold nsSet
    refine wpAny_bind (wpAny_bind (wpAny_askSetting (wpAny_pure (wpAny_bind (wpAny_mkText (wpAny_bind (wpAny_loadPart ho ?_)))))))
    dsimp only
    have gl := rd.getL_none hl
    have c : (!es.toArray.any (·.key.isStr nm) && es.toArray.any (·.refKey)) = false := by
      unfold getL at gl
      split at gl
      · cases gl
      · split at gl
        · cases gl
        · rename_i z
          rw [← Array.any_toList, ← Array.any_toList]
          rw [Bool.not_eq_true] at z
          show (!es.any _ && es.any _) = false
          rw [z, Bool.and_false]
    rw [aRefKeyMayBeTheName_at, c]
    refine wpAny_updatePart ho ?_
    have hput : Obj.putName nm (PyData.keyHash W.w.params nm) (.str nm (s.toks + 1)) v (dictOf es k) = dictOf (es ++ [⟨PyData.keyHash W.w.params nm, .str nm (s.toks + 1), v⟩]) (putN nm es k) := by
      rw [putName_dict, rd.put hl]
    have hD := Heap.get?_update_self (Obj.putName nm (PyData.keyHash W.w.params nm) (.str nm (s.toks + 1)) v) ho (by rw [hput]; rfl)
    rw [hput] at hD
    refine wpAny_bind (wpAny_lookBehind hD (pastItsLine_dict (by rw [List.size_toArray, sizeLine_eq, List.length_append, rd.length]; simp; lia)) ?_)
    obtain ⟨hg', nx⟩ := hg.turn (h' := s.heap.update dx (Obj.putName nm (PyData.keyHash W.w.params nm) (.str nm (s.toks + 1)) v)) (m := .dct (fs ++ [(nm, y)])) (addr_of_mlookup hm) hD (.dct (rd.append r2))
      fun b o' e1 e2 => (Heap.get?_update_ne _ _ _ _ e1).trans e2
    exact wpAny_pure (hQ () g _ _ _ h hg' nx)
theorem X_AssignAttr {o : Expr} {attr : Str} {pos' : Pos} {value : Expr} {K : Out → Mem → Prop} (h : wpE W n F ρ μ value fun v μ₁ => wpE W n F ρ μ₁ o fun y μ₂ => ∃ x C dx fs, y = .obj x C dx ∧ OwnSet W C attr ∧ μ₂.lookup dx = some (.dct fs) ∧ fs.lookup attr = none ∧ fs.length < 1000 ∧ K (.next ρ) (mset μ₂ dx (.dct (fs ++ [(attr, v)]))))
    (hs : swapsWith value (some (.Attribute o attr pos')) pos.line F.env = pure false := by rfl) : wpX W n F ρ μ (.Assign [.Attribute o attr pos'] value pos) K := by
  refine ⟨fun A g s hA hg hf Q hQ => ?_⟩
  refine plainObj_wpAny_Assign_Attribute (h.go A g s hA hg hf _ fun v g₁ μ₁ h₁ tk₁ hR₁ hg₁ nx₁ => ?_) hs
  obtain ⟨y, r, k⟩ := hR₁
  have hf₁ := hf.next hg₁ nx₁
  refine k.go A g₁ _ hA hg₁ hf₁ _ fun u g₂ μ₂ h₂ tk₂ hR₂ hg₂ nx₂ => ?_
  obtain ⟨z, rz, x, C, dx, fs, rfl, hc, hm, hl, hz, hK⟩ := hR₂
  exact G_setAttr (n := n) (K := K (.next ρ)) hc hm hl hz hK u v A g₂ _ hA hg₂ ⟨rz, r.mono nx₂.gle⟩ _ fun _ g₃ μ₃ h₃ tk₃ hR₃ hg₃ nx₃ => hQ _ (.next ρ) _ _ _ _ hR₃ ⟨rfl, (hf₁.next hg₂ nx₂).next hg₃ nx₃⟩ hg₃ ((nx₁.trans nx₂).trans nx₃).weak0

/-! ## new instances -/
theorem Room.under {A : Around} {c : Code} (x : Room (n + 1) A) (hw : c.weight ≤ 1) (hu : c.cUnits ≤ 8) : Room n (A.under c) :=
  ⟨x.handled, by have := x.depth; show A.depth + c.weight + n ≤ 900; lia, by have := x.units; show A.units + c.cUnits + 8 * n ≤ 9000; lia⟩
theorem Room.made {A : Around} {C : Addr} {vs : List Value} (x : Room (n + 1) A) : Room n (A.under (.builtin "type.__call__" ⟨.ref C :: vs, []⟩)) :=
  x.under (Nat.le_of_eq rfl) (Nat.le_of_ble_eq_true rfl)
theorem F_class {C fI : Addr} {xs : List V} {K : V → Mem → Prop} (hm : makesIn (Mine.hd.heap_39 W.w.params) C = true) (hi : findIn (Mine.hd.heap_39 W.w.params) (.ref C) "__init__" = some (some (.ref fI))) (hf : typeIn (Mine.hd.heap_39 W.w.params) (.ref fI) = some (.type "function"))
    (h : ∀ x dx, dx ∉ addrs μ → wpC W n (.raw (.ref fI)) (.obj x C dx :: xs) ((dx, .dct []) :: μ) fun y μ' => y = .none ∧ ∃ fs, μ'.lookup dx = some (.dct fs) ∧ K (.inst C fs) (mdel μ' dx)) : wpF W (n + 1) (.raw (.ref C)) xs μ K := by
  refine ⟨fun fv vs A g s hA hg hp Q hQ => ?_⟩
  obtain ⟨hfv, hvs⟩ := hp
  apply hfv.raw_elim
  refine wpAny_call ?_
  obtain ⟨hh, gg, d, t, os⟩ := s
  have X := hg.K
  have R := make_core (prog := W.prog) (w := W.w) (A := A) (C := C) (rest := vs) (kw := []) (init := .ref fI) (h := hh) (g := gg) (d := d) (t := t) (os := os) (R := fun r s' => match r with | .ok (.ret v) => Q v s' | .ok _ => False | .error e => False) (makes_of X hm) (looks_findIn X hi) (fun self => bind_fn X self hf) (.inl rfl) ?_
  · exact R
  obtain ⟨hg₁, nx₁⟩ := hg.allocM (o := emptyDict) (m := .dct []) rfl (.dct (es := []) .nil)
  obtain ⟨hg₂, nx₂, e₂⟩ := hg₁.alloc (o := instObj C hh.objs.size) rfl
  rw [Heap.size_push] at hg₂ nx₂ e₂
  have hd' := (hg.fresh (get_size hh)).2
  have z := (h (hh.objs.size + 1) hh.objs.size hd').go (.ref fI) (.ref (hh.objs.size + 1) :: vs) (A.under (.builtin "type.__call__" ⟨.ref C :: vs, []⟩)) _ ⟨_, gg, d, t, os⟩ hA.made hg₂ ⟨.raw _, .cons (.obj e₂) (hvs.mono (nx₁.gle.trans nx₂.gle))⟩ (fun v s' => v = .none ∧ Q (.ref (hh.objs.size + 1)) s') fun v g₃ μ₃ h₃ tk₃ hR₃ hg₃ nx₃ => by
    obtain ⟨y, r, rfl, fs, hl, hK⟩ := hR₃
    apply r.none_elim
    refine ⟨rfl, ?_⟩
    obtain ⟨g₄, hg₄, nx₄, k⟩ := hg₃.frz (.obj (x := hh.objs.size + 1) (C := C) hl)
    exact hQ _ _ _ _ _ ⟨_, k _ (.obj (nx₃.gle _ _ e₂)), hK⟩ hg₄ (((nx₁.trans nx₂).trans nx₃).trans nx₄)
  refine codeAny_mono z fun r s' hr => ?_
  rcases r with e | (v | _ | _ | _) <;> exact hr

/-! ## dicts with str keys -/
theorem MapOf.of_rep {P : Params} {g : G} {es : List DictEntry} {Es : List (Str × V)} (h : RepD P g es Es) : ∀ e ∈ es, ∃ x t, e.key = .str x t ∧ e.hash = PyData.keyHash P x :=
  RepD.ind (p := fun es _ => ∀ e ∈ es, ∃ x t, e.key = .str x t ∧ e.hash = PyData.keyHash P x) (fun _ he => nomatch he) (fun _ b e he => (List.mem_cons.mp he).elim (fun q => by subst q; exact ⟨_, _, rfl, rfl⟩) (b e)) h
theorem dict_mapOf {g : G} {h : Heap} {a : Addr} {es : List DictEntry} {k : Nat} {Es : List (Str × V)} (e : h.get? a = some (dictOf es k)) (r : RepD W.P g es Es) : h.MapOf (PySem.strKind W.prog W.w) a (fun x => findBy Value.isStrOf es.toArray x) :=
  ⟨_, es.toArray, k, e, ⟨rfl, rfl, rfl⟩, rfl, fun en he => by
    obtain ⟨x, t, e1, e2⟩ := MapOf.of_rep r en (by simpa using he)
    exact ⟨x, by rw [e1]; exact strKind_is W.prog W.w x t, e2⟩, fun _ => rfl⟩
theorem RepD.find_some {P : Params} {g : G} {nm : Str} {y : V} {es : List DictEntry} {Es : List (Str × V)} (h : RepD P g es Es) : Es.lookup nm = some y → ∃ v, findBy Value.isStrOf es.toArray nm = some v ∧ Rep P g v y := by
  refine RepD.ind (p := fun es Es => Es.lookup nm = some y → ∃ v, findBy Value.isStrOf es.toArray nm = some v ∧ Rep P g v y) (fun e => nomatch e) (fun {x t v _ es ys} r b e => ?_) h
  unfold findBy
  rw [List.find?_toArray, List.find?_cons]
  by_cases q : nm = x
  · subst q
    rw [List.lookup_cons, beq_self_eq_true] at e; cases e
    exact ⟨v, by rw [show Value.isStrOf nm (.str nm t) = true from beq_self_eq_true nm]; rfl, r⟩
  · rw [List.lookup_cons, beq_eq_false_iff_ne.mpr q] at e
    obtain ⟨u, h1, h2⟩ := b e
    unfold findBy at h1
    rw [List.find?_toArray] at h1
    exact ⟨u, by rw [show Value.isStrOf nm (.str x t) = false from beq_eq_false_iff_ne.mpr (Ne.symm q)]; exact h1, h2⟩
theorem RepD.find_none {P : Params} {g : G} {nm : Str} {es : List DictEntry} {Es : List (Str × V)} (h : RepD P g es Es) : Es.lookup nm = none → findBy Value.isStrOf es.toArray nm = none := by
  refine RepD.ind (p := fun es Es => Es.lookup nm = none → findBy Value.isStrOf es.toArray nm = none) (fun _ => rfl) (fun {x t v _ es ys} r b e => ?_) h
  unfold findBy
  rw [List.find?_toArray, List.find?_cons]
  by_cases q : nm = x
  · subst q
    rw [List.lookup_cons, beq_self_eq_true] at e; cases e
  · rw [List.lookup_cons, beq_eq_false_iff_ne.mpr q] at e
    have h1 := b e
    unfold findBy at h1
    rw [List.find?_toArray] at h1
    rw [show Value.isStrOf nm (.str x t) = false from beq_eq_false_iff_ne.mpr (Ne.symm q)]; exact h1
theorem sub_dct {value slice : Expr} {es : List (Str × V)} {nm : Str} {y : V} {K : V → Mem → Prop} (hl : es.lookup nm = some y) (h : K y μ) (hs : ∀ o i, subscripted slice false o i = operate [o, i] (getItem o i) := by intro _ _; rfl) : subT W n value slice (.dct es) (.str nm) μ K :=
  ⟨fun v u => .still fun A g s Q hA hg hp hQ => by
    obtain ⟨a, b⟩ := hp
    apply b.str_elim; intro _
    apply a.dct_elim; intro _ _ _ e1 e2 rd
    obtain ⟨x, h1, h2⟩ := rd.find_some hl
    have M := dict_mapOf (W := W) (hg.le _ _ e1) rd
    exact tail_any M.typeIs slot_dict_getitem.lookup (wpAny_getItem_of (strKind_is W.prog W.w nm _) M h1 (hQ x _ ⟨y, h2, h⟩)) (hs _ _)⟩
theorem meth_get {es : List (Str × V)} : methT W n (.dct es) "get" μ (.raw (.builtin "dict.get")) [.dct es] :=
  ⟨fun v pl => .still fun A g s Q hA hg hp hQ => by
    have hp' := hp
    cases hp with
    | dct e1 e2 rd =>
      have M := dict_mapOf (W := W) (hg.le _ _ e1) rd
      exact getMethod_builtin M.typeIs PySem.F.plainAttrs_dict PySem.F.slot_dict_get PySem.F.type_dict_get M.noDict (hQ _ s.toks ⟨rfl, .raw _, .one hp'⟩)⟩
theorem F_get {es : List (Str × V)} {nm : Str} {y : V} {K : V → Mem → Prop} (h : K ((es.lookup nm).getD y) μ) : wpF W n (.raw (.builtin "dict.get")) [.dct es, .str nm, y] μ K :=
  ⟨fun fv vs => .still fun A g s Q hA hg hp hQ => by
    obtain ⟨h1, h2⟩ := hp
    apply h1.raw_elim
    apply h2.cons_elim; intro _ _ r r2
    apply r2.cons_elim; intro _ _ r' r3
    apply r3.cons_elim; intro _ _ r'' r4
    apply r4.nil_elim; apply r'.str_elim; intro _
    apply r.dct_elim; intro _ _ _ e1 e2 rd
    have M := dict_mapOf (W := W) (hg.le _ _ e1) rd
    refine call_meetsIn PySem.F.slot_dict_get M.typeIs PySem.F.entry_dict_get (PySem.F.args_dict_get_3 _ _ _) (meets_dict_get_default (PySem.strKind W.prog W.w) _ (strKind_is W.prog W.w nm _) e2 _) ⟨_, M, hQ _ _ ?_⟩
    cases hl : es.lookup nm with
    | some z =>
      obtain ⟨x, h1, h2⟩ := rd.find_some hl
      rw [h1]; rw [hl] at h; exact ⟨z, h2, h⟩
    | none =>
      rw [rd.find_none hl]; rw [hl] at h; exact ⟨y, r'', h⟩⟩
end
end
section
section
variable {prog : Program} {w : World} {A : Around} {E : Value → Shared → Prop} {s : Shared}
/-- a new key at a dict's end -/
theorem dictSet_push {P : Params} {g : G} {d : Addr} {es : List DictEntry} {k : Nat} {Es : List (Str × V)} {nm : Str} {t : Tok} {v : Value} {Q : Unit → Shared → Prop} (hP : P = w.params) (ho : s.heap.get? d = some (dictOf es k)) (r : RepD P g es Es) (hl : Es.lookup nm = none) (hz : es.length ≤ 1000)
    (hQ : ∀ h', h'.get? d = some (dictOf (es ++ [⟨PyData.keyHash P nm, .str nm t, v⟩]) (k + 1)) → (∀ b o, b ≠ d → s.heap.get? b = some o → h'.get? b = some o) → Q () { s with heap := h', toks := s.toks + 1 }) :
    wpAny (model prog w) A (dictSet d (.str nm t) v) Q E s := by
  subst hP
  have hkey := strKind_is prog w nm t
  have hk : KeysOf (PySem.strKind prog w) es.toArray := fun en he => by
    obtain ⟨x, t, e1, e2⟩ := MapOf.of_rep r en (by simpa using he)
    exact ⟨x, by rw [e1]; exact strKind_is prog w x t, e2⟩
  have hi : es.toArray.findIdx? (fun e => (PySem.strKind prog w).is nm e.key) = none := by
    have := r.find_none hl
    unfold findBy at this
    rw [Option.map_eq_none_iff, Array.find?_eq_none] at this
    rw [Array.findIdx?_eq_none_iff]
    intro x hx
    have := this x hx
    show Value.isStrOf nm x.key = false
    simpa using this
  unfold dictSet
  try with_reducible refine wpAny_holding ?_
  refine wpAny_bind ((PySem.strKind prog w).pyHash hkey ?_)
  unfold dictSetHashed
  try with_reducible refine wpAny_holding ?_
  refine wpAny_bind (wpAny_dictFind_of (s := { s with toks := s.toks + 1 }) hkey ho rfl hk ?_)
  rw [hi]
  refine wpAny_bind (wpAny_rule (wpAny_updateDictKeys (hz := by rw [List.size_toArray, sizeLine_eq]; lia) (s := { s with toks := s.toks + 1 }) ho rfl (hQ _ ?_ fun b o e1 e2 => (Heap.get?_update_ne _ _ _ _ e1).trans e2)))
  have e := Heap.get?_update_self (Obj.mapDictKeys (·.push ⟨(PySem.strKind prog w).hash nm, .str nm t, v⟩)) ho rfl
  refine e.trans ?_
  congr 1
  show ({ cls := .type "dict", data := .dict (es.toArray.push _) (k + 1) } : Obj) = _
  unfold dictOf
  congr 2
  simp
  rfl
end
section
variable {W : Wd} {n : Nat} {F : Fm} {ρ : Loc} {μ : Mem} {pos : Pos}
theorem X_AssignSubM {o i : Expr} {pos' : Pos} {value : Expr} {K : Out → Mem → Prop} (h : wpE W n F ρ μ value fun v μ₁ => wpE W n F ρ μ₁ o fun y μ₂ => wpE W n F ρ μ₂ i fun z μ₃ => ∃ a es nm, y = .raw (.ref a) ∧ z = .str nm ∧ μ₃.lookup a = some (.dct es) ∧ es.lookup nm = none ∧ es.length < 1000 ∧ K (.next ρ) (mset μ₃ a (.dct (es ++ [(nm, v)]))))
    (hs : swapsWith value (some (.Subscript o i pos')) pos.line F.env = pure false := by rfl) : wpX W n F ρ μ (.Assign [.Subscript o i pos'] value pos) K := by
  refine ⟨fun A g s hA hg hf Q hQ => ?_⟩
  refine wpAny_Assign_Subscript (h.go A g s hA hg hf _ fun v g₁ μ₁ h₁ tk₁ hR₁ hg₁ nx₁ => ?_) hs
  obtain ⟨y, r, k⟩ := hR₁
  have hf₁ := hf.next hg₁ nx₁
  refine k.go A g₁ _ hA hg₁ hf₁ _ fun u g₂ μ₂ h₂ tk₂ hR₂ hg₂ nx₂ => ?_
  obtain ⟨y2, r2, k2⟩ := hR₂
  have hf₂ := hf₁.next hg₂ nx₂
  refine k2.go A g₂ _ hA hg₂ hf₂ _ fun u3 g₃ μ₃ h₃ tk₃ hR₃ hg₃ nx₃ => ?_
  obtain ⟨y3, r3, a, es, nm, rfl, rfl, hm, hl, hz, hK⟩ := hR₃
  apply r3.str_elim; intro _; apply r2.raw_elim
  obtain ⟨o, ho, hr⟩ := hg₃.get hm
  cases hr with
  | dct rd =>
    rename_i t es' k'
    have M := dict_mapOf (W := W) ho rd
    unfold setItem
    try with_reducible refine wpAny_holding ?_
    refine wpAny_bind (wpAny_sequenceKey (s := ⟨h₃, _, _, tk₃, _⟩) M.typeIs (by decide) ?_)
    refine wpAny_bind (wpAny_callSpecial?_slot (name := Str.ofString "__setitem__") M.typeIs slot_dict_setitem
      (wpAny_call_entry slot_dict_setitem M.typeIs entry_dict_setitem ?_ (args_dict_setitem _ _ _)))
    show wpAny _ _ (Builtin.Dict.notOrdered "__setitem__" ⟨[.ref a, .str nm t, v], []⟩ >>= _) _ _ _
    refine wpAny_bind (wpAny_notOrdered_dict M.typeIs ?_)
    show wpAny _ _ (dictSet a (.str nm t) v >>= _) _ _ _
    refine wpAny_bind (dictSet_push rfl ho rd hl (by rw [rd.length]; lia) fun h' e' k' => wpAny_pure ⟨.none, rfl, wpAny_pure ?_⟩)
    obtain ⟨hg₄, nx₄⟩ := hg₃.turn (h' := h') (m := .dct (es ++ [(nm, y)])) (addr_of_mlookup hm) e' (.dct (rd.append (r.mono (nx₂.gle.trans nx₃.gle)))) k'
    exact hQ _ (.next ρ) _ _ h' _ hK ⟨rfl, (hf₂.next hg₃ nx₃).next hg₄ nx₄⟩ hg₄ (((nx₁.trans nx₂).trans nx₃).trans nx₄).weak0

/-! ## dict displays -/
theorem GSt.low {g h} (x : GSt W g μ h) {a : Addr} (e : h.get? a = none) : (h.objs.size == sysModules) = false :=
  beq_eq_false_iff_ne.mpr (Nat.ne_of_gt (modules_low x.top.nolimit))
/-- an empty dict that will be changed -/
theorem E_DictM {K : V → Mem → Prop} (h : ∀ a, a ∉ addrs μ → (a == sysModules) = false → K (.raw (.ref a)) ((a, .dct []) :: μ)) : wpE W n F ρ μ (.Dict [] [] pos) K := by
  refine ⟨fun A g s hA hg hf Q hQ => ?_⟩
  refine wpAny_Dict_empty ?_
  obtain ⟨hg', nx⟩ := hg.allocM (o := dictOf [] 0) (m := .dct []) rfl (.dct .nil)
  exact hQ _ _ _ _ s.toks ⟨_, .raw _, h _ (hg.fresh (get_size _)).2 (hg.low (get_size _))⟩ hg' nx
theorem E_Dict0 {K : V → Mem → Prop} (h : K (.dct []) μ) : wpE W n F ρ μ (.Dict [] [] pos) K := by
  refine ⟨fun A g s hA hg hf Q hQ => ?_⟩
  refine wpAny_Dict_empty ?_
  obtain ⟨hg', nx, e⟩ := hg.alloc (o := dictOf [] 0) rfl
  exact hQ _ _ _ _ s.toks ⟨_, .dct e (hg.low (get_size _)) .nil, h⟩ hg' nx
theorem RepD.of_dict {prog : Program} {w : World} {g : G} {nm : Str} {v : Value} {y : V} {h : Heap} {d : Addr} (hd : h.DictOf (PySem.strKind prog w) d [(nm, v)]) (r : Rep w.params g v y) : ∃ es k, h.get? d = some (dictOf es k) ∧ RepD w.params g es [(nm, y)] := by
  obtain ⟨o, es, ep, ho, hc, hdat, hk, hp, _⟩ := hd
  obtain ⟨c, dd, dt, sl⟩ := o
  obtain ⟨c1, c2, c3⟩ := hc
  simp only at hdat c1 c2 c3
  subst hdat c1 c2 c3
  obtain ⟨l⟩ := es
  refine ⟨l, ep, ho, ?_⟩
  cases hp with
  | cons h1 h2 h3 =>
    rename_i e es'
    cases h3
    obtain ⟨hsh, key, val⟩ := e
    obtain ⟨t, ht⟩ := Value.isStrOf_shape (x := nm) h1
    simp only at ht h2
    subst ht h2
    obtain ⟨x, hx1, hx2⟩ := hk ⟨hsh, .str nm t, val⟩ (by simp)
    have : x = nm := (PySem.strKind prog w).inj _ _ _ hx1 (strKind_is prog w nm t)
    subst this
    simp only at hx2
    rw [hx2]
    exact .cons r .nil
/-- a dict of one word -/
theorem E_Dict1 {key value : Expr} {K : V → Mem → Prop} (h : wpE W n F ρ μ key fun z μ₁ => ∃ nm, z = .str nm ∧ wpE W n F ρ μ₁ value fun y μ₂ => K (.dct [(nm, y)]) μ₂) : wpE W n F ρ μ (.Dict [some key] [value] pos) K := by
  refine ⟨fun A g s hA hg hf Q hQ => ?_⟩
  have f0 := get_size s.heap
  obtain ⟨hg₀, nx₀⟩ := hg.keeps (h' := s.heap.push { cls := .type "dict", data := .dict #[] }) fun _ _ e => Heap.get?_push_of_some _ e
  have e₀ : (s.heap.push { cls := .type "dict", data := .dict #[] }).get? s.heap.objs.size = some (dictOf [] 0) := Heap.get?_push_size _ rfl
  have fr := hg.fresh f0
  have hf₀ := hf.next hg₀ nx₀
  -- nobody touches the new dict
  have hold : ∀ {g₁ : G} {μ₁ : Mem} {h₁ : Heap}, GSt W g₁ μ₁ h₁ → Nx [] g μ (s.heap.push { cls := .type "dict", data := .dict #[] }) g₁ μ₁ h₁ → h₁.get? s.heap.objs.size = some (dictOf [] 0) ∧ g₁ s.heap.objs.size = none ∧ s.heap.objs.size ∉ addrs μ₁ := fun {g₁ μ₁ h₁} hg₁ nx₁ => by
    refine ⟨nx₁.step _ _ fr.2 (fun q => nomatch q) e₀, ?_, fun q => ?_⟩
    · cases q : g₁ s.heap.objs.size with
      | none => rfl
      | some o =>
        rcases nx₁.gfr _ o q with r | r | r | r
        · rw [fr.1] at r; cases r
        · exact absurd r fr.2
        · cases r
        · rw [e₀] at r; cases r
    · rcases nx₁.mfr _ q with r | r | r
      · exact fr.2 r
      · cases r
      · rw [e₀] at r; cases r
  refine wpAny_Dict_walk (knd := PySem.strKind W.prog W.w) rfl rfl (by simp) (by simp) ?_
  refine pairTrees_cons_walk (h.go A g _ hA hg₀ hf₀ _ fun kv g₁ μ₁ h₁ tk₁ hR₁ hg₁ nx₁ => ?_)
  obtain ⟨z, rz, nm, rfl, k⟩ := hR₁
  apply rz.str_elim; intro _
  refine k.go A g₁ _ hA hg₁ (hf₀.next hg₁ nx₁) _ fun vv g₂ μ₂ h₂ tk₂ hR₂ hg₂ nx₂ => ?_
  obtain ⟨y, ry, hK⟩ := hR₂
  rename_i t
  refine pairTrees_nil_walk ?_
  have nx := nx₁.trans nx₂
  obtain ⟨hD, hD1, hD2⟩ := hold hg₂ nx
  refine ⟨[(nm, vv)], ⟨strKind_is W.prog W.w nm t, rfl, trivial⟩, ⟨_, #[], 0, hD, ⟨rfl, rfl, rfl⟩, rfl, fun _ he => by simp at he, .nil, List.nodup_nil⟩, fun h' hd' hs' => ?_⟩
  rw [show merged [] [(nm, vv)] = [(nm, vv)] from rfl] at hd'
  obtain ⟨hg₃, nx₃⟩ := hg₂.mine (T := [s.heap.objs.size]) (h' := h') hD1 hD2 (by simp) fun b o e1 e2 => (hs'.2 b e1).trans e2
  obtain ⟨es, kk, ho, rd⟩ := RepD.of_dict hd' ry
  -- the new dict is frozen
  have gl : GLe g₂ (gPut g₂ s.heap.objs.size (dictOf es kk)) := fun a o' e => by
    unfold gPut
    by_cases q : a = s.heap.objs.size
    · rw [q, hD1] at e; cases e
    · rw [if_neg q]; exact e
  have hg₄ : GSt W (gPut g₂ s.heap.objs.size (dictOf es kk)) μ₂ h' := ⟨hg₃.base.trans gl, fun a o' e => by
      unfold gPut at e
      by_cases q : a = s.heap.objs.size
      · rw [if_pos q] at e; cases e; rw [q]; exact ho
      · rw [if_neg q] at e; exact hg₃.le _ _ e,
    fun q hq => let ⟨o', e1, e2⟩ := hg₃.mem q hq; ⟨o', e1, e2.mono gl⟩, fun a ha => by
      unfold gPut
      rw [if_neg fun q : a = s.heap.objs.size => hD2 (q ▸ ha)]; exact hg₃.off a ha, hg₃.nd⟩
  have nx₄ : Nx [s.heap.objs.size] g₂ μ₂ h' (gPut g₂ s.heap.objs.size (dictOf es kk)) μ₂ h' := ⟨gl, fun a o' e => by
      unfold gPut at e
      by_cases q : a = s.heap.objs.size
      · rw [q]; exact .inr (.inr (.inl (by simp)))
      · rw [if_neg q] at e; exact .inl e, fun _ e => .inl e, fun _ _ _ _ e => e, fun _ o _ e => ⟨o, e⟩⟩
  have nxA : Nx [] g μ s.heap (gPut g₂ s.heap.objs.size (dictOf es kk)) μ₂ h' :=
    (nx₀.trans nx).drop (wr := [s.heap.objs.size]) (nx₃.trans nx₄) fun b hb => by rw [List.mem_singleton.mp hb]; exact f0
  exact hQ _ _ _ _ _ ⟨_, .dct (if_pos rfl) (hg.low f0) (rd.mono gl), hK⟩ hg₄ nxA
end
end
section
theorem extend_listG (l : Addr) (items : Array Value) (n : Nat) (b : Addr) (items2 : Array Value) (n2 : Nat) (dd2 : Option Addr) (sl2 : Array (Option Value)) (hc0 : ¬(!items.isEmpty && Builtin.List.listTooLong (items.size + items2.size)) = true) (hc1 : items.size ≤ sizeLine) (hs2 : items.size + items2.size ≤ sizeLine + 1) :
    Meets (Builtin.«list.extend» ⟨[.ref l, .ref b], []⟩) (fun _ R s => s.heap.get? l = some { cls := .type "list", dict := none, data := .seq items n, slots := #[] } ∧ s.heap.get? b = some { cls := .type "list", dict := dd2, data := .seq items2 n2, slots := sl2 } ∧ R (.ok (.ret Value.none)) { s with heap := s.heap.update l (Obj.mapSeq fun x => x ++ items2), toks := s.toks }) :=
  .of_wp fun prog w A R s h => by
    obtain ⟨hp, g, d, tk, os⟩ := s; obtain ⟨hl, hb, h⟩ := h; have f1 := AutoSeq1.idx_int; have f2 := AutoSeq1.sub_tuple_tuple; have f3 := AutoSeq1.sub_list_list; have f4 := AutoSeq1.sub_tuple_list; have f5 := AutoSeq1.sub_list_tuple;
    have hz' : (items ++ items2).size ≤ sizeLine + 1 := by rw [Array.size_append]; exact hs2
    wp_walk using (wpAny_updateSeq hl rfl (hz := hc1) (_hz' := hz')), wpAny_loadPart' hl, wpAny_loadPart' hb; exact ⟨_, rfl, h⟩
section
variable {W : Wd} {n : Nat} {F : Fm} {ρ : Loc} {μ : Mem} {pos : Pos}
theorem meth_extend {a : Addr} {ys : List V} (hm : μ.lookup a = some (.lst ys)) : methT W n (.raw (.ref a)) "extend" μ (.raw (.builtin "list.extend")) [.raw (.ref a)] :=
  ⟨fun v pl => .still fun A g s Q hA hg hp hQ => by
    apply hp.raw_elim
    obtain ⟨o, ho, hr⟩ := hg.get hm
    apply hr.lst_elim; intro _ _ c1 c2 c3 c4 c5 c6
    exact getMethod_builtin (T := "list") ⟨o, ho, c1⟩ PySem.F.plainAttrs_list PySem.F.slot_list_extend PySem.F.type_list_extend (fun b e => by cases e; exact ⟨o, ho, c4⟩) (hQ _ s.toks ⟨rfl, .raw _, .one (.raw _)⟩)⟩
theorem F_extend {a : Addr} {xs ys : List V} {K : V → Mem → Prop} (hm : μ.lookup a = some (.lst xs)) (hsz : xs.length + ys.length ≤ 2 ^ 20) (h : K .none (mset μ a (.lst (xs ++ ys)))) : wpF W n (.raw (.builtin "list.extend")) [.raw (.ref a), .lst ys] μ K := by
  refine ⟨fun fv vs A g s hA hg hp Q hQ => ?_⟩
  obtain ⟨h1, h2⟩ := hp
  apply h1.raw_elim
  apply h2.cons_elim; intro _ _ ra r2
  apply ra.raw_elim
  apply r2.cons_elim; intro _ _ r r3
  apply r3.nil_elim
  obtain ⟨o, ho, hr⟩ := hg.get hm
  apply hr.lst_elim; intro _ _ c1 c2 c3 c4 c5 c6
  apply r.lst_elim; intro _ _ _ _ e1 e2 e3 e4 rs
  rename_i ws k b o' zs k'
  obtain ⟨cls, dd, data, sl⟩ := o
  obtain ⟨cls2, dd2, data2, sl2⟩ := o'
  simp only at c1 c2 c4 c5 e2 e3 e4
  subst c1 c2 c4 c5 e2 e3 e4
  have l1 := c6.length
  have l2 := rs.length
  have hs' : ws.toArray.size + zs.toArray.size ≤ 2 ^ 20 := by rw [List.size_toArray, List.size_toArray, l1, l2]; exact hsz
  refine call_meets PySem.F.slot_list_extend ⟨_, ho, rfl⟩ PySem.F.entry_list_extend (PySem.F.args_list_extend_2 _ _) (extend_listG a ws.toArray k b zs.toArray k' none sl2 (extend_door (by rw [sizeLine_eq]; lia)) (by rw [sizeLine_eq]; lia) (by rw [sizeLine_eq]; lia)) ⟨ho, hg.le _ _ e1, ?_⟩
  have e : ws.toArray ++ zs.toArray = (ws ++ zs).toArray := by simp
  have ho' := Heap.get?_update_self (Obj.mapSeq fun x => x ++ zs.toArray) ho rfl
  obtain ⟨hg', nx⟩ := hg.turn (h' := s.heap.update a (Obj.mapSeq fun x => x ++ zs.toArray)) (m := .lst (xs ++ ys)) (addr_of_mlookup hm) (by rw [ho', mapSeq_app, e]) (.lst rfl rfl rfl rfl rfl (c6.append rs))
    fun b o' e1 e2 => (Heap.get?_update_ne _ _ _ _ e1).trans e2
  exact hQ _ _ _ _ s.toks ⟨_, .none, h⟩ hg' nx
theorem ints_items {P : Params} {g : G} : ∀ {vs : List Value} {is : List Int}, Reps P g vs (is.map .int) → ∃ ps : List (Int × Tok), vs = ps.map (fun p => .int p.1 p.2) ∧ ps.length = is.length
  | _, [], .nil => ⟨[], rfl, rfl⟩
  | _, i :: is, .cons r b => by
    apply r.int_elim; intro _
    rename_i t
    obtain ⟨ps, rfl, hl⟩ := ints_items b
    exact ⟨(i, t) :: ps, rfl, congrArg (· + 1) hl⟩
theorem F_max {is : List Int} {K : V → Mem → Prop} (hne : is ≠ []) (h : ∀ i, K (.int i) μ) : wpF W n (.raw (.builtin "max")) [.lst (is.map .int)] μ K := by
  refine ⟨fun fv vs A g s hA hg hp Q hQ => ?_⟩
  obtain ⟨h1, h2⟩ := hp
  apply h1.raw_elim
  apply h2.cons_elim; intro _ _ r r2
  apply r2.nil_elim
  apply r.lst_elim; intro _ _ _ _ e1 e2 e3 e4 rs
  rename_i b o ws k
  obtain ⟨ps, rfl, hl⟩ := ints_items rs
  have hi : intItems ps.toArray = (ps.map (fun p : Int × Tok => Value.int p.1 p.2)).toArray := by unfold intItems; simp
  refine max_intList (xs := ps.toArray) hA.handled ⟨o, hg.le _ _ e1, e2, _, by rw [hi]; exact e3⟩ ?_ fun v h' tk hv hk => ?_
  · rw [List.size_toArray, hl]
    exact List.length_pos_iff.mpr hne
  · obtain ⟨t, rfl⟩ := intItems_at hv
    obtain ⟨hg₁, nx₁⟩ := hg.keeps hk
    exact hQ _ _ _ _ tk ⟨_, .int _ _, h _⟩ hg₁ nx₁
end

/-! ## dict(zip(..)) of one pair -/
theorem entry_dict_update_loop : entryFor table "dict.update.loop" = some Builtin.«dict.update.loop» := entryFor_of_tree (by kernel_rfl)
theorem plain_dict_update_loop : plainId "dict.update.loop" = true := by decide +kernel
section
variable {prog : Program} {w : World} {A : Around} {E : Value → Shared → Prop} {s : Shared}
theorem dict_loop_step {d : Addr} {it : Value} {i : Int} {t : Tok} {R : Result → Shared → Prop}
    (h : wpAny (model prog w) A.in1 (pyNext it) (fun r s₁ => match r with
      | none => R (.ok (.ret .none)) s₁
      | some v => ∃ T k x o n, v = .ref T ∧ s₁.heap.get? T = some o ∧ o.cls = .type "tuple" ∧ o.data = .seq #[k, x] n ∧
          wpAny (model prog w) A.in1 (dictSet d k x) (fun _ s₂ => codeAny (model prog w) A (.builtin "dict.update.loop" ⟨[.ref d, it, rawInt (i + 1), .none], []⟩) R s₂) (fun e s' => R (.error e) s') s₁)
      (fun e s' => R (.error e) s') s) :
    codeAny (model prog w) A (.builtin "dict.update.loop" ⟨[.ref d, it, .int i t, .none], []⟩) R s := by
  refine codeAny_builtin entry_dict_update_loop ?_
  rw [Around.under_plainId plain_dict_update_loop _]
  unfold Builtin.«dict.update.loop»
  show wpAny _ _ (pyNext it >>= _) _ _ _
  refine wpAny_bind (wpAny_mono h (fun r s₁ hr => ?_) fun _ _ e => e)
  cases r with
  | none => exact wpAny_bind (m := Builtin.Dict.addKeywords d []) (wpAny_pure (wpAny_pure hr))
  | some v =>
    obtain ⟨T, k, x, o, n, rfl, ho, hc, hd, hk⟩ := hr
    refine wpAny_bind (wpAny_holding (wpAny_bind (wpAny_tryCatch ?_)))
    unfold Builtin.Dict.pairItems
    refine wpAny_bind (wpAny_typeOf (T := "tuple") ⟨o, ho, hc⟩ ?_)
    rw [if_pos (by decide)]
    refine wpAny_bind (wpAny_seqItems ho hd (wpAny_pure ?_))
    show wpAny _ _ (holding [k, x] (dictSet d k x)) _ _ _
    refine wpAny_holding (wpAny_mono hk (fun _ s₂ h₂ => ?_) fun _ _ e => e)
    exact wpAny_pure ⟨plainId_quiet plain_dict_update_loop _, h₂⟩
theorem call_dict_pairs {arg : Value} {T : String} {Q : Value → Shared → Prop} (hne : (Value.type T != Value.type "dict") = true)
    (hT : ∀ h', (∀ b o, s.heap.get? b = some o → h'.get? b = some o) → Shared.TypeIs { s with heap := h' } arg T)
    (h : ∀ A' : Around, A'.handled = A.handled → A'.depth = A.depth → A'.units ≤ A.units + 3 → wpAny (model prog w) A' (getAttr? arg "keys") (fun r s₂ => r = none ∧ wpAny (model prog w) A' (pyIter arg) (fun it s₃ =>
        codeAny (model prog w) A.in1 (.builtin "dict.update.loop" ⟨[.ref s.heap.objs.size, it, rawInt 0, .none], []⟩) (fun r s' => match r with | .ok (.ret v) => v = .none ∧ Q (.ref s.heap.objs.size) s' | .ok _ => False | .error e => E e s') s₃) E s₂) E
        { s with heap := s.heap.push { cls := .type "dict", data := .dict #[] } }) :
    wpAny (model prog w) A (call (.type "dict") [arg]) Q E s := by
  refine callType_codes (Q₁ := fun obj s₁ => obj = .ref s.heap.objs.size ∧ s₁ = { s with heap := s.heap.push { cls := .type "dict", data := .dict #[] } }) F.kt_called_dict (F.kt_typeCall_dict_1 _) F.entry_dict_init (kt_code_dict_new _ ⟨rfl, rfl⟩) ?_
  rintro obj s₁ ⟨rfl, rfl⟩
  have hnew : (s.heap.push { cls := .type "dict", data := .dict #[] }).DictOf (PySem.strKind prog w) s.heap.objs.size [] := Heap.DictOf.new s.heap
  refine ⟨hnew.typeIs, F.args_dict_init_2 _ _, ?_⟩
  unfold Builtin.«dict.__init__»
  refine wpAny_bind ?_
  unfold Builtin.Dict.selfAndRest
  refine wpAny_bind (wpAny_notOrdered_dict hnew.typeIs ?_)
  show wpAny _ _ (pure (s.heap.objs.size, [arg])) _ _ _
  refine wpAny_pure ?_
  show wpAny _ _ (Builtin.Dict.updateFrom "dict.__init__" s.heap.objs.size arg [] .none) _ _ _
  unfold Builtin.Dict.updateFrom
  refine wpAny_bind (wpAny_typeOf (hT _ fun _ _ e => Heap.get?_push_of_some _ e) ?_)
  rw [if_pos hne]
  refine wpAny_bind (wpAny_mono (h A.in1.in1 rfl rfl (by show A.units + 1 + 1 ≤ A.units + 3; lia)) (fun r s₂ h₂ => ?_) fun _ _ e => e)
  obtain ⟨rfl, h₂⟩ := h₂
  rw [if_pos (by rfl)]
  refine wpAny_bind (wpAny_rule (wpAny_bind (wpAny_mono h₂ (fun it s₃ h₃ => ?_) fun _ _ e => e)))
  exact wpAny_pure ⟨plainId_quiet plain_dict_update_loop _, codeAny_mono h₃ fun r s' hr => hr⟩
end
end
section
theorem keys_list : typeLookup (.type "list") (Str.ofString "keys") = pure none := am_miss_of_fast (by kernel_rfl)
theorem keys_zip : typeLookup (.type "zip") (Str.ofString "keys") = pure none := am_miss_of_fast (by kernel_rfl)
theorem entry_zip_getattribute : entryFor table "zip.__getattribute__" = some Builtin.«object.__getattribute__» :=
  entryFor_alias (id' := "object.__getattribute__") (by kernel_rfl) (by decide +kernel) (by decide +kernel) (by kernel_rfl)
theorem zip_getattr_none : typeLookup (.type "zip") "__getattr__" = pure none := by rw [typeLookup_type, builtinLookup_eq_fast]; kernel_rfl
theorem getAttrQ_miss_list {prog : Program} {w : World} {A : Around} {E : Value → Shared → Prop} {s : Shared} {a : Addr} {o : Obj} {xs : Array Value} {k : Nat} {name : Str} {Q : Option Value → Shared → Prop}
    (hx : s.heap.get? a = some o) (hc : o.cls = .type "list") (hdat : o.data = .seq xs k) (hd : o.dict = none) (hmiss : typeLookup (.type "list") name = pure none) (hname : (["__module__", "__name__", "__qualname__", "__doc__", "__annotations__"] : List Str).contains name = false) (hA : A.handled = none)
    (h : ∀ h' tk, (∀ b o, s.heap.get? b = some o → h'.get? b = some o) → Q none { s with heap := h', toks := tk }) (hsz : name.length + 100 ≤ sizeLine) :
    wpAny (model prog w) A (getAttr? (.ref a) name) Q E s := by
  obtain ⟨c, dct, dat, sl⟩ := o
  simp only at hc hdat hd
  subst hc hdat hd
  obtain ⟨hp, g, d, tk, os⟩ := s
  have hT : ∀ tk', (⟨hp, g, d, tk', os⟩ : Shared).TypeIs (.ref a) "list" := fun _ => ⟨_, hx, rfl⟩
  have f1 := sub_AttributeError
  have f3 := F.slot_list_getattribute.lookup
  have f4 := F.slot_list_getattribute.bind (.ref a)
  have f5 := am_list_getattr_none
  unfold getAttr? getAttrBy? getAttrBy
  repeat (any_goals (first | assumption | exact hT _ | ((with_reducible show wpAny _ _ (call (Value.builtin "list.__getattribute__") _ _) _ _ _); refine call_meets F.slot_list_getattribute (hT _) am_entry_list_getattribute (F.args_list_getattribute_2 _ _) (meets_getattribute_miss_list a xs k sl name _ hmiss hname hsz) ⟨hx, hA, fun h' tk' e hx' => ?_⟩) | wp_step))
  obtain ⟨t', u', he⟩ := hx'.there
  show wpAny _ _ (getattributeRaised _ _ _ _ _ _ _) _ _ _
  unfold getattributeRaised
  repeat (any_goals (first | assumption | wp_step))
  exact h _ _ hx'.keeps
theorem meets_getattribute_miss_zip (a : Addr) (fs : Array Value) (name : Str) (u : Tok) (hmiss : typeLookup (.type "zip") name = pure none) (hname : (["__module__", "__name__", "__qualname__", "__doc__", "__annotations__"] : List Str).contains name = false) (hsz : name.length + 100 ≤ sizeLine) :
    Meets (Builtin.«object.__getattribute__» ⟨[.ref a, .str name u], []⟩) (fun A R s => s.heap.get? a = some { cls := .type "zip", dict := none, data := .fields fs, slots := #[] } ∧ raisesAttr (.ref a) name A R s) :=
  Meets.of_wp fun prog w A R s hs => by
    obtain ⟨hp, g, d, tk, os⟩ := s
    obtain ⟨hx, hs⟩ := hs
    have hT : (⟨hp, g, d, tk, os⟩ : Shared).TypeIs (.ref a) "zip" := ⟨_, hx, rfl⟩
    unfold Builtin.«object.__getattribute__»
    repeat (any_goals (first | assumption | wp_step))
    simp only [hname, Bool.false_eq_true, if_false]
    repeat (any_goals (first | assumption | wp_step))
    exact wpAny_raiseAttrError hs.1 hs.2 (attrMsg_fits (by decide +kernel) hsz)
theorem getAttrQ_miss_zip {prog : Program} {w : World} {A : Around} {E : Value → Shared → Prop} {s : Shared} {a : Addr} {fs : Array Value} {name : Str} {Q : Option Value → Shared → Prop}
    (hx : s.heap.get? a = some { cls := .type "zip", dict := none, data := .fields fs, slots := #[] }) (hmiss : typeLookup (.type "zip") name = pure none) (hname : (["__module__", "__name__", "__qualname__", "__doc__", "__annotations__"] : List Str).contains name = false) (hA : A.handled = none)
    (h : ∀ h' tk, (∀ b o, s.heap.get? b = some o → h'.get? b = some o) → Q none { s with heap := h', toks := tk }) (hsz : name.length + 100 ≤ sizeLine) :
    wpAny (model prog w) A (getAttr? (.ref a) name) Q E s := by
  obtain ⟨hp, g, d, tk, os⟩ := s
  have hT : ∀ tk', (⟨hp, g, d, tk', os⟩ : Shared).TypeIs (.ref a) "zip" := fun _ => ⟨_, hx, rfl⟩
  have f1 := sub_AttributeError
  have f3 := F.slot_zip_getattribute.lookup
  have f4 := F.slot_zip_getattribute.bind (.ref a)
  have f5 := zip_getattr_none
  unfold getAttr? getAttrBy? getAttrBy
  repeat (any_goals (first | assumption | exact hT _ | ((with_reducible show wpAny _ _ (call (Value.builtin "zip.__getattribute__") _ _) _ _ _); refine call_meets F.slot_zip_getattribute (hT _) entry_zip_getattribute (F.args_zip_getattribute_2 _ _) (meets_getattribute_miss_zip a fs name _ hmiss hname hsz) ⟨hx, hA, fun h' tk' e hx' => ?_⟩) | wp_step))
  obtain ⟨t', u', he⟩ := hx'.there
  show wpAny _ _ (getattributeRaised _ _ _ _ _ _ _) _ _ _
  unfold getattributeRaised
  repeat (any_goals (first | assumption | wp_step))
  exact h _ _ hx'.keeps

/-! ## zip of two tuples -/
theorem meets_zip_newT (l1 l2 : Addr) (xs ys : Array Value) :
    Meets (Builtin.«zip.__new__» ⟨[.type "zip", .ref l1, .ref l2], []⟩) (fun _ R s => s.heap.IsTuple l1 xs ∧ s.heap.IsTuple l2 ys ∧
      ∀ h', IsZip h' (s.heap.objs.size + 4) (s.heap.objs.size + 2) (s.heap.objs.size + 3) .none → IsPair h' (s.heap.objs.size + 2) (.ref s.heap.objs.size) (.ref (s.heap.objs.size + 1)) →
      IsPair h' (s.heap.objs.size + 3) .none .none → h'.IsTupleIter s.heap.objs.size l1 0 → h'.IsTupleIter (s.heap.objs.size + 1) l2 0 →
      (∀ c o, s.heap.get? c = some o → h'.get? c = some o) → R (.ok (.ret (.ref (s.heap.objs.size + 4)))) { s with heap := h' }) :=
  .of_wp fun prog w A R s h => by
    obtain ⟨hp, g, d, tk, os⟩ := s; obtain ⟨hl1, hl2, h⟩ := h
    have hsub := sub_zip
    have hL1 : Heap.IsTuple (Shared.heap ⟨hp, g, d, tk, os⟩) l1 xs := hl1
    have hL2 : Heap.IsTuple (Shared.heap ⟨hp.push { cls := .type "tuple_iterator", data := .fields #[.ref l1, .int 0 0] }, g, d, tk, os⟩) l2 ys := IsTuple.at' hl2 fun o e => Heap.get?_push_of_some _ e
    wp_walk using wpAny_pyIter_tuple hL1, wpAny_pyIter_tuple hL2
    refine ⟨_, rfl, ?_⟩
    let H1 := hp.push { cls := .type "tuple_iterator", data := .fields #[.ref l1, .int 0 0] }
    let H2 := H1.push { cls := .type "tuple_iterator", data := .fields #[.ref l2, .int 0 0] }
    let H3 := H2.push { cls := .type "tuple", data := .seq #[.ref hp.objs.size, .ref H1.objs.size] }
    let H4 := H3.push { cls := .type "tuple", data := .seq #[.none, .none] }
    let H5 := H4.push { cls := .type "zip", data := .fields #[.none, .bool false, .bool false, .ref H2.objs.size, .ref H3.objs.size] }
    have z1 : H1.objs.size = hp.objs.size + 1 := Heap.size_push ..
    have z2 : H2.objs.size = hp.objs.size + 2 := (Heap.size_push ..).trans (by rw [z1])
    have z3 : H3.objs.size = hp.objs.size + 3 := (Heap.size_push ..).trans (by rw [z2])
    have z4 : H4.objs.size = hp.objs.size + 4 := (Heap.size_push ..).trans (by rw [z3])
    have g5 : H5.get? H4.objs.size = some _ := Heap.get?_push_size _ rfl
    have g4 : H5.get? H3.objs.size = some _ := Heap.get?_push_of_some _ (Heap.get?_push_size _ rfl)
    have g3 : H5.get? H2.objs.size = some _ := Heap.get?_push_of_some _ (Heap.get?_push_of_some _ (Heap.get?_push_size _ rfl))
    have g2 : H5.get? H1.objs.size = some _ := Heap.get?_push_of_some _ (Heap.get?_push_of_some _ (Heap.get?_push_of_some _ (Heap.get?_push_size _ rfl)))
    have g1 : H5.get? hp.objs.size = some _ := Heap.get?_push_of_some _ (Heap.get?_push_of_some _ (Heap.get?_push_of_some _ (Heap.get?_push_of_some _ (Heap.get?_push_size _ rfl))))
    rw [z2, z3, z4] at g5
    rw [z1, z2] at g3
    rw [z3] at g4
    rw [z1] at g2
    show R (.ok (.ret (.ref H4.objs.size))) ⟨H5, g, d, tk, os⟩
    rw [z4]
    exact h H5 g5 g3 g4 ⟨_, g1, rfl, rfl⟩ ⟨_, g2, rfl, rfl⟩ fun c o x =>
      Heap.get?_push_of_some _ (Heap.get?_push_of_some _ (Heap.get?_push_of_some _ (Heap.get?_push_of_some _ (Heap.get?_push_of_some _ x))))
section
variable {prog : Program} {w : World} {A : Around} {E : Value → Shared → Prop} {s : Shared}
theorem call_zip_T {l1 l2 : Addr} {xs ys : Array Value} {Q : Value → Shared → Prop} (hl1 : s.heap.IsTuple l1 xs) (hl2 : s.heap.IsTuple l2 ys)
    (h : ∀ h', IsZip h' (s.heap.objs.size + 4) (s.heap.objs.size + 2) (s.heap.objs.size + 3) .none → IsPair h' (s.heap.objs.size + 2) (.ref s.heap.objs.size) (.ref (s.heap.objs.size + 1)) →
      IsPair h' (s.heap.objs.size + 3) .none .none → h'.IsTupleIter s.heap.objs.size l1 0 → h'.IsTupleIter (s.heap.objs.size + 1) l2 0 →
      (∀ c o, s.heap.get? c = some o → h'.get? c = some o) → Q (.ref (s.heap.objs.size + 4)) { s with heap := h' }) :
    wpAny (model prog w) A (call (.type "zip") [.ref l1, .ref l2]) Q E s :=
  callType_new F.called_zip (by decide) (F.typeCall_zip_2 _ _) (F.newCall_zip_2 _ _) (fun obj => F.args_object_init_3 obj _ _) F.entry_zip_new
    (meets_zip_newT l1 l2 xs ys) ⟨hl1, hl2, fun h' g5 g3 g4 g1 g2 k => ⟨⟨_, g5, rfl⟩, h h' g5 g3 g4 g1 g2 k⟩⟩
end
end
section
theorem tupIter_ext {h h' : Heap} {a b l i} (x : h.IsTupleIter a l i) (e : Heap.ExtBut b h h') (hab : a ≠ b) : h'.IsTupleIter a l i := IsTupleIter.at' x fun o q => e a o hab q
theorem tup_ext {h h' : Heap} {a b items} (x : h.IsTuple a items) (e : Heap.ExtBut b h h') (hab : a ≠ b) : h'.IsTuple a items := IsTuple.at' x fun o q => e a o hab q
section
variable {prog : Program} {w : World} {A : Around} {E : Value → Shared → Prop} {s : Shared}
theorem wpAny_loadIfAlive {a : Addr} {o : Obj} {Q : Option Obj → Shared → Prop} (ho : s.heap.get? a = some o) (h : Q (some o) s) : wpAny (model prog w) A (loadIfAlive a) Q E s := fun Γ p _ => by
  unfold loadIfAlive
  rw [Sem.wp_loadIfAlive, ho]
  exact h
theorem zipT_next_item {z TI TO i1 i2 l1 l2 : Addr} {k1 k2 : Nat} {xs ys : Array Value} {x y a b : Value} {Q : Value → Shared → Prop} (D : ZipApart z TI TO i1 i2 l1 l2)
    (hz : IsZip s.heap z TI TO .none) (hTI : IsPair s.heap TI (.ref i1) (.ref i2)) (hTO : IsPair s.heap TO a b)
    (h1 : s.heap.IsTupleIter i1 l1 k1) (h2 : s.heap.IsTupleIter i2 l2 k2) (hl1 : s.heap.IsTuple l1 xs) (hl2 : s.heap.IsTuple l2 ys) (hx : xs[k1]? = some x) (hy : ys[k2]? = some y)
    (hQ : ∀ h', IsZip h' z TI TO (rawInt s.heap.objs.size) → h'.IsTupleIter i1 l1 (k1 + 1) → IsPair h' s.heap.objs.size x y →
      (∀ c o, c ≠ z → c ≠ TO → c ≠ i1 → c ≠ i2 → s.heap.get? c = some o → h'.get? c = some o) → Q (.ref s.heap.objs.size) { s with heap := h' }) :
    wpAny (model prog w) A (Builtin.«zip.__next__» ⟨[.ref z], []⟩) (fun fin s' => ∃ v, fin = .done (.ret v) ∧ Q v s') E s := by
  show wpAny _ _ (field (.ref z) 2 >>= _) _ _ _
  refine wpAny_bind (wpAny_field hz rfl (x := .bool false) rfl ?_)
  show wpAny _ _ (field (.ref z) 3 >>= _) _ _ _
  refine wpAny_bind (wpAny_field hz rfl (x := .ref TI) rfl ?_)
  refine wpAny_bind (wpAny_seqItems hTI rfl ?_)
  show wpAny _ _ (Builtin.SmallTypes.ownedTupleIsFree (.ref z) >>= _) _ _ _
  refine wpAny_bind ?_
  unfold Builtin.SmallTypes.ownedTupleIsFree
  refine wpAny_bind (wpAny_field hz rfl (x := .none) rfl (wpAny_pure ?_))
  simp only [if_true]
  refine wpAny_bind (wpAny_rule ?_)
  refine wpAny_bind (wpAny_field hz rfl (x := .ref TO) rfl ?_)
  refine wpAny_bind (wpAny_setField_rec hz (by simp) fun h₁ hz₁ hs₁ => ?_)
  replace hz₁ : IsZip h₁ z TI TO .ellipsis := hz₁
  refine wpAny_bind ?_
  simp only [List.zipIdx_cons, List.zipIdx_nil, List.forIn_cons, List.forIn_nil]
  refine wpAny_bind (wpAny_bind (wpAny_onRaise ?_))
  show wpAny _ _ (Builtin.SmallTypes.nextOf (.ref i1) >>= _) _ _ _
  refine wpAny_bind (nextOf_tuple_item (tupIter_ext h1 hs₁.extBut D.i1z) (tup_ext hl1 hs₁.extBut D.l1z) hx fun h₂ h1₂ hs₂ => wpAny_pure ?_)
  have hTO₂ : IsPair h₂ TO a b := hs₂.extBut _ _ D.TOi1 (hs₁.extBut _ _ D.TOz hTO)
  refine wpAny_bind (wpAny_seqItems hTO₂ rfl ?_)
  refine wpAny_bind (wpAny_updateSeq_pair hTO₂ fun h₃ hTO₃ hs₃ => ?_)
  replace hTO₃ : IsPair h₃ TO x b := hTO₃
  refine wpAny_bind (wpAny_letGo (wpAny_pure ?_))
  refine wpAny_bind (wpAny_bind (wpAny_onRaise ?_))
  show wpAny _ _ (Builtin.SmallTypes.nextOf (.ref i2) >>= _) _ _ _
  refine wpAny_bind (nextOf_tuple_item (tupIter_ext (tupIter_ext (tupIter_ext h2 hs₁.extBut D.i2z) hs₂.extBut D.i12.symm) hs₃.extBut D.TOi2.symm)
    (tup_ext (tup_ext (tup_ext hl2 hs₁.extBut D.l2z) hs₂.extBut D.l2i1) hs₃.extBut D.l2TO) hy fun h₄ h2₄ hs₄ => wpAny_pure ?_)
  have hTO₄ : IsPair h₄ TO x b := hs₄.extBut _ _ D.TOi2 hTO₃
  refine wpAny_bind (wpAny_seqItems hTO₄ rfl ?_)
  refine wpAny_bind (wpAny_updateSeq_pair hTO₄ fun h₅ hTO₅ hs₅ => ?_)
  replace hTO₅ : IsPair h₅ TO x y := hTO₅
  refine wpAny_bind (wpAny_letGo (wpAny_pure (wpAny_pure ?_)))
  refine wpAny_bind (wpAny_seqItems hTO₅ rfl ?_)
  refine wpAny_bind (wpAny_newTuple ?_)
  have hsz : h₅.objs.size = s.heap.objs.size := by rw [hs₅.1, hs₄.1, hs₃.1, hs₂.1, hs₁.1]
  have hz₅ : IsZip h₅ z TI TO .ellipsis := hs₅.extBut _ _ D.TOz.symm (hs₄.extBut _ _ D.i2z.symm (hs₃.extBut _ _ D.TOz.symm (hs₂.extBut _ _ D.i1z.symm hz₁)))
  have hk₅ : ∀ c o, c ≠ z → c ≠ TO → c ≠ i1 → c ≠ i2 → s.heap.get? c = some o → h₅.get? c = some o := fun c o c1 c2 c3 c4 e =>
    hs₅.extBut _ _ c2 (hs₄.extBut _ _ c4 (hs₃.extBut _ _ c2 (hs₂.extBut _ _ c3 (hs₁.extBut _ _ c1 e))))
  have h1₅ : h₅.IsTupleIter i1 l1 (k1 + 1) := tupIter_ext (tupIter_ext (tupIter_ext h1₂ hs₃.extBut D.TOi1.symm) hs₄.extBut D.i12) hs₅.extBut D.TOi1.symm
  have hzlt : z < h₅.objs.size := Heap.lt_size hz₅
  show wpAny _ _ (Builtin.SmallTypes.ownedTupleHandOut (.ref z) (.ref h₅.objs.size) >>= _) _ _ _
  refine wpAny_bind ?_
  unfold Builtin.SmallTypes.ownedTupleHandOut
  have hz₆ : IsZip (h₅.push { cls := .type "tuple", data := .seq #[x, y] }) z TI TO .ellipsis := Heap.get?_push_of_some _ hz₅
  refine wpAny_bind (wpAny_setField_rec hz₆ (by simp) fun h₇ hz₇ hs₇ => ?_)
  replace hz₇ : IsZip h₇ z TI TO (rawInt h₅.objs.size) := hz₇
  refine wpAny_setField_rec hz₇ (by simp) fun h₈ hz₈ hs₈ => ?_
  replace hz₈ : IsZip h₈ z TI TO (rawInt h₅.objs.size) := hz₈
  have up : ∀ c o, c ≠ z → h₅.get? c = some o → h₈.get? c = some o := fun c o c1 e => hs₈.extBut _ _ c1 (hs₇.extBut _ _ c1 (Heap.get?_push_of_some _ e))
  have hT₈ : IsPair h₈ h₅.objs.size x y := hs₈.extBut _ _ (Nat.ne_of_gt hzlt) (hs₇.extBut _ _ (Nat.ne_of_gt hzlt) (Heap.get?_push_size _ rfl))
  rw [hsz] at hz₈ hT₈
  refine wpAny_pure ⟨_, rfl, ?_⟩
  show Q (.ref h₅.objs.size) _
  rw [hsz]
  exact hQ h₈ hz₈ (IsTupleIter.at' h1₅ fun o e => up _ o D.i1z e) hT₈ fun c o c1 c2 c3 c4 e => up c o c1 (hk₅ c o c1 c2 c3 c4 e)
/-- the end of a zip whose last tuple is still held -/
theorem zipT_next_end {z TI TO i1 i2 l1 T : Addr} {k1 : Nat} {xs : Array Value} {oT : Obj} {Q : Fin → Shared → Prop} (hh : A.handled = none) (hi1z : i1 ≠ z) (hl1z : l1 ≠ z)
    (hz : IsZip s.heap z TI TO (rawInt T)) (hT : s.heap.get? T = some oT) (hTI : IsPair s.heap TI (.ref i1) (.ref i2))
    (h1 : s.heap.IsTupleIter i1 l1 k1) (hl1 : s.heap.IsTuple l1 xs) (hend : xs[k1]? = none)
    (hE : ∀ h' e, (∀ c o, c ≠ z → c ≠ i1 → s.heap.get? c = some o → h'.get? c = some o) → (∃ o, h'.get? e = some o ∧ o.cls = .type "StopIteration") → E (.ref e) { s with heap := h' }) :
    wpAny (model prog w) A (Builtin.«zip.__next__» ⟨[.ref z], []⟩) Q E s := by
  show wpAny _ _ (field (.ref z) 2 >>= _) _ _ _
  refine wpAny_bind (wpAny_field hz rfl (x := .bool false) rfl ?_)
  show wpAny _ _ (field (.ref z) 3 >>= _) _ _ _
  refine wpAny_bind (wpAny_field hz rfl (x := .ref TI) rfl ?_)
  refine wpAny_bind (wpAny_seqItems hTI rfl ?_)
  show wpAny _ _ (Builtin.SmallTypes.ownedTupleIsFree (.ref z) >>= _) _ _ _
  refine wpAny_bind ?_
  unfold Builtin.SmallTypes.ownedTupleIsFree
  refine wpAny_bind (wpAny_field hz rfl (x := rawInt T) rfl ?_)
  show wpAny _ _ (loadIfAlive ((T : Int).toNat) >>= _) _ _ _
  refine wpAny_bind (wpAny_loadIfAlive (a := (T : Int).toNat) (o := oT) (by simpa using hT) ?_)
  rw [if_neg (by simp)]
  refine wpAny_bind (wpAny_field hz rfl (x := .bool false) rfl ?_)
  rw [if_pos (by rfl)]
  refine wpAny_bind (wpAny_setField_rec hz (by simp) fun h₁ hz₁ hs₁ => wpAny_pure ?_)
  rw [if_neg (by simp)]
  refine wpAny_bind ?_
  rw [← Array.forIn_toList]
  simp only [List.forIn_cons]
  refine wpAny_bind (wpAny_bind (wpAny_holding ?_))
  show wpAny _ _ (Builtin.SmallTypes.nextOf (.ref i1) >>= _) _ _ _
  refine wpAny_bind (nextOf_tuple_end hh (tupIter_ext h1 hs₁.extBut hi1z) (tup_ext hl1 hs₁.extBut hl1z) hend fun h₂ e hs₂ he => ?_)
  exact hE h₂ e (fun c o c1 c3 q => hs₂ _ _ c3 (hs₁.extBut _ _ c1 q)) he
theorem pyNext_zipT_item {z TI TO i1 i2 l1 l2 : Addr} {k1 k2 : Nat} {xs ys : Array Value} {x y a b : Value} {Q : Option Value → Shared → Prop} (D : ZipApart z TI TO i1 i2 l1 l2)
    (hz : IsZip s.heap z TI TO .none) (hTI : IsPair s.heap TI (.ref i1) (.ref i2)) (hTO : IsPair s.heap TO a b)
    (h1 : s.heap.IsTupleIter i1 l1 k1) (h2 : s.heap.IsTupleIter i2 l2 k2) (hl1 : s.heap.IsTuple l1 xs) (hl2 : s.heap.IsTuple l2 ys) (hx : xs[k1]? = some x) (hy : ys[k2]? = some y)
    (hQ : ∀ h', IsZip h' z TI TO (rawInt s.heap.objs.size) → h'.IsTupleIter i1 l1 (k1 + 1) → IsPair h' s.heap.objs.size x y →
      (∀ c o, c ≠ z → c ≠ TO → c ≠ i1 → c ≠ i2 → s.heap.get? c = some o → h'.get? c = some o) → Q (some (.ref s.heap.objs.size)) { s with heap := h' }) :
    wpAny (model prog w) A (pyNext (.ref z)) Q E s := by
  have hT : s.TypeIs (.ref z) "zip" := ⟨_, hz, rfl⟩
  unfold pyNext
  exact wpAny_bind (wpAny_attempt (wpAny_callSpecial?_slot (name := Str.ofString "__next__") hT F.slot_zip_next
    (wpAny_call_entry F.slot_zip_next hT F.entry_zip_next
      (zipT_next_item D hz hTI hTO h1 h2 hl1 hl2 hx hy fun h' a1 a3 a5 a7 => wpAny_pure (hQ h' a1 a3 a5 a7)) (F.args_zip_next_1 _))))
theorem pyNext_zipT_end {z TI TO i1 i2 l1 T : Addr} {k1 : Nat} {xs : Array Value} {oT : Obj} {Q : Option Value → Shared → Prop} (hh : A.handled = none) (hi1z : i1 ≠ z) (hl1z : l1 ≠ z)
    (hz : IsZip s.heap z TI TO (rawInt T)) (hT : s.heap.get? T = some oT) (hTI : IsPair s.heap TI (.ref i1) (.ref i2))
    (h1 : s.heap.IsTupleIter i1 l1 k1) (hl1 : s.heap.IsTuple l1 xs) (hend : xs[k1]? = none)
    (hQ : ∀ h', (∀ c o, c ≠ z → c ≠ i1 → s.heap.get? c = some o → h'.get? c = some o) → Q none { s with heap := h' }) : wpAny (model prog w) A (pyNext (.ref z)) Q E s := by
  have hT' : s.TypeIs (.ref z) "zip" := ⟨_, hz, rfl⟩
  unfold pyNext
  refine wpAny_bind (wpAny_attempt (wpAny_callSpecial?_slot (name := Str.ofString "__next__") hT' F.slot_zip_next
    (wpAny_call_entry F.slot_zip_next hT' F.entry_zip_next (zipT_next_end hh hi1z hl1z hz hT hTI h1 hl1 hend fun h' e hk he => ?_) (F.args_zip_next_1 _))))
  obtain ⟨o, ho, hc⟩ := he
  refine wpAny_bind (wpAny_isInstance (T := "StopIteration") (b := true) ⟨o, ho, hc⟩ isSubtype_stop ?_)
  exact wpAny_pure (hQ _ hk)
end
end
section
section
variable {prog : Program} {w : World} {A : Around} {E : Value → Shared → Prop} {s : Shared}
theorem dict_of_zip1 {g : G} {z TI TO i1 i2 l1 l2 : Addr} {nm : Str} {t : Tok} {v a b : Value} {Q : Value → Shared → Prop} (hh : A.handled = none) (D : ZipApart z TI TO i1 i2 l1 l2)
    (hz : IsZip s.heap z TI TO .none) (hTI : IsPair s.heap TI (.ref i1) (.ref i2)) (hTO : IsPair s.heap TO a b) (h1 : s.heap.IsTupleIter i1 l1 0) (h2 : s.heap.IsTupleIter i2 l2 0)
    (hl1 : s.heap.IsTuple l1 #[.str nm t]) (hl2 : s.heap.IsTuple l2 #[v])
    (hQ : ∀ h' tk, (∀ c o, c ≠ z → c ≠ TO → c ≠ i1 → c ≠ i2 → s.heap.get? c = some o → h'.get? c = some o) → h'.get? s.heap.objs.size = some (dictOf [⟨PyData.keyHash w.params nm, .str nm t, v⟩] 1) → Q (.ref s.heap.objs.size) { s with heap := h', toks := tk }) :
    wpAny (model prog w) A (call (.type "dict") [.ref z]) Q E s := by
  have hd : (s.heap.push { cls := .type "dict", data := .dict #[] }).get? s.heap.objs.size = some (dictOf [] 0) := Heap.get?_push_size _ rfl
  refine call_dict_pairs (T := "zip") (by decide) (fun h' k => ⟨_, k _ _ hz, rfl⟩) fun A' hh' _ _ => ?_
  have k1 : ∀ c o, s.heap.get? c = some o → (s.heap.push { cls := .type "dict", data := .dict #[] }).get? c = some o := fun c o e => Heap.get?_push_of_some _ e
  refine getAttrQ_miss_zip (k1 _ _ hz) keys_zip (by decide +kernel) (hh'.trans hh) (fun h₁ tk₁ k2 => ⟨rfl, ?_⟩) (by rw [sizeLine_eq]; decide +kernel)
  have kk : ∀ c o, s.heap.get? c = some o → h₁.get? c = some o := fun c o e => k2 _ _ (k1 _ _ e)
  have hd₁ := k2 _ _ hd
  refine wpAny_pyIter_zip (s := { s with heap := h₁, toks := tk₁ }) (kk _ _ hz) ?_
  have ltz : z < s.heap.objs.size := Heap.lt_size hz
  have dz : s.heap.objs.size ≠ z := Nat.ne_of_gt ltz
  have dTO : s.heap.objs.size ≠ TO := Nat.ne_of_gt (Heap.lt_size hTO)
  have dTI : s.heap.objs.size ≠ TI := Nat.ne_of_gt (Heap.lt_size hTI)
  have di1 : s.heap.objs.size ≠ i1 := Nat.ne_of_gt (by obtain ⟨_, e, _⟩ := h1; exact Heap.lt_size e)
  have di2 : s.heap.objs.size ≠ i2 := Nat.ne_of_gt (by obtain ⟨_, e, _⟩ := h2; exact Heap.lt_size e)
  have dl1 : s.heap.objs.size ≠ l1 := Nat.ne_of_gt (by obtain ⟨_, e, _⟩ := hl1; exact Heap.lt_size e)
  refine dict_loop_step (s := { s with heap := h₁, toks := tk₁ }) ?_
  refine pyNext_zipT_item (s := { s with heap := h₁, toks := tk₁ }) D (kk _ _ hz) (kk _ _ hTI) (kk _ _ hTO) (IsTupleIter.at' h1 fun o e => kk _ _ e) (IsTupleIter.at' h2 fun o e => kk _ _ e) (IsTuple.at' hl1 fun o e => kk _ _ e) (IsTuple.at' hl2 fun o e => kk _ _ e) (x := .str nm t) (y := v) rfl rfl fun h₂ hz₂ h1₂ hT₂ k3 => ?_
  refine ⟨h₁.objs.size, .str nm t, v, _, 0, rfl, hT₂, rfl, rfl, ?_⟩
  have hd₂ := k3 _ _ dz dTO di1 di2 hd₁
  refine dictSet_push (P := w.params) (g := g) (s := { s with heap := h₂, toks := tk₁ }) rfl hd₂ .nil rfl (by simp) fun h₃ hd₃ k4 => ?_
  have dT : h₁.objs.size ≠ s.heap.objs.size := fun q => by
    have := Heap.lt_size hd₁
    rw [← q] at this; exact Nat.lt_irrefl _ this
  refine dict_loop_step (s := { s with heap := h₃, toks := tk₁ + 1 }) ?_
  refine pyNext_zipT_end (s := { s with heap := h₃, toks := tk₁ + 1 }) (T := h₁.objs.size) (TI := TI) (TO := TO) (i1 := i1) (i2 := i2) (l1 := l1) (k1 := 1) (xs := #[.str nm t]) hh D.i1z D.l1z (k4 _ _ dz.symm hz₂) (k4 _ _ dT hT₂)
    (k4 _ _ dTI.symm (k3 _ _ D.TIz D.TITO D.TIi1 D.TIi2 (kk _ _ hTI))) (IsTupleIter.at' h1₂ fun o e => k4 _ _ di1.symm e)
    (IsTuple.at' hl1 fun o e => k4 _ _ dl1.symm (k3 _ _ D.l1z D.l1TO D.l1i1 D.l1i2 (kk _ _ e))) rfl fun h₄ k5 => ?_
  refine ⟨rfl, hQ h₄ _ (fun c o c1 c2 c3 c4 e => k5 _ _ c1 c3 (k4 _ _ (fun q => ?_) (k3 _ _ c1 c2 c3 c4 (kk _ _ e)))) (k5 _ _ dz di1 hd₃)⟩
  rw [q, get_size] at e; cases e
end
section
variable {W : Wd} {n : Nat} {F : Fm} {ρ : Loc} {μ : Mem} {pos : Pos}
/-- a zip of two words and what is beside them, as one object -/
theorem F_zip_dict {nm : Str} {y : V} {K : V → Mem → Prop} (h : K (.dct [(nm, y)]) μ) (A : Around) (g : G) (s : Shared) (hA : Room n A) (hg : GSt W g μ s.heap) {u₁ u₂ : Value} (r₁ : Rep W.P g u₁ (.tup [.str nm])) (r₂ : Rep W.P g u₂ (.tup [y])) (Q : Value → Shared → Prop)
    (hQ : ∀ a g' μ' h' tk', VK W K g' a μ' → GSt W g' μ' h' → Nx [] g μ s.heap g' μ' h' → Q a { s with heap := h', toks := tk' }) :
    wpAny W.M A (call (.type "zip") [u₁, u₂]) (fun z s₁ => wpAny W.M A (call (.type "dict") [z]) Q (fun _ _ => False) s₁) (fun _ _ => False) s := by
  apply r₁.tup_elim; intro _ _ _ _ a1 a2 a3 ar
  apply r₂.tup_elim; intro _ _ _ _ b1 b2 b3 br
  rename_i l1 o1 vs1 k1 l2 o2 vs2 k2
  cases ar with
  | cons ar1 ar2 =>
    cases ar2
    cases ar1
    cases br with
    | cons br1 br2 =>
      cases br2
      rename_i t v
      have hl1 : s.heap.IsTuple l1 #[.str nm t] := ⟨o1, hg.le _ _ a1, a2, _, a3⟩
      have hl2 : s.heap.IsTuple l2 #[v] := ⟨o2, hg.le _ _ b1, b2, _, b3⟩
      refine call_zip_T hl1 hl2 fun h' hz hTI hTO h1 h2 kk => ?_
      have lt1 : l1 < s.heap.objs.size := Heap.lt_size (hg.le _ _ a1)
      have lt2 : l2 < s.heap.objs.size := Heap.lt_size (hg.le _ _ b1)
      have ne : ∀ {l : Addr} (k : Nat), l < s.heap.objs.size → l ≠ s.heap.objs.size + k := fun k h => Nat.ne_of_lt (Nat.lt_of_lt_of_le h (Nat.le_add_right _ _))
      have nn : ∀ {j k : Nat}, j ≠ k → s.heap.objs.size + j ≠ s.heap.objs.size + k := fun h q => h (Nat.add_left_cancel q)
      have D : ZipApart (s.heap.objs.size + 4) (s.heap.objs.size + 2) (s.heap.objs.size + 3) s.heap.objs.size (s.heap.objs.size + 1) l1 l2 :=
        ⟨nn (by decide), nn (by decide), nn (j := 0) (by decide), nn (by decide), nn (by decide), nn (k := 0) (by decide), nn (by decide), nn (k := 0) (by decide), nn (by decide), nn (j := 0) (by decide), ne 4 lt1, ne 3 lt1, ne 0 lt1, ne 1 lt1, ne 4 lt2, ne 3 lt2, ne 0 lt2, ne 1 lt2⟩
      obtain ⟨hg₁, nx₁⟩ := hg.keeps kk
      refine dict_of_zip1 (g := g) (s := { s with heap := h' }) hA.handled D hz hTI hTO h1 h2 (IsTuple.at' hl1 fun o e => kk _ _ e) (IsTuple.at' hl2 fun o e => kk _ _ e) fun h'' tk k' hd => ?_
      have old : ∀ c o, s.heap.get? c = some o → h''.get? c = some o := fun c o e => by
        have lt : c < s.heap.objs.size := Heap.lt_size e
        exact k' c o (ne 4 lt) (ne 3 lt) (ne 0 lt) (ne 1 lt) (kk _ _ e)
      have f0 : s.heap.get? h'.objs.size = none := nx₁.new (get_size _) (fun q => nomatch q)
      obtain ⟨hg₂, nx₂, e⟩ := hg.adopt old f0 hd
      refine hQ _ _ _ _ tk ⟨_, .dct e ?_ (.cons (br1.mono nx₂.gle) .nil), h⟩ hg₂ nx₂
      exact hg₁.low (get_size _)
theorem E_DictZip {f₁ f₂ e₁ e₂ : Expr} {p₂ : Pos} {K : V → Mem → Prop}
    (h : wpE W n F ρ μ f₁ fun y μ₁ => y = .raw (.type "dict") ∧ wpE W n F ρ μ₁ f₂ fun y₂ μ₂ => y₂ = .raw (.type "zip") ∧ wpEs W n F ρ μ₂ p₂ [e₁, e₂] fun xs μ₃ => ∃ nm y, xs = [.tup [.str nm], .tup [y]] ∧ K (.dct [(nm, y)]) μ₃)
    (hs : starEach [e₁, e₂] F.env = (false, eval e₁ F.env) :: starEach [e₂] F.env := by rfl) (hp : (backTo p₂ (starEach [e₂] F.env)).any (·.1) = false := by rfl)
    (he₂ : eval (.Call f₂ [e₁, e₂] [] p₂) F.env = (do callWith p₂ (← eval f₂ F.env) [] (backTo p₂ (starEach [e₁, e₂] F.env)) (backToKw p₂ (keywordEach [] F.env))) := by rfl)
    (hs' : starEach [.Call f₂ [e₁, e₂] [] p₂] F.env = (false, eval (.Call f₂ [e₁, e₂] [] p₂) F.env) :: starEach [] F.env := by rfl)
    (he : eval (.Call f₁ [.Call f₂ [e₁, e₂] [] p₂] [] pos) F.env = (do callWith pos (← eval f₁ F.env) [] (backTo pos (starEach [.Call f₂ [e₁, e₂] [] p₂] F.env)) (backToKw pos (keywordEach [] F.env))) := by rfl) :
    wpE W n F ρ μ (.Call f₁ [.Call f₂ [e₁, e₂] [] p₂] [] pos) K := by
  refine ⟨fun A g s hA hg hf Q hQ => ?_⟩
  refine PyProof.Rows.Call_ (h.go A g s hA hg hf _ fun v g₁ μ₁ h₁ tk₁ hR₁ hg₁ nx₁ => ?_) he
  obtain ⟨f, r, rfl, k⟩ := hR₁
  apply r.raw_elim
  have hf₁ := hf.next hg₁ nx₁
  refine callWith_of (P := fun h => ∃ k, (k = Keeper.frame ∨ k = Keeper.machine ∨ k = Keeper.boundFrame) ∧ Looks W.M h (keeperOf (.type "dict")) k) (by rw [hs']; rfl) (fun _ x => x) ?_
  rw [hs']
  refine Calls.evalArgs_plain (show wpAny _ _ (spliced (backTo pos ((false, eval (.Call f₂ [e₁, e₂] [] p₂) F.env) :: starEach [] F.env))) _ _ _ from ?_)
  refine Calls.spliced_cons ?_
  refine PyProof.Rows.Call_ (k.go A g₁ _ hA hg₁ hf₁ _ fun v₂ g₂ μ₂ h₂ tk₂ hR₂ hg₂ nx₂ => ?_) he₂
  obtain ⟨f', r₂, rfl, k₂⟩ := hR₂
  apply r₂.raw_elim
  have hf₂ := hf₁.next hg₂ nx₂
  refine callWith_of (P := fun h => ∃ k, (k = Keeper.frame ∨ k = Keeper.machine ∨ k = Keeper.boundFrame) ∧ Looks W.M h (keeperOf (.type "zip")) k) (by rw [hs]; show ((false || (backTo p₂ (starEach [e₂] F.env)).any (·.1)) || false) = false; rw [hp]; rfl) (fun _ x => x) ?_
  rw [hs]
  refine Calls.evalArgs_plain (show wpAny _ _ (spliced (backTo p₂ ((false, eval e₁ F.env) :: starEach [e₂] F.env))) _ _ _ from ?_)
  rw [← hs]
  refine k₂.go A g₂ _ hA hg₂ hf₂ _ fun vs g₃ μ₃ h₃ tk₃ hR₃ hg₃ nx₃ => ?_
  obtain ⟨ys, rs, _, nm, y, rfl, hK⟩ := hR₃
  apply rs.cons_elim; intro _ _ ra rb
  apply rb.cons_elim; intro _ _ rb rc
  apply rc.nil_elim
  refine ⟨⟨.machine, .inr (.inl rfl), Looks.of_pure rfl⟩, ?_⟩
  refine wpAny_mono (F_zip_dict (n := n) hK A g₃ _ hA hg₃ ra rb _ fun a g' μ' h' tk' hR hg' nx' => hQ a g' μ' h' tk' hR hg' (((nx₁.trans nx₂).trans nx₃).trans nx')) (fun z s₁ hz => ?_) fun _ _ e => e
  exact Calls.spliced_nil ⟨⟨.machine, .inr (.inl rfl), Looks.of_pure rfl⟩, hz⟩
end
end
section
section
variable {W : Wd} {n : Nat} {F : Fm} {ρ : Loc} {μ : Mem} {pos : Pos}

/-! ## a cell that will not turn any more -/
theorem S_fz {x : Str} {y : V} {ss : List Stmt} {K : Out → Mem → Prop} (hy : ρ.lookup x = some y) (hk : isCellKind (F.env.kindOf x) = true) (hp : x ∈ F.priv)
    (h : wpS W n ⟨F.env, F.priv.filter (fun z => z != x), x :: F.fz⟩ ρ μ ss fun o μ' => ∃ z, o = .ret z ∧ K (.ret z) μ') : wpS W n F ρ μ ss K := by
  refine ⟨fun A g s hA hg hf Q hQ => ?_⟩
  obtain ⟨c, o, v, e1, e2, e3, e4⟩ := hf.cel x y hy hk
  have hc : c ∈ F.own := List.mem_cons_of_mem _ (List.mem_filterMap.mpr ⟨x, hp, e1⟩)
  have oc := hf.own c hc
  have gl : GLe g (gPut g c o) := fun b o' e => by
    unfold gPut
    by_cases q : b = c
    · rw [q, oc.1] at e; cases e
    · rw [if_neg q]; exact e
  have hg' : GSt W (gPut g c o) μ s.heap := ⟨hg.base.trans gl, fun b o' e => by
      unfold gPut at e
      by_cases q : b = c
      · rw [if_pos q] at e; cases e; rw [q]; exact e2
      · rw [if_neg q] at e; exact hg.le _ _ e,
    fun q hq => let ⟨o', e1, e2⟩ := hg.mem q hq; ⟨o', e1, e2.mono gl⟩, fun a ha => by
      unfold gPut
      rw [if_neg fun q : a = c => oc.2 (q ▸ ha)]; exact hg.off a ha, hg.nd⟩
  have nx : Nx F.own g μ s.heap (gPut g c o) μ s.heap := ⟨gl, fun a o' e => by
      unfold gPut at e
      by_cases q : a = c
      · rw [q]; exact .inr (.inr (.inl hc))
      · rw [if_neg q] at e; exact .inl e, fun _ e => .inl e, fun _ _ _ _ e => e, fun _ o _ e => ⟨o, e⟩⟩
  have sub : ∀ a ∈ Fm.own ⟨F.env, F.priv.filter (fun z => z != x), x :: F.fz⟩, a ∈ F.own ∧ a ≠ c := fun a ha => by
    rcases List.mem_cons.mp ha with e | ha
    · have e' : a = F.env.locals := e
      exact ⟨e' ▸ List.mem_cons_self, fun q => (hf.cin x c e1).2.2 (by rw [← q, e'])⟩
    · obtain ⟨z, hz, e⟩ := List.mem_filterMap.mp ha
      have hz' := List.mem_filter.mp hz
      refine ⟨List.mem_cons_of_mem _ (List.mem_filterMap.mpr ⟨z, hz'.1, e⟩), fun q => ?_⟩
      have := hf.inj z x c (q ▸ e) e1
      rw [this] at hz'
      simp at hz'
  obtain ⟨m, hn, hm⟩ := hf.loc
  have hf' : FSt W (gPut g c o) ⟨F.env, F.priv.filter (fun z => z != x), x :: F.fz⟩ ρ μ s.heap := by
    refine ⟨hf.fn, hf.gl, hf.bt, ⟨m, hn, fun u w' h1 h2 => ?_⟩, fun u w' h1 h2 => ?_, hf.cin, fun a ha => ?_, fun u hu => ?_, hf.inj, fun u hu => ?_⟩
    · obtain ⟨v', a1, a2⟩ := hm u w' h1 h2
      exact ⟨v', a1, a2.mono gl⟩
    · obtain ⟨c', o', v', a1, a2, a3, a4⟩ := hf.cel u w' h1 h2
      exact ⟨c', o', v', a1, a2, a3, a4.mono gl⟩
    · obtain ⟨s1, s2⟩ := sub a ha
      refine ⟨?_, (hf.own a s1).2⟩
      unfold gPut
      rw [if_neg s2]; exact (hf.own a s1).1
    · rcases List.mem_cons.mp hu with rfl | hu
      · exact ⟨c, o, v, y, hy, e1, if_pos rfl, e3, e4.mono gl⟩
      · obtain ⟨c', o', v', y', a0, a1, a2, a3, a4⟩ := hf.fz u hu
        exact ⟨c', o', v', y', a0, a1, gl _ _ a2, a3, a4.mono gl⟩
    · rcases List.mem_cons.mp hu with rfl | hu
      · exact hk
      · exact hf.fzk u hu
  refine h.go A _ s hA hg' hf' _ fun f out g₂ μ₂ h₂ tk₂ hK hfl hg₂ nx₂ => ?_
  obtain ⟨z, rfl, hK⟩ := hK
  exact hQ f (.ret z) g₂ μ₂ h₂ tk₂ hK hfl hg₂ (nx.trans (nx₂.weakT fun a ha => (sub a ha).1))

/-! ## a def in a def -/
theorem mset_same {a : Addr} {m : M} : ∀ {μ : Mem}, (addrs μ).Nodup → μ.lookup a = some m → mset μ a m = μ
  | (b, x) :: r, nd, h => by
    have nd' := List.nodup_cons.mp nd
    by_cases e : b = a
    · subst e
      rw [List.lookup_cons, beq_self_eq_true] at h; cases h
      exact mset_head nd'.1
    · rw [List.lookup_cons, beq_eq_false_iff_ne.mpr (Ne.symm e)] at h
      rw [mset_ne e, mset_same nd'.2 h]
theorem GSt.turnNew {g h h'} (x : GSt W g μ h) {a c : Addr} {m : M} {o oc : Obj} (hm : a ∈ addrs μ) (hc : h.get? c = none) (hc' : h'.get? c = some oc) (ho : h'.get? a = some o) (hr : MRep W.P (gPut g c oc) o m) (k : ∀ b o, b ≠ a → h.get? b = some o → h'.get? b = some o) :
    GSt W (gPut g c oc) (mset μ a m) h' ∧ Nx [] g μ h (gPut g c oc) (mset μ a m) h' := by
  have fr := x.fresh hc
  have ca : c ≠ a := fun q => fr.2 (q ▸ hm)
  have gl : GLe g (gPut g c oc) := fun b o' e => by
    unfold gPut
    by_cases q : b = c
    · rw [q, fr.1] at e; cases e
    · rw [if_neg q]; exact e
  have na : ∀ b o, g b = some o → b ≠ a := fun b o e q => by rw [q, x.off a hm] at e; cases e
  refine ⟨⟨x.base.trans gl, fun b o' e => ?_, fun q hq => ?_, fun b hb => ?_, by rw [addrs_mset]; exact x.nd⟩, ⟨gl, fun b o' e => ?_, fun b hb => .inl (by rwa [addrs_mset] at hb), fun b o' h1 _ e => k _ _ (fun q => h1 (q ▸ hm)) e, fun b o' _ e => ?_⟩⟩
  · unfold gPut at e
    by_cases q : b = c
    · rw [if_pos q] at e; cases e; rw [q]; exact hc'
    · rw [if_neg q] at e; exact k _ _ (na _ _ e) (x.le _ _ e)
  · obtain ⟨r, hr', rfl⟩ := List.mem_map.mp hq
    by_cases q : r.1 = a
    · rw [if_pos q]; exact ⟨o, ho, hr⟩
    · rw [if_neg q]
      obtain ⟨o', h1, h2⟩ := x.mem r hr'
      exact ⟨o', k _ _ q h1, h2.mono gl⟩
  · rw [addrs_mset] at hb
    unfold gPut
    rw [if_neg fun q : b = c => fr.2 (q ▸ hb)]; exact x.off b hb
  · unfold gPut at e
    by_cases q : b = c
    · rw [q]; exact .inr (.inr (.inr hc))
    · rw [if_neg q] at e; exact .inl e
  · by_cases q : b = a
    · exact ⟨o, q ▸ ho⟩
    · exact ⟨o', k _ _ q e⟩
theorem X_Def {name q x : Str} {params : Arguments} {body : List Stmt} {scope : Scope} {c P : Addr} {y : V} {K : Out → Mem → Prop} (hd0 : params.defaults = []) (hk0 : params.kw_defaults = []) (ha : annTrees params none F.env = [])
    (hcode : F.env.code = .ref c) (C : codeHdIn (Mine.hd.heap_39 W.w.params) c P = true) (hm : μ.lookup P = some (.tab q pos.line pos.col)) (hq : qualnameIn F.env name name = q)
    (hcl : (freeNames scope).all (fun x => (F.env.cells.lookup x).isSome) = true) (hclos : ∀ cx, F.env.cells.lookup x = some cx → clos scope F.env = [(x, cx)]) (hz : x ∈ F.fz) (hy : ρ.lookup x = some y)
    (h : ∀ cl doc pm c' ctv, wpSt W n F ρ μ name (.clo (fnX name q params body scope cl .none .none doc pm none (.ref c') ctv) [(x, y)]) fun ρ' => K (.next ρ')) : wpX W n F ρ μ (.FunctionDef name params body [] none [] scope none name pos) K := by
  refine ⟨fun A g s hA hg hf Q hQ => ?_⟩
  refine nestDef_K hd0 hk0 ha ?_
  rw [hq]
  obtain ⟨o, ho, hr⟩ := hg.get hm
  obtain ⟨cx, ox, vx, y', z0, z1, z2, z3, z4⟩ := hf.fz x hz
  rw [hy] at z0; cases z0
  have hcl' : closureFor scope F.env = pure [(x, cx)] := by rw [closureFor_eq hcl, hclos cx z1]
  obtain ⟨bm, ob, b1, b2, b3, b4, b5, b6⟩ := W.bm
  have hPm := addr_of_mlookup hm
  have gP := hg.off P hPm
  have b3' := hg.le _ _ (hg.base _ _ b3)
  have hbP : bm ≠ P := fun e => by rw [e] at b3; have := hg.base _ _ b3; rw [gP] at this; cases this
  have hgs := hg.top.g
  have hgP : mainGlobals ≠ P := fun e => by
    obtain ⟨om, es, ep, e1, _⟩ := W.T.g
    have := hg.base _ _ e1
    rw [e, gP] at this; cases this
  have hbG : bm ≠ mainGlobals := fun e => by
    obtain ⟨om, es, ep, e1, hd, _⟩ := W.T.g
    rw [e, e1] at b3; cases b3; rw [hd] at b6; cases b6
  have HC := codeHd_of_K hg.K C
  cases hr with
  | tab hps =>
    rename_i ps
    rcases hps with rfl | ⟨c', rfl, hcg⟩
    · refine makeFunction_K (mg := W.mg) hcl' hf.gl hgs hcode HC ho trivial rfl hgP ⟨bm, ob, b1, b2, hbG, hbP, b3', b4, b5, b6⟩ fun c' ctv doc h' tk hx hge hlt hrec htb => ?_
      obtain ⟨c₂, oc, vs, t, e2, hoc, hd, hv⟩ := hrec
      cases e2
      have hc0 : s.heap.get? c' = none := by
        cases e : s.heap.get? c' with
        | none => rfl
        | some o => exact absurd (Heap.lt_size e) (Nat.not_lt.mpr hge)
      obtain ⟨hg₁, nx₁⟩ := hg.turnNew (h' := h') (a := P) (c := c') (m := .tab q pos.line pos.col) (oc := oc) hPm hc0 hoc htb (.tab (ps := [rawInt pos.line, rawInt pos.col, .ref c']) (.inr ⟨c', rfl, c', oc, vs, t, rfl, if_pos rfl, hd, hv⟩)) fun b o e1 e2 => hx b o e1 e2
      rw [mset_same hg.nd hm] at hg₁ nx₁
      obtain ⟨hg₂, nx₂, e₂⟩ := hg₁.alloc (o := fnMade name q params body scope [(x, cx)] doc ((W.mg "__name__").getD .none) c' ctv) rfl
      have nx := nx₁.trans nx₂
      have hf₂ := hf.next hg₂ nx
      refine (h [(x, cx)] doc _ c' ctv).go A _ ⟨_, _, _, tk, _⟩ _ hA hg₂ hf₂ (.clo e₂ rfl ⟨c', oc, vs, t, rfl, nx₂.gle _ _ (if_pos rfl), hd, hv⟩ (.cons (nx.gle _ _ z2) z3 (z4.mono nx.gle) .nil)) _ fun ρ' h₃ tk₃ hK hg₃ hf₃ nx₃ => hQ _ (.next ρ') _ _ h₃ tk₃ hK ⟨rfl, hf₃⟩ hg₃ (nx.weak0.trans nx₃)
    · refine makeFunction_hit (mg := W.mg) (cv := .ref c') hcl' hf.gl hgs hcode HC ho trivial (by simp [codeAmong, rawInt]) ⟨bm, ob, b1, b2, hbG, hbP, b3', b4, b5, b6⟩ fun ctv doc h' tk hk hsz => ?_
      obtain ⟨hg₁, nx₁⟩ := hg.keeps hk
      obtain ⟨hg₂, nx₂, e₂⟩ := hg₁.alloc (o := { cls := .type "function", data := .func (fnX name q params body scope [(x, cx)] .none .none doc ((W.mg "__name__").getD .none) none (.ref c') ctv) }) rfl
      have nx := nx₁.trans nx₂
      have hf₂ := hf.next hg₂ nx
      refine (h [(x, cx)] doc _ c' ctv).go A _ ⟨_, _, _, tk, _⟩ _ hA hg₂ hf₂ (.clo e₂ rfl (hcg.mono nx.gle) (.cons (nx.gle _ _ z2) z3 (z4.mono nx.gle) .nil)) _ fun ρ' h₃ tk₃ hK hg₃ hf₃ nx₃ => hQ _ (.next ρ') _ _ h₃ tk₃ hK ⟨rfl, hf₃⟩ hg₃ (nx.weak0.trans nx₃)

/-! ## the call of a def in a def -/
theorem F_clo {name q x p : Str} {params : Arguments} {body : List Stmt} {scope : Scope} {cl : List (Str × Addr)} {doc pm cdv ctv : Value} {y z : V} {K : V → Mem → Prop} (hk : scope.kind = .function) (hco : scope.isCoroutine = false) (hgen : scope.isGenerator = false)
    (hcell : ∀ u ∈ scope.names, u.2 ≠ .cell) (hp : scope.names.lookup p = some .local) (hx : scope.names.lookup x = some .free) (hb : ∀ (s : Shared) v, BindsTo s (fnX name q params body scope cl .none .none doc pm none cdv ctv) ⟨[v], []⟩ [(p, v)])
    (h : ∀ L a cells, wpS W n ⟨envX q scope L a cdv cells, [], []⟩ [(p, z), (x, y)] μ body (retK K)) : wpF W (n + 1) (.clo (fnX name q params body scope cl .none .none doc pm none cdv ctv) [(x, y)]) [z] μ K := by
  refine ⟨fun fv vs A g s hA hg hp' Q hQ => ?_⟩
  obtain ⟨hfv, hvs⟩ := hp'
  apply hvs.cons_elim; intro _ _ rz r2
  cases r2
  rename_i v
  apply hfv.clo_elim; intro _ _ e1 e2 e3 e4
  rename_i a o
  cases hcl : cl with
  | nil => subst hcl; cases e4
  | cons q1 q2 =>
    subst hcl
    cases e4 with
    | cons f1 f2 f3 f4 =>
      rename_i c oc vx
      cases f4
      obtain ⟨cc, oo, vs', t, w1, w2, w3, w4⟩ := e3
      refine wpAny_call (codeAny_call_def (fd := fnX name q params body scope [(x, c)] .none .none doc pm none cdv ctv) (body := body) (binds := [(p, v)]) hA.d (hg.le _ _ e1) e2 hg.top.nolimit ⟨cc, oo, vs', t, w1, hg.le _ _ w2, w3, w4⟩ rfl (hb _ v) hcell (fun u hu => by rw [List.mem_singleton.mp hu]; exact hp) (fun h₁ hns hk₁ => ?_) hco hgen hk)
      obtain ⟨hg₁, nx₁⟩ := hg.keeps hk₁
      have frL := hg.fresh (get_size s.heap)
      have px : p ≠ x := fun e => by rw [e, hx] at hp; cases hp
      have cL : c ≠ s.heap.objs.size := fun e => by rw [e, frL.1] at f1; cases f1
      have cm : c ∉ addrs μ := fun e => by rw [hg.off c e] at f1; cases f1
      have hcells : ∀ u d, List.lookup u [(x, c)] = some d → u = x ∧ d = c := fun u d e => by
        by_cases hu : u = x
        · subst hu; rw [List.lookup_cons, beq_self_eq_true] at e; cases e; exact ⟨rfl, rfl⟩
        · rw [List.lookup_cons, beq_eq_false_iff_ne.mpr hu] at e; cases e
      have hf₁ : FSt W g ⟨envX q scope s.heap.objs.size a cdv [(x, c)], [], []⟩ [(p, z), (x, y)] μ h₁ := by
        refine ⟨hk, rfl, rfl, ⟨_, hns, fun u w' h1 h2 => ?_⟩, fun u w' h1 h2 => ?_, fun u d e => ?_, fun b hb => ?_, fun u hu => (nomatch hu), fun u u' d h1 h2 => (hcells _ _ h1).1.trans (hcells _ _ h2).1.symm, fun u hu => (nomatch hu)⟩
        · by_cases hu : u = p
          · subst hu
            rw [List.lookup_cons, beq_self_eq_true] at h1; cases h1
            exact ⟨v, by show List.lookup u [(u, v)] = some v; rw [List.lookup_cons, beq_self_eq_true], rz⟩
          · rw [List.lookup_cons, beq_eq_false_iff_ne.mpr hu] at h1
            by_cases hu' : u = x
            · subst hu'
              have : scope.names.lookup u = some .local := h2
              rw [hx] at this; cases this
            · rw [List.lookup_cons, beq_eq_false_iff_ne.mpr hu'] at h1; cases h1
        · by_cases hu : u = p
          · subst hu
            have : isCellKind (scope.names.lookup u) = true := h2
            rw [hp] at this; exact absurd this (by decide)
          · rw [List.lookup_cons, beq_eq_false_iff_ne.mpr hu] at h1
            by_cases hu' : u = x
            · subst hu'
              rw [List.lookup_cons, beq_self_eq_true] at h1; cases h1
              exact ⟨c, oc, vx, by show List.lookup u [(u, c)] = some c; rw [List.lookup_cons, beq_self_eq_true], hg₁.le _ _ f1, f2, f3⟩
            · rw [List.lookup_cons, beq_eq_false_iff_ne.mpr hu'] at h1; cases h1
        · obtain ⟨rfl, rfl⟩ := hcells u d e
          exact ⟨⟨oc, _, hg₁.le _ _ f1, f2⟩, cm, cL⟩
        · rcases List.mem_cons.mp hb with e | hb
          · have e' : b = s.heap.objs.size := e
            rw [e']; exact frL
          · cases hb
      refine wpAny_mono ((h s.heap.objs.size a [(x, c)]).go _ g _ hA.deeper hg₁ hf₁ (fun fl s' => match (generalizing := true) fl with | .ret v => Q v s' | _ => Q .none s') fun fl o g₂ μ₂ h₂ tk₂ hK hfl hg₂ nx₂ => ?_) (fun fl s' hq => by cases fl <;> exact hq) fun _ _ e => e.elim
      have nx : Nx [] g μ s.heap g₂ μ₂ h₂ := by
        refine Nx.refl.drop (wr := [s.heap.objs.size]) ?_ fun b hb => by rw [List.mem_singleton.mp hb]; exact get_size _
        exact (nx₁.weak0 (T := [s.heap.objs.size])).trans (nx₂.weakT fun b hb => by
          rcases List.mem_cons.mp hb with e | hb
          · have e' : b = s.heap.objs.size := e
            rw [e']; simp
          · cases hb)
      cases o with
      | ret y => obtain ⟨v, rfl, r⟩ := hfl; exact hQ _ _ _ _ _ ⟨y, r, hK⟩ hg₂ nx
      | next ρ' => obtain ⟨rfl, _⟩ := hfl; exact hQ _ _ _ _ _ ⟨.none, .none, hK⟩ hg₂ nx
      | brk ρ' => exact hK.elim
      | cont ρ' => exact hK.elim
end
end
section
section
variable {prog : Program} {w : World} {A : Around} {E : Value → Shared → Prop} {s : Shared}
theorem setItem_listK {l : Addr} {o : Obj} {items : Array Value} {n : Nat} {k : Int} {t : Tok} {v : Value} {Q : Unit → Shared → Prop} (ho : s.heap.get? l = some o) (hc : o.cls = .type "list") (hd : o.data = .seq items n) (h0 : 0 ≤ k) (hfit : k < 2 ^ 63) (hn : k < items.size)
    (h : Q () { s with heap := s.heap.update l (Obj.mapSeq (·.setIfInBounds k.toNat v)) }) : wpAny (model prog w) A (setItem (.ref l) (.int k t) v) Q E s := by
  have hl : s.heap.IsList l items := ⟨o, ho, hc, _, hd⟩
  unfold setItem
  try with_reducible refine wpAny_holding ?_
  refine wpAny_bind (wpAny_sequenceKey hl.typeIs (by decide) ?_)
  refine wpAny_bind (wpAny_callSpecial?_slot (name := Str.ofString "__setitem__") hl.typeIs slot_list_setitem
    (wpAny_call_entry slot_list_setitem hl.typeIs entry_list_setitem ?_ (args_list_setitem _ _ _)))
  show wpAny _ _ (Builtin.List.listSubscript? (.int k t) >>= _) _ _ s
  refine wpAny_bind (wpAny_listSubscript_int (fitsIndex_of h0 hfit) ?_)
  clear hfit
  obtain ⟨j, rfl⟩ := Int.eq_ofNat_of_zero_le h0
  have hj : j < items.size := by lia
  have hx' : items[j]? = some items[j] := Array.getElem?_eq_getElem hj
  show wpAny _ _ ((seqItemAt l j >>= fun r => pure (r.map (j, ·))) >>= _) _ _ s
  refine wpAny_bind (wpAny_bind (wpAny_seqItemAt ho hd (wpAny_pure ?_)))
  rw [hx']
  show wpAny _ _ (setSeqItemAt l j v >>= _) _ _ s
  refine wpAny_bind (wpAny_setSeqItemAt ho hd ?_)
  first
    | exact wpAny_bind (wpAny_pure (wpAny_pure ⟨.none, rfl, wpAny_pure h⟩))
    | exact wpAny_pure ⟨.none, rfl, wpAny_pure h⟩
theorem setItem_listM {l : Addr} {o : Obj} {items : Array Value} {n j : Nat} {t : Tok} {v : Value} {Q : Unit → Shared → Prop} (ho : s.heap.get? l = some o) (hc : o.cls = .type "list") (hd : o.data = .seq items n) (hj : j < items.size) (hj' : j < 1000)
    (h : Q () { s with heap := s.heap.update l (Obj.mapSeq (·.setIfInBounds j v)) }) : wpAny (model prog w) A (setItem (.ref l) (.int j t) v) Q E s :=
  setItem_listK ho hc hd (Int.natCast_nonneg j) (Int.lt_trans (by lia) (show (1000 : Int) < 2 ^ 63 by decide)) (by lia) h
end
section
variable {W : Wd} {n : Nat} {F : Fm} {ρ : Loc} {μ : Mem} {pos : Pos}
/-! ## an item of a list stored -/
theorem X_AssignSubL {o i : Expr} {pos' : Pos} {value : Expr} {K : Out → Mem → Prop} (h : wpE W n F ρ μ value fun v μ₁ => wpE W n F ρ μ₁ o fun y μ₂ => wpE W n F ρ μ₂ i fun z μ₃ => ∃ a ys, ∃ j : Nat, y = .raw (.ref a) ∧ z = .int j ∧ μ₃.lookup a = some (.lst ys) ∧ j < ys.length ∧ j < 1000 ∧ K (.next ρ) (mset μ₃ a (.lst (ys.set j v))))
    (hs : swapsWith value (some (.Subscript o i pos')) pos.line F.env = pure false := by rfl) : wpX W n F ρ μ (.Assign [.Subscript o i pos'] value pos) K := by
  refine ⟨fun A g s hA hg hf Q hQ => ?_⟩
  refine wpAny_Assign_Subscript (h.go A g s hA hg hf _ fun v g₁ μ₁ h₁ tk₁ hR₁ hg₁ nx₁ => ?_) hs
  obtain ⟨y, r, k⟩ := hR₁
  have hf₁ := hf.next hg₁ nx₁
  refine k.go A g₁ _ hA hg₁ hf₁ _ fun u g₂ μ₂ h₂ tk₂ hR₂ hg₂ nx₂ => ?_
  obtain ⟨y2, r2, k2⟩ := hR₂
  have hf₂ := hf₁.next hg₂ nx₂
  refine k2.go A g₂ _ hA hg₂ hf₂ _ fun u3 g₃ μ₃ h₃ tk₃ hR₃ hg₃ nx₃ => ?_
  obtain ⟨y3, r3, a, ys, j, rfl, rfl, hm, hj, hj', hK⟩ := hR₃
  apply r3.int_elim; intro _; apply r2.raw_elim
  obtain ⟨o, ho, hr⟩ := hg₃.get hm
  apply hr.lst_elim; intro _ _ c1 c2 c3 c4 c5 c6
  rename_i t ws nn
  have hjw : j < ws.toArray.size := by rw [List.size_toArray, c6.length]; exact hj
  refine setItem_listM (s := ⟨h₃, _, _, tk₃, _⟩) ho c1 c2 hjw hj' ?_
  obtain ⟨n', hd'⟩ := Obj.data_mapSeq c2 (·.setIfInBounds j v)
  obtain ⟨hg₄, nx₄⟩ := hg₃.turn (h' := h₃.update a (Obj.mapSeq (·.setIfInBounds j v))) (m := .lst (ys.set j y)) (addr_of_mlookup hm) (Heap.get?_update_self _ ho (Obj.isFreed_of_seq hd'))
      (.lst ((Obj.cls_mapSeq ..).trans c1) (vs := ws.set j v) (by rw [hd']; congr 1; simp) (Obj.isFreed_of_seq hd') (by cases o; simp only at c2; subst c2; exact c4) (by cases o; simp only at c2; subst c2; exact c5) (c6.set (r.mono (nx₂.gle.trans nx₃.gle)) j))
        fun b o' e1 e2 => (Heap.get?_update_ne _ _ _ _ e1).trans e2
  exact hQ _ (.next ρ) _ _ _ _ hK ⟨rfl, (hf₂.next hg₃ nx₃).next hg₄ nx₄⟩ hg₄ (((nx₁.trans nx₂).trans nx₃).trans nx₄).weak0

/-! ## a list unpacked -/
theorem Tg_TupleL {elts : List Expr} {k} {ys : List V} {K : Loc → Mem → Prop} (hl : elts.length = ys.length) (hstar : (assignEach elts F.env).findIdx? (·.1) = none) (h : wpTgs W n F ρ μ elts ys K) : wpTg W n F ρ μ (.Tuple elts k pos) (.lst ys) K := by
  refine ⟨fun A g s v hA hg hf hr Q hQ => ?_⟩
  apply hr.lst_elim; intro _ _ _ _ e1 e2 e3 e4 r
  rename_i a o vs nn
  show wpAny _ _ (standAt pos >>= fun _ => unpack _ (assignEach elts F.env)) _ _ _
  have hn : (assignEach elts F.env).length = vs.toArray.size := by rw [assignEach_length, hl, List.size_toArray, r.length]
  refine wpAny_bind (wpAny_standAt ?_)
  unfold unpack
  rw [hn, hstar]
  refine wpAny_bind (wpAny_holding (kun_itemsOf hA.handled ⟨o, hg.le _ _ e1, e2, nn, e3⟩ fun h' hx => ?_))
  obtain ⟨hg', nx⟩ := hg.keeps (h' := h') fun b o' e => hx b o' (Nat.ne_of_lt (Heap.lt_size e)) e
  exact h.go A g _ vs hA hg' (hf.next hg' nx) r Q fun g₂ ρ₂ μ₂ h₂ tk₂ hK₂ hg₂ hf₂ nx₂ => hQ _ _ _ _ _ hK₂ hg₂ hf₂ (nx.weak0.trans nx₂)

/-! ## a joined list that will be changed -/
theorem op_add_lstM {xs ys : List V} {K : V → Mem → Prop} (hsz : xs.length + ys.length ≤ sizeLine) (h : ∀ a, a ∉ addrs μ → K (.raw (.ref a)) ((a, .lst (xs ++ ys)) :: μ)) : opT W n (binaryOp .Add) (.lst xs) (.lst ys) μ K := by
  refine ⟨fun v u A g s hA hg hp Q hQ => ?_⟩
  obtain ⟨r1, r2⟩ := hp
  apply r1.lst_elim; intro _ _ _ _ e1 e2 e3 e4 rs
  apply r2.lst_elim; intro _ _ _ _ f1 f2 f3 f4 rt
  rename_i a o vs k b o' ws k'
  obtain ⟨cls, dd, data, sl⟩ := o
  obtain ⟨cls2, dd2, data2, sl2⟩ := o'
  simp only at e2 e3 f2 f3
  subst e2 e3 f2 f3
  have e : vs.toArray ++ ws.toArray = (vs ++ ws).toArray := by simp
  refine concat_meets ⟨_, hg.le _ _ e1, rfl⟩ ⟨_, hg.le _ _ f1, rfl⟩ noFill_list_add seq_list_add PySem.F.slot_list_add PySem.F.entry_list_add (PySem.F.args_list_add_2 _ _) (list_addW a b vs.toArray ws.toArray k k' dd dd2 sl sl2 (by rw [List.size_toArray, List.size_toArray, rs.length, rt.length]; exact hsz)) ⟨hg.le _ _ e1, hg.le _ _ f1, ?_⟩
  rw [e]
  obtain ⟨hg₂, nx₂⟩ := hg.allocM (o := { cls := .type "list", data := .seq (vs ++ ws).toArray }) (m := .lst (xs ++ ys)) rfl (.lst rfl rfl rfl rfl rfl (rs.append rt))
  exact hQ _ _ _ _ s.toks ⟨_, .raw _, h _ (hg.fresh (get_size _)).2⟩ hg₂ nx₂
theorem X_Break {K : Out → Mem → Prop} (h : K (.brk ρ) μ) : wpX W n F ρ μ (.Break pos) K :=
  ⟨fun A g s hA hg hf Q hQ => wpAny_Break (hQ _ (.brk ρ) g μ s.heap s.toks h ⟨rfl, hf⟩ hg .refl)⟩
/-- less is known of a frame -/
theorem FSt.sub {g h} {ρ' : Loc} (x : FSt W g F ρ μ h) (hz : F.fz = []) (k : ∀ z y, ρ'.lookup z = some y → ρ.lookup z = some y) : FSt W g F ρ' μ h := by
  obtain ⟨m, hn, hm⟩ := x.loc
  exact ⟨x.fn, x.gl, x.bt, ⟨m, hn, fun u w e1 e2 => hm u w (k _ _ e1) e2⟩, fun u w e1 e2 => x.cel u w (k _ _ e1) e2, x.cin, x.own, (fun u hu => (by rw [hz] at hu; cases hu)), x.inj, x.fzk⟩
theorem S_sub {ρ' : Loc} {ss : List Stmt} {K : Out → Mem → Prop} (hz : F.fz = []) (k : ∀ z y, ρ'.lookup z = some y → ρ.lookup z = some y) (h : wpS W n F ρ' μ ss K) : wpS W n F ρ μ ss K :=
  ⟨fun A g s hA hg hf Q hQ => h.go A g s hA hg (hf.sub hz k) Q hQ⟩
/-- the whole of a call's default arguments -/
theorem binds_of {fd : FuncData} {xs : List V} {ρ₀ : Loc} (h : ∀ (g : G) (vs : List Value), Reps W.P g vs xs → ∀ s : Shared, (Mine.hd.heap_39 W.w.params).In s.heap → ∃ bs, BindsTo s fd ⟨vs, []⟩ bs ∧ RepB W.P g bs ρ₀) : Binds W fd xs ρ₀ := h
end
end
section
/-! ## a list comprehension of two fors -/
noncomputable abbrev C2 (elt t1 i1 t2 i2 : Expr) (sc : Scope) (pos : Pos) : Expr := .ListComp elt [⟨t1, i1, [], 0⟩, ⟨t2, i2, [], 0⟩] sc pos
theorem compTurn2_0 (elt t1 i1 t2 i2 : Expr) (sc : Scope) (pos : Pos) (it acc : Value) (env : Env) :
    compTurn (C2 elt t1 i1 t2 i2 sc pos) 0 it acc env = (do
      standAt i1.pos
      match ← pyNext it with
      | none => pure (.done .next)
      | some v =>
        letOwnedTupleGo t1 it v
        assign t1 env v
        let x ← eval i2 env
        standAt i2.pos
        let x ← foldedSetIterable i2 env x
        let y ← holding [x] (pyIter x)
        let _ ← runOwn (.compStart (C2 elt t1 i1 t2 i2 sc pos) 1 y acc env) env
        again (.compLoop (C2 elt t1 i1 t2 i2 sc pos) 0 it acc env)) := by rfl
theorem compTurn2_1 (elt t1 i1 t2 i2 : Expr) (sc : Scope) (pos : Pos) (it acc : Value) (env : Env) :
    compTurn (C2 elt t1 i1 t2 i2 sc pos) 1 it acc env = (do
      standAt i2.pos
      match ← pyNext it with
      | none => pure (.done .next)
      | some v =>
        letOwnedTupleGo t2 it v
        assign t2 env v
        (do let _ ← call (.builtin "list.append") [acc, ← eval elt env])
        again (.compLoop (C2 elt t1 i1 t2 i2 sc pos) 1 it acc env)) := by rfl
section
variable {prog : Program} {w : World} {A : Around} {E : Value → Shared → Prop} {R : Result → Shared → Prop} {s : Shared} {elt t1 i1 t2 i2 : Expr} {sc : Scope} {pos : Pos} {it acc : Value} {env : Env}
theorem compStart2 {d : Nat} {g : Comprehension} (hc : (clausesOf (C2 elt t1 i1 t2 i2 sc pos))[d]? = some g) (ha : g.is_async = 0)
    (h0 : codeAny (model prog w) A (.compLoop (C2 elt t1 i1 t2 i2 sc pos) d it acc env) R s)
    (h : wpAny (model prog w) A (pyIter it) (fun it' s' => codeAny (model prog w) A (.compLoop (C2 elt t1 i1 t2 i2 sc pos) d it' acc env) R s') (notedBy (model prog w) A env fun x s' => R (.error x) s') s) :
    codeAny (model prog w) A (.compStart (C2 elt t1 i1 t2 i2 sc pos) d it acc env) R s := by
  refine codeAny_of_tree ?_
  show wpAny _ _ ((compStart (C2 elt t1 i1 t2 i2 sc pos) d it acc env).onRaise (fun x => do noteFrame x env; standAt theWindowsPlace)) _ _ s
  refine wpAny_notedAt ?_
  unfold compStart
  rw [hc]
  have e : Option.elim (some g) false (fun x => x.is_async != 0) = false := by show (g.is_async != 0) = false; rw [ha]; rfl
  rw [if_neg (by rw [e]; exact Bool.false_ne_true)]
  refine wpAny_bind (wpAny_askSetting (wpAny_ite ?_))
  split
  · first
      | exact wpAny_bind (wpAny_pure (wpAny_pure (And.intro rfl h0)))
      | exact wpAny_pure (And.intro rfl h0)
  · first
      | exact wpAny_bind (wpAny_rule (wpAny_bind (wpAny_standAt (wpAny_bind (wpAny_mono h (fun it' s' h' => wpAny_pure (And.intro rfl h')) fun _ _ x => x)))))
      | (refine wpAny_bind (wpAny_rule ?_); show wpAny _ _ (standAt g.iter.pos >>= _) _ _ s; exact wpAny_bind (wpAny_standAt (wpAny_bind (wpAny_mono h (fun it' s' h' => wpAny_pure (And.intro rfl h')) fun _ _ x => x))))
theorem compLoop2_1 (I : Nat → Shared → Prop)
    (turn : ∀ n s, I n s → wpAny (model prog w) A (pyNext it) (fun r s₁ => match r with
      | none => R (.ok .next) s₁
      | some v => wpAny (model prog w) A (letOwnedTupleGo t2 it v) (fun _ s₁' => wpAny (model prog w) A (assign t2 env v) (fun _ s₂ =>
          wpAny (model prog w) A (eval elt env) (fun x s₄ =>
              wpAny (model prog w) A (call (.builtin "list.append") [acc, x]) (fun _ s₅ => ∃ m, m < n ∧ I m s₅) (notedBy (model prog w) A env fun e s' => R (.error e) s') s₄) (notedBy (model prog w) A env fun e s' => R (.error e) s') s₂) (notedBy (model prog w) A env fun e s' => R (.error e) s') s₁') (notedBy (model prog w) A env fun e s' => R (.error e) s') s₁) (notedBy (model prog w) A env fun e s' => R (.error e) s') s)
    (n : Nat) (h : I n s) : codeAny (model prog w) A (.compLoop (C2 elt t1 i1 t2 i2 sc pos) 1 it acc env) R s := by
  refine codeAny_loop rfl I (fun n s hI => ?_) n h
  show wpAny _ A ((compTurn (C2 elt t1 i1 t2 i2 sc pos) 1 it acc env).onRaise (fun x => do noteFrame x env; theTreesLotGoes x)) _ _ s
  refine wpAny_noted ?_
  rw [compTurn2_1]
  refine wpAny_bind (wpAny_standAt (wpAny_bind (wpAny_mono (turn n s hI) (fun r s₁ h₁ => ?_) fun _ _ h' => h')))
  cases r with
  | none => exact wpAny_pure h₁
  | some v =>
    refine wpAny_bind (wpAny_mono h₁ (fun _ s₁' h₁' => ?_) fun _ _ h' => h')
    refine wpAny_bind (wpAny_mono h₁' (fun _ s₂ h₂ => ?_) fun _ _ h' => h')
    exact wpAny_bind (wpAny_bind (wpAny_mono h₂ (fun x s₄ h₄ => wpAny_bind (wpAny_mono h₄ (fun _ s₅ h₅ => wpAny_pure (wpAny_pure ⟨rfl, h₅⟩)) fun _ _ h' => h')) fun _ _ h' => h'))
theorem compLoop2_0 (I : Nat → Shared → Prop) (hs : ∀ x, foldedSetIterable i2 env x = pure x)
    (turn : ∀ n s, I n s → wpAny (model prog w) A (pyNext it) (fun r s₁ => match r with
      | none => R (.ok .next) s₁
      | some v => wpAny (model prog w) A (letOwnedTupleGo t1 it v) (fun _ s₁' => wpAny (model prog w) A (assign t1 env v) (fun _ s₂ =>
          wpAny (model prog w) A (eval i2 env) (fun x s₃ => wpAny (model prog w) A (pyIter x) (fun y s₄ =>
              codeAny (model prog w) A (.compStart (C2 elt t1 i1 t2 i2 sc pos) 1 y acc env) (fun r s₅ => match r with | .ok _ => ∃ m, m < n ∧ I m s₅ | .error e => False) s₄) (notedBy (model prog w) A env fun e s' => R (.error e) s') s₃) (notedBy (model prog w) A env fun e s' => R (.error e) s') s₂) (notedBy (model prog w) A env fun e s' => R (.error e) s') s₁') (notedBy (model prog w) A env fun e s' => R (.error e) s') s₁) (notedBy (model prog w) A env fun e s' => R (.error e) s') s)
    (n : Nat) (h : I n s) : codeAny (model prog w) A (.compLoop (C2 elt t1 i1 t2 i2 sc pos) 0 it acc env) R s := by
  refine codeAny_loop rfl I (fun n s hI => ?_) n h
  show wpAny _ A ((compTurn (C2 elt t1 i1 t2 i2 sc pos) 0 it acc env).onRaise (fun x => do noteFrame x env; theTreesLotGoes x)) _ _ s
  refine wpAny_noted ?_
  rw [compTurn2_0]
  refine wpAny_bind (wpAny_standAt (wpAny_bind (wpAny_mono (turn n s hI) (fun r s₁ h₁ => ?_) fun _ _ h' => h')))
  cases r with
  | none => exact wpAny_pure h₁
  | some v =>
    refine wpAny_bind (wpAny_mono h₁ (fun _ s₁' h₁' => ?_) fun _ _ h' => h')
    refine wpAny_bind (wpAny_mono h₁' (fun _ s₂ h₂ => ?_) fun _ _ h' => h')
    refine wpAny_bind (wpAny_mono h₂ (fun x s₃ h₃ => wpAny_bind (wpAny_standAt (wpAny_bind (wpAny_of_eq (hs x) (wpAny_bind (wpAny_holding (wpAny_mono h₃ (fun y s₄ h₄ => ?_) fun _ _ h' => h'))))))) fun _ _ h' => h')
    refine wpAny_bind (wpAny_runOwn (codeAny_mono h₄ fun r s' hr => ?_))
    cases r with
    | ok f => exact wpAny_pure ⟨rfl, hr⟩
    | error e => exact hr.elim
end
section
variable {W : Wd} {n : Nat} {F : Fm} {ρ : Loc} {μ : Mem} {pos : Pos}
noncomputable def compI (W : Wd) (n : Nat) (F : Fm) (target elt : Expr) (K : List V → Loc → Mem → Prop) : List V → List V → Loc → Mem → Prop
  | [], acc, ρ, μ => K acc ρ μ
  | y :: ys, acc, ρ, μ => wpTg W n F ρ μ target y fun ρ' μ' => wpE W n F ρ' μ' elt fun z μ₃ => compI W n F target elt K ys (acc ++ [z]) ρ' μ₃
noncomputable def compO (W : Wd) (n : Nat) (F : Fm) (t1 t2 i2 elt : Expr) (K : List V → Mem → Prop) : List V → List V → Loc → Mem → Prop
  | [], acc, ρ, μ => K acc μ
  | y :: ys, acc, ρ, μ => wpTg W n F ρ μ t1 y fun ρ' μ' => iterE W n F ρ' μ' t2 i2 fun xs μ₂ => acc.length + xs.length ≤ sizeLine ∧ compI W n F t2 elt (fun acc' ρ'' μ'' => compO W n F t1 t2 i2 elt K ys acc' ρ'' μ'') xs acc ρ' μ₂

/-- a private list outlives a step of the frame -/
theorem keepPriv {T : List Addr} {D : Addr} {g₂ μ₂ h₂ g₄ μ₄ h₄} {ws : List Value} (nx : Nx T g₂ μ₂ h₂ g₄ μ₄ h₄) (no : D ∉ T) (hl : IsListP h₂ D ws.toArray) (e1 : g₂ D = none) (e2 : D ∉ addrs μ₂) : IsListP h₄ D ws.toArray ∧ g₄ D = none ∧ D ∉ addrs μ₄ := by
  obtain ⟨o, ho, r⟩ := hl
  refine ⟨⟨o, nx.step D o e2 no ho, r⟩, ?_, fun q => ?_⟩
  · cases q : g₄ D with
    | none => rfl
    | some o' =>
      rcases nx.gfr D o' q with r | r | r | r
      · rw [e1] at r; cases r
      · exact absurd r e2
      · exact absurd r no
      · rw [ho] at r; cases r
  · rcases nx.mfr D q with r | r | r
    · exact e2 r
    · exact no r
    · rw [ho] at r; cases r
/-- the turns of the inner for; base: the state ahead of its iterable -/
theorem comp_inner {elt t1 i1 t2 i2 : Expr} {sc : Scope} {A : Around} {g : G} {s : Shared} {g₁ : G} {μ₁ : Mem} {h₁ : Heap} {tk₁ : Nat} {I D : Addr} {fp wr : List Addr} {St : Nat → Heap → Prop} {xs : List V} {K : List V → Loc → Mem → Prop} {R : Result → Shared → Prop} {ws₀ : List Value} {acc₀ : List V}
    (hA : Room n A) (hpv : F.priv = []) (hf : FSt W g F ρ μ s.heap) (hg₁ : GSt W g₁ μ₁ h₁) (nx₁ : Nx [] g μ s.heap g₁ μ₁ h₁) (it : Itr W A g₁ t2 I fp wr xs St) (hst : St 0 h₁) (hfp : ∀ b ∈ fp, b ∈ wr ∨ ∃ o, g₁ b = some o)
    (hwr : ∀ b ∈ wr, s.heap.get? b = none ∧ g₁ b = none ∧ b ∉ addrs μ₁) (hl₀ : IsListP s.heap D ws₀.toArray) (hr₀ : Reps W.P g ws₀ acc₀) (hD1 : g D = none) (hD2 : D ∉ addrs μ) (hDF : D ≠ F.env.locals ∧ ∀ z c, F.env.cells.lookup z = some c → D ≠ c)
    (hlen : acc₀.length + xs.length ≤ sizeLine) (hK : compI W n F t2 elt K xs acc₀ ρ μ₁)
    (hR : ∀ g' ρ' μ' h' tk' ws' acc', K acc' ρ' μ' → GSt W g' μ' h' → FSt W g' F ρ' μ' h' → IsListP h' D (ws' : List Value).toArray → Reps W.P g' ws' acc' → g' D = none → D ∉ addrs μ' → Nx (D :: F.own) g μ s.heap g' μ' h' → acc'.length ≤ acc₀.length + xs.length → R (.ok .next) { s with heap := h', toks := tk' }) :
    codeAny W.M A (.compStart (C2 elt t1 i1 t2 i2 sc pos) 1 (.ref I) (.ref D) F.env) R { s with heap := h₁, toks := tk₁ } := by
  have hown : F.own = [F.env.locals] := by unfold Fm.own; rw [hpv]; rfl
  have hDo : D ∉ F.own := by rw [hown]; exact fun q => hDF.1 (List.mem_singleton.mp q)
  obtain ⟨hl₁, hD1₁, hD2₁⟩ := keepPriv nx₁ (fun q => nomatch q) hl₀ hD1 hD2
  obtain ⟨oD₀, hoD₀, _⟩ := id hl₀
  have wD : D ∉ wr := fun q => by rw [(hwr D q).1] at hoD₀; cases hoD₀
  have Dfp : D ∉ fp := fun q => by
    rcases hfp D q with r | ⟨o, r⟩
    · exact wD r
    · rw [hD1₁] at r; cases r
  obtain ⟨mm, hns, _⟩ := hf.loc
  have hT : ∀ a ∈ wr, a ≠ F.env.locals ∧ ∀ z c, F.env.cells.lookup z = some c → a ≠ c := fun a ha => by
    constructor
    · rintro rfl
      obtain ⟨o, _, _, e, _⟩ := hns
      rw [(hwr _ ha).1] at e; cases e
    · rintro z c e rfl
      obtain ⟨⟨o, u, e2, _⟩, _⟩ := hf.cin z _ e
      rw [(hwr _ ha).1] at e2; cases e2
  have hTo : ∀ a ∈ wr, a ∉ F.own := fun a ha q => by rw [hown] at q; exact (hT a ha).1 (List.mem_singleton.mp q)
  have ownT : ∀ a ∈ F.own, a ∈ D :: F.own := fun a ha => List.mem_cons_of_mem _ ha
  have hTD : ∀ a ∈ [D], a ≠ F.env.locals ∧ ∀ z c, F.env.cells.lookup z = some c → a ≠ c := fun a ha => by rw [List.mem_singleton.mp ha]; exact hDF
  have hf₁ := hf.next hg₁ nx₁
  have L₁ : LoopSt W F St wr g₁ (D :: F.own) g μ s 0 g₁ ρ μ₁ h₁ := ⟨hg₁, hf₁, hst, fun b hb => (hwr b hb).2, GLe.refl, nx₁.weak0⟩
  let J : Nat → Shared → Prop := fun k s' => ∃ i g₂ μ₂ ρ₂ h₂ tk₂ ws acc, s' = { s with heap := h₂, toks := tk₂ } ∧ k = xs.length - i ∧ i ≤ xs.length ∧ LoopSt W F St wr g₁ (D :: F.own) g μ s i g₂ ρ₂ μ₂ h₂ ∧
    IsListP h₂ D (ws : List Value).toArray ∧ Reps W.P g₂ ws acc ∧ acc.length ≤ acc₀.length + i ∧ g₂ D = none ∧ D ∉ addrs μ₂ ∧ compI W n F t2 elt K (xs.drop i) acc ρ₂ μ₂
  have loop : codeAny W.M A (.compLoop (C2 elt t1 i1 t2 i2 sc pos) 1 (.ref I) (.ref D) F.env) R { s with heap := h₁, toks := tk₁ } := by
    refine compLoop2_1 J ?_ xs.length ⟨0, g₁, μ₁, _, h₁, _, ws₀, acc₀, rfl, rfl, Nat.zero_le _, L₁, hl₁, hr₀.mono nx₁.gle, Nat.le_refl _, hD1₁, hD2₁, hK⟩
    rintro k s' ⟨i, g₂, μ₂, ρ₂, h₂, tk₂, ws, acc, rfl, rfl, hi, L₂, hl₂, hr₂, hal, hD1, hD2, hK₂⟩
    by_cases hlt : i < xs.length
    · have hy : xs[i]? = some xs[i] := by simp [hlt]
      have hd : xs.drop i = xs[i] :: xs.drop (i + 1) := by rw [List.drop_eq_getElem_cons hlt]
      rw [hd] at hK₂
      let Q' : Value → Shared → Prop := fun v s₁ => wpAny W.M A (assign t2 F.env v) (fun _ s₂ =>
          wpAny W.M A (eval elt F.env) (fun x s₄ => wpAny W.M A (call (.builtin "list.append") [.ref D, x]) (fun _ s₅ => ∃ m, m < xs.length - i ∧ J m s₅) (fun _ _ => False) s₄) (fun _ _ => False) s₂) (fun _ _ => False) s₁
      refine wpAny_mono (it.item i _ { s with heap := h₂, toks := tk₂ } Q' (fun _ _ => False) hy L₂.st (fun a o e => L₂.gst.le _ _ (L₂.le _ _ e)) fun v h₄ tk₄ hit hst₄ hk₄ => ?_) (fun r s₁ hr => ?_) fun _ _ e => e.elim
      · obtain ⟨g₄, L₄, r₄, gle₄, hgf₄⟩ := L₂.draw it hT (fun b hb => (hwr b hb).1) hit hst₄ hk₄
        obtain ⟨oD, hoD, hcD, ⟨kD, hdD⟩, hzD⟩ := hl₂
        have hl₄ : IsListP h₄ D ws.toArray := ⟨oD, hk₄ D oD wD hoD, hcD, ⟨kD, hdD⟩, hzD⟩
        have hD1' : g₄ D = none := by
          cases q : g₄ D with
          | none => rfl
          | some o' =>
            rcases hgf₄ D o' q with r | r
            · rw [hD1] at r; cases r
            · rw [hoD] at r; cases r
        refine hK₂.go A g₄ _ v hA L₄.gst L₄.fst r₄ _ fun g₅ ρ₅ μ₅ h₅ tk₅ hB hg₅ hf₅ nx₅ => ?_
        have L₅ := L₄.step it hfp hTo hg₅ hf₅ nx₅ ownT
        obtain ⟨hl₅, hD5, hD5'⟩ := keepPriv nx₅ hDo hl₄ hD1' hD2
        refine hB.go A g₅ _ hA hg₅ hf₅ _ fun z g₇ μ₇ h₇ tk₇ hR₇ hg₇ nx₇ => ?_
        obtain ⟨zz, rz, hC₇⟩ := hR₇
        have hf₇ := hf₅.next hg₇ nx₇
        have L₇ := L₅.step it hfp hTo hg₇ hf₇ nx₇.weak0 ownT
        obtain ⟨hl₇, hD7, hD7'⟩ := keepPriv nx₇ (fun q => nomatch q) hl₅ hD5 hD5'
        have gle₇ : GLe g₂ g₇ := (gle₄.trans nx₅.gle).trans nx₇.gle
        refine listP_append hl₇ (fun h₈ hl₈ hs₈ => ?_) (by rw [List.size_toArray, hr₂.length]; lia)
        obtain ⟨hg₈, nx₈⟩ := hg₇.mine (T := [D]) hD7 hD7' (by simp) fun b o e1 e2 => (hs₈.2 b e1).trans e2
        have hf₈ := hf₇.nextT hg₈ nx₈ hTD
        have L₈ : LoopSt W F St wr g₁ (D :: F.own) g μ s (i + 1) g₇ ρ₅ μ₇ h₈ :=
          ⟨hg₈, hf₈, it.frame _ _ _ L₇.st fun b hb o e => (hs₈.2 b fun q => Dfp (q ▸ hb)).trans e, L₇.off, L₇.le, L₇.nx.trans (nx₈.weakT fun a ha => by rw [List.mem_singleton.mp ha]; simp)⟩
        have e8 : ws.toArray.push z = (ws ++ [z]).toArray := by simp
        exact ⟨xs.length - (i + 1), by lia, i + 1, g₇, μ₇, ρ₅, h₈, tk₇, ws ++ [z], acc ++ [zz], rfl, rfl, hlt, L₈, e8 ▸ hl₈, (hr₂.mono gle₇).append (.one rz), by simp; lia, hD7, hD7', hC₇⟩
      · obtain ⟨v, rfl, hr⟩ := hr
        exact wpAny_mono hr (fun _ s₂ hq => wpAny_mono hq (fun _ s₃ hq' => wpAny_mono hq' (fun ok s₄ hok => wpAny_mono hok (fun _ _ z => z) fun _ _ e => e.elim) fun _ _ e => e.elim) fun _ _ e => e.elim) fun _ _ e => e.elim
    · have hin : i = xs.length := by lia
      subst hin
      rw [List.drop_length] at hK₂
      refine it.done _ _ _ L₂.st fun h₃ tk₃ hk₃ => ?_
      have hg₄ : GSt W g₂ μ₂ h₃ := ⟨L₂.gst.base, fun a o e => hk₃ a o (fun q => by rw [(L₂.off a q).1] at e; cases e) (L₂.gst.le _ _ e), fun q hq => by
        obtain ⟨o, e1, e2⟩ := L₂.gst.mem q hq
        exact ⟨o, hk₃ _ _ (fun r => (L₂.off _ r).2 (List.mem_map_of_mem hq)) e1, e2⟩, L₂.gst.off, L₂.gst.nd⟩
      have nx₄ : Nx wr g₂ μ₂ h₂ g₂ μ₂ h₃ := ⟨GLe.refl, fun _ _ e => .inl e, fun _ e => .inl e, fun a o _ h2 e => hk₃ a o h2 e, fun a o h2 e => ⟨o, hk₃ a o h2 e⟩⟩
      have hf₄ := L₂.fst.nextT hg₄ nx₄ hT
      obtain ⟨hl₄, hD4, hD4'⟩ := keepPriv nx₄ wD hl₂ hD1 hD2
      exact hR g₂ ρ₂ μ₂ h₃ tk₃ ws acc hK₂ hg₄ hf₄ hl₄ hr₂ hD4 hD4' (L₂.nx.drop (wr := wr) (nx₄.weakT fun a ha => List.mem_append_right _ ha) fun b hb => (hwr b hb).1) hal
  exact compStart2 rfl rfl loop (it.self 0 _ _ _ hst loop)
theorem LoopSt.stepT {A : Around} {target : Expr} {I : Addr} {fp wr : List Addr} {xs : List V} {St : Nat → Heap → Prop} {g₁ : G} {T T' : List Addr} {g₀ : G} {μ₀ : Mem} {s : Shared} {i : Nat} {g ρ μ h ρ' g' μ' h'}
    (it : Itr W A g₁ target I fp wr xs St) (hfp : ∀ b ∈ fp, b ∈ wr ∨ ∃ o, g₁ b = some o) (hTo : ∀ a ∈ wr, a ∉ T') (hfT : ∀ a ∈ fp, a ∉ T')
    (x : LoopSt W F St wr g₁ T g₀ μ₀ s i g ρ μ h) (hg : GSt W g' μ' h') (hf : FSt W g' F ρ' μ' h') (nx : Nx T' g μ h g' μ' h') (hT : ∀ a ∈ T', a ∈ T) : LoopSt W F St wr g₁ T g₀ μ₀ s i g' ρ' μ' h' := by
  have lv := it.live _ _ x.st
  have hoff : ∀ b ∈ wr, g' b = none ∧ b ∉ addrs μ' := fun b hb => by
    obtain ⟨o', e⟩ := lv b hb
    constructor
    · cases q : g' b with
      | none => rfl
      | some o =>
        rcases nx.gfr b o q with r | r | r | r
        · rw [(x.off b hb).1] at r; cases r
        · exact absurd r (x.off b hb).2
        · exact absurd r (hTo b hb)
        · rw [e] at r; cases r
    · intro q
      rcases nx.mfr b q with r | r | r
      · exact (x.off b hb).2 r
      · exact hTo b hb r
      · rw [e] at r; cases r
  refine ⟨hg, hf, it.frame _ _ _ x.st fun b hb o e => ?_, hoff, x.le.trans nx.gle, x.nx.trans (nx.weakT hT)⟩
  rcases hfp b hb with q | ⟨o', q⟩
  · exact nx.step b o (x.off b q).2 (hTo b q) e
  · have q' := x.le _ _ q
    exact nx.step b o (fun r => by rw [x.gst.off b r] at q'; cases q') (hfT b hb) e
theorem comp_core2 {sc : Scope} {t1 i1 t2 i2 elt : Expr} {A : Around} {g : G} {s s₂ : Shared} {g₁ : G} {μ₁ : Mem} {h₁ : Heap} {tk₁ : Nat} {I : Addr} {fp wr : List Addr} {St : Nat → Heap → Prop} {xs : List V} {K : List V → Mem → Prop} {RR : Value → Addr → Result → Shared → Prop} {E : Value → Shared → Prop}
    (ok : CompOk sc F) (hs : ∀ C x, foldedSetIterable i2 (compF sc F C).env x = pure x) (hA : Room n A) (hf : FSt W g F ρ μ s.heap) (hs₂ : s₂ = { s with heap := h₁, toks := tk₁ }) (hg₁ : GSt W g₁ μ₁ h₁) (nx₁ : Nx [] g μ s.heap g₁ μ₁ h₁) (it : Itr W A g₁ t1 I fp wr xs St) (hst : St 0 h₁) (hfp : ∀ b ∈ fp, b ∈ wr ∨ ∃ o, g₁ b = some o)
    (hwr : ∀ b ∈ wr, s.heap.get? b = none ∧ g₁ b = none ∧ b ∉ addrs μ₁) (hK : ∀ C, compO W n (compF sc F C) t1 t2 i2 elt K xs [] (subLoc ρ (freeNames sc)) μ₁)
    (hRR : ∀ D C g' μ' h' tk' ys m', K ys μ' → GSt W g' μ' h' → Rep W.P g' (.ref D) (.lst ys) → h'.Ns C m' → g' C = none → C ∉ addrs μ' → s.heap.get? C = none → Nx [] g μ s.heap g' μ' h' → RR (.ref D) C (.ok .next) { s with heap := h', toks := tk' }) :
    wpAny W.M A (newList []) (fun acc s₃ => wpAny W.M A (newFunctionEnv sc F.env.globals (clos sc F.env) [] F.env.qual none .none (some F.env)) (fun cenv s₄ =>
      codeAny W.M A (.compStart (C2 elt t1 i1 t2 i2 sc pos) 0 (.ref I) acc { cenv with scope := relabel sc F.env }) (RR acc cenv.locals) s₄) E s₃) E s₂ := by
  subst hs₂
  have hf₁ := hf.next hg₁ nx₁
  have hcell : ∀ x ∈ sc.names, x.2 ≠ .cell := fun x hx => by have := List.all_eq_true.mp ok.nocell x hx; simpa using this
  refine wpAny_newObj_type (wpAny_newFunctionEnv hcell (by intro y hy; simp at hy) (fun h₃ hns₃ hsb₃ => ?_) ok.kind)
  dsimp only at hns₃ hsb₃ ⊢
  generalize hH2 : h₁.push { cls := .type "list", dict := none, data := .seq ([] : List Value).toArray } = H2 at hns₃ hsb₃ ⊢
  have hC : H2.objs.size = h₁.objs.size + 1 := by rw [← hH2, Heap.size_push]
  generalize hDe : h₁.objs.size = D at *
  generalize hCe : H2.objs.size = C at *
  have hDC : D ≠ C := neN (by lia)
  have old : ∀ b o, h₁.get? b = some o → h₃.get? b = some o := fun b o e => by
    have hb : b < D := hDe ▸ Heap.lt_size e
    exact hsb₃.extBut b o (Nat.ne_of_lt (Nat.lt_trans hb (hC ▸ Nat.lt_succ_self D))) (Heap.get?_push_of_some _ (hH2 ▸ Heap.get?_push_of_some _ e))
  have nD : h₁.get? D = none := by rw [← hDe]; exact get_size _
  have nC : h₁.get? C = none := by
    cases e : h₁.get? C with
    | none => rfl
    | some o => exact absurd (Heap.lt_size e) (by rw [hDe, hC]; exact Nat.not_lt.mpr (Nat.le_succ D))
  have frD := hg₁.fresh nD
  have frC := hg₁.fresh nC
  have sC : s.heap.get? C = none := nx₁.new nC (fun q => nomatch q)
  have sD : s.heap.get? D = none := nx₁.new nD (fun q => nomatch q)
  have hacc : IsListP h₃ D #[] := ⟨_, hsb₃.extBut _ _ hDC (Heap.get?_push_of_some _ (by rw [← hH2, ← hDe]; exact Heap.get?_push_size _ rfl)), rfl, ⟨0, rfl⟩, rfl⟩
  obtain ⟨hg₃, nx₃⟩ := hg₁.keeps (h' := h₃) old
  have hns₃' : h₃.Ns C fun _ => none := hns₃
  have hfC := ok.enter hg₁ hf₁ hg₃ old nC hns₃' frC
  have wC : ∀ a ∈ wr, a ≠ C ∧ a ≠ D := fun a ha => by
    obtain ⟨o, e⟩ := it.live _ _ hst a ha
    refine ⟨fun q => ?_, fun q => ?_⟩
    · rw [q, nC] at e; cases e
    · rw [q, nD] at e; cases e
  have cellOld : ∀ z c, (compF sc F C).env.cells.lookup z = some c → ∃ o, s.heap.get? c = some o := fun z c e => by
    obtain ⟨⟨o, u, e2, _⟩, _⟩ := hf.cin z c (closL_lookup sc.names [] (fun _ _ e => by cases e) e)
    exact ⟨o, e2⟩
  have hT : ∀ a ∈ wr, a ≠ (compF sc F C).env.locals ∧ ∀ z c, (compF sc F C).env.cells.lookup z = some c → a ≠ c := fun a ha => ⟨(wC a ha).1, fun z c e => by
    rintro rfl
    obtain ⟨o, e2⟩ := cellOld z _ e
    rw [(hwr _ ha).1] at e2; cases e2⟩
  have hown : (compF sc F C).own = [C] := rfl
  have hTo : ∀ a ∈ wr, a ∉ (compF sc F C).own := fun a ha q => by rw [hown] at q; exact (wC a ha).1 (List.mem_singleton.mp q)
  have hDF : D ≠ (compF sc F C).env.locals ∧ ∀ z c, (compF sc F C).env.cells.lookup z = some c → D ≠ c := ⟨hDC, fun z c e => by
    rintro rfl
    obtain ⟨o, e2⟩ := cellOld z _ e
    rw [sD] at e2; cases e2⟩
  have Dfp : D ∉ fp := fun q => by
    rcases hfp D q with r | ⟨o, r⟩
    · exact (wC D r).2 rfl
    · rw [frD.1] at r; cases r
  have Cfp : C ∉ fp := fun q => by
    rcases hfp C q with r | ⟨o, r⟩
    · exact (wC C r).1 rfl
    · rw [frC.1] at r; cases r
  have hDo : D ∉ (compF sc F C).own := by rw [hown]; exact fun q => hDC (List.mem_singleton.mp q)
  have hst₃ : St 0 h₃ := it.frame _ _ _ hst fun b _ o e => old b o e
  have ownT : ∀ a ∈ (compF sc F C).own, a ∈ [C, D] := fun a ha => by rw [hown] at ha; rw [List.mem_singleton.mp ha]; simp
  have L₃ : LoopSt W (compF sc F C) St wr g₁ [C, D] g μ s 0 g₁ (subLoc ρ (freeNames sc)) μ₁ h₃ :=
    ⟨hg₃, hfC, hst₃, fun b hb => (hwr b hb).2, GLe.refl, (nx₁.trans nx₃).weak0⟩
  let J : Nat → Shared → Prop := fun k s' => ∃ i g₂ μ₂ ρ₂ h₂ tk₂ ws acc, s' = { s with heap := h₂, toks := tk₂ } ∧ k = xs.length - i ∧ i ≤ xs.length ∧ LoopSt W (compF sc F C) St wr g₁ [C, D] g μ s i g₂ ρ₂ μ₂ h₂ ∧
    IsListP h₂ D (ws : List Value).toArray ∧ Reps W.P g₂ ws acc ∧ g₂ D = none ∧ D ∉ addrs μ₂ ∧ compO W n (compF sc F C) t1 t2 i2 elt K (xs.drop i) acc ρ₂ μ₂
  have loop : codeAny W.M A (.compLoop (C2 elt t1 i1 t2 i2 sc pos) 0 (.ref I) (.ref D) (compF sc F C).env) (RR (.ref D) C) { s with heap := h₃, toks := tk₁ + ([] : List (Str × Value)).length } := by
    refine compLoop2_0 J (hs C) ?_ xs.length ⟨0, g₁, μ₁, _, h₃, _, [], [], rfl, rfl, Nat.zero_le _, L₃, hacc, .nil, frD.1, frD.2, hK C⟩
    rintro k s' ⟨i, g₂, μ₂, ρ₂, h₂, tk₂, ws, acc, rfl, rfl, hi, L₂, hl₂, hr₂, hD1, hD2, hK₂⟩
    by_cases hlt : i < xs.length
    · have hy : xs[i]? = some xs[i] := by simp [hlt]
      have hd : xs.drop i = xs[i] :: xs.drop (i + 1) := by rw [List.drop_eq_getElem_cons hlt]
      rw [hd] at hK₂
      let Q' : Value → Shared → Prop := fun v s₁ => wpAny W.M A (assign t1 (compF sc F C).env v) (fun _ s₂ =>
          wpAny W.M A (eval i2 (compF sc F C).env) (fun x s₃ => wpAny W.M A (pyIter x) (fun y s₄ =>
            codeAny W.M A (.compStart (C2 elt t1 i1 t2 i2 sc pos) 1 y (.ref D) (compF sc F C).env) (fun r s₅ => match r with | .ok _ => ∃ m, m < xs.length - i ∧ J m s₅ | .error e => False) s₄) (fun _ _ => False) s₃) (fun _ _ => False) s₂) (fun _ _ => False) s₁
      refine wpAny_mono (it.item i _ { s with heap := h₂, toks := tk₂ } Q' (fun _ _ => False) hy L₂.st (fun a o e => L₂.gst.le _ _ (L₂.le _ _ e)) fun v h₄ tk₄ hit hst₄ hk₄ => ?_) (fun r s₁ hr => ?_) fun _ _ e => e.elim
      · obtain ⟨g₄, L₄, r₄, gle₄, hgf₄⟩ := L₂.draw it hT (fun b hb => (hwr b hb).1) hit hst₄ hk₄
        obtain ⟨oD, hoD, hcD, ⟨kD, hdD⟩, hzD⟩ := hl₂
        have hl₄ : IsListP h₄ D ws.toArray := ⟨oD, hk₄ D oD (fun q => (wC D q).2 rfl) hoD, hcD, ⟨kD, hdD⟩, hzD⟩
        have hD1' : g₄ D = none := by
          cases q : g₄ D with
          | none => rfl
          | some o' =>
            rcases hgf₄ D o' q with r | r
            · rw [hD1] at r; cases r
            · rw [hoD] at r; cases r
        refine hK₂.go A g₄ _ v hA L₄.gst L₄.fst r₄ _ fun g₅ ρ₅ μ₅ h₅ tk₅ hB hg₅ hf₅ nx₅ => ?_
        have L₅ := L₄.step it hfp hTo hg₅ hf₅ nx₅ ownT
        obtain ⟨hl₅, hD5, hD5'⟩ := keepPriv nx₅ hDo hl₄ hD1' hD2
        have gle₅ : GLe g₂ g₅ := gle₄.trans nx₅.gle
        refine hB.go A g₅ { s with heap := h₅, toks := tk₅ } hA hg₅ hf₅ _ fun g₆ μ₆ I₆ fp₆ wr₆ St₆ h₆ tk₆ xs₆ hK₆ hg₆ nx₆ it₆ hst₆ hfp₆ hwr₆ => ?_
        refine comp_inner (s := { s with heap := h₅, toks := tk₅ }) hA rfl hf₅ hg₆ nx₆ it₆ hst₆ hfp₆ hwr₆ hl₅ (hr₂.mono gle₅) hD5 hD5' hDF hK₆.1 hK₆.2 fun g₇ ρ₇ μ₇ h₇ tk₇ ws₇ acc₇ hK₇ hg₇ hf₇ hl₇ hr₇ hD7 hD7' nx₇ hlen₇ => ?_
        have L₇ := L₅.stepT it hfp (T' := D :: (compF sc F C).own) (fun a ha q => (List.mem_cons.mp q).elim (fun e => (wC a ha).2 e) (hTo a ha)) (fun a ha q => (List.mem_cons.mp q).elim (fun e => Dfp (e ▸ ha)) (fun q => by rw [hown] at q; exact Cfp (List.mem_singleton.mp q ▸ ha))) hg₇ hf₇ nx₇ (fun a ha => (List.mem_cons.mp ha).elim (fun e => by rw [e]; simp) (ownT a))
        exact ⟨xs.length - (i + 1), by lia, i + 1, g₇, μ₇, ρ₇, h₇, tk₇, ws₇, acc₇, rfl, rfl, hlt, L₇, hl₇, hr₇, hD7, hD7', hK₇⟩
      · obtain ⟨v, rfl, hr⟩ := hr
        exact wpAny_mono hr (fun _ s₂ hq => wpAny_mono hq (fun _ s₃ hq' => wpAny_mono hq' (fun x s₄ hok => wpAny_mono hok (fun _ _ z => z) fun _ _ e => e.elim) fun _ _ e => e.elim) fun _ _ e => e.elim) fun _ _ e => e.elim
    · have hin : i = xs.length := by lia
      subst hin
      rw [List.drop_length] at hK₂
      refine it.done _ _ _ L₂.st fun h₃ tk₃ hk₃ => ?_
      have hg₄ : GSt W g₂ μ₂ h₃ := ⟨L₂.gst.base, fun a o e => hk₃ a o (fun q => by rw [(L₂.off a q).1] at e; cases e) (L₂.gst.le _ _ e), fun q hq => by
        obtain ⟨o, e1, e2⟩ := L₂.gst.mem q hq
        exact ⟨o, hk₃ _ _ (fun r => (L₂.off _ r).2 (List.mem_map_of_mem hq)) e1, e2⟩, L₂.gst.off, L₂.gst.nd⟩
      have nx₄ : Nx wr g₂ μ₂ h₂ g₂ μ₂ h₃ := ⟨GLe.refl, fun _ _ e => .inl e, fun _ e => .inl e, fun a o _ h2 e => hk₃ a o h2 e, fun a o h2 e => ⟨o, hk₃ a o h2 e⟩⟩
      have hf₄ := L₂.fst.nextT hg₄ nx₄ hT
      obtain ⟨oD, hoD, hcD, ⟨kD, hdD⟩, hzD⟩ := hl₂
      have hoD' := hk₃ D oD (fun q => (wC D q).2 rfl) hoD
      have gl : GLe g₂ (gPut g₂ D oD) := fun a o' e => by
        unfold gPut
        by_cases q : a = D
        · rw [q, hD1] at e; cases e
        · rw [if_neg q]; exact e
      have hg₅ : GSt W (gPut g₂ D oD) μ₂ h₃ := ⟨hg₄.base.trans gl, fun a o' e => by
          unfold gPut at e
          by_cases q : a = D
          · rw [if_pos q] at e; cases e; rw [q]; exact hoD'
          · rw [if_neg q] at e; exact hg₄.le _ _ e,
        fun q hq => let ⟨o', e1, e2⟩ := hg₄.mem q hq; ⟨o', e1, e2.mono gl⟩, fun a ha => by
          unfold gPut
          rw [if_neg fun q : a = D => hD2 (q ▸ ha)]; exact hg₄.off a ha, hg₄.nd⟩
      have nx₅ : Nx [D] g₂ μ₂ h₃ (gPut g₂ D oD) μ₂ h₃ := ⟨gl, fun a o' e => by
          unfold gPut at e
          by_cases q : a = D
          · rw [q]; exact .inr (.inr (.inl (by simp)))
          · rw [if_neg q] at e; exact .inl e, fun _ e => .inl e, fun _ _ _ _ e => e, fun _ o _ e => ⟨o, e⟩⟩
      have nxA : Nx [C, D] g μ s.heap g₂ μ₂ h₃ := L₂.nx.drop (wr := wr) (nx₄.weakT fun a ha => List.mem_append_right _ ha) fun b hb => (hwr b hb).1
      have nxB : Nx ([] ++ [C, D]) g μ s.heap (gPut g₂ D oD) μ₂ h₃ := nxA.trans (nx₅.weakT fun a ha => by rw [List.mem_singleton.mp ha]; simp)
      have nxC : Nx [] g μ s.heap (gPut g₂ D oD) μ₂ h₃ := Nx.refl.drop (wr := [C, D]) nxB fun b hb => by
        rcases List.mem_cons.mp hb with rfl | hb
        · exact sC
        · rw [List.mem_singleton.mp hb]; exact sD
      obtain ⟨m', hm', _⟩ := hf₄.loc
      have oC := hf₄.own C List.mem_cons_self
      exact hRR D C _ μ₂ h₃ tk₃ acc m' hK₂ hg₅ (.lst (if_pos rfl) hcD hdD hzD (hr₂.mono gl)) hm' (by unfold gPut; rw [if_neg (Ne.symm hDC)]; exact oC.1) oC.2 sC nxC
  exact compStart2 rfl rfl loop (it.self 0 _ _ _ hst₃ loop)
theorem E_ListComp2 {sc : Scope} {t1 i1 t2 i2 elt : Expr} {K : V → Mem → Prop} (ok : CompOk sc F)
    (h : iterE W n F ρ μ t1 i1 fun xs μ₁ => ∀ C, compO W n (compF sc F C) t1 t2 i2 elt (fun ys => K (.lst ys)) xs [] (subLoc ρ (freeNames sc)) μ₁)
    (hs : ∀ x, foldedSetIterable i1 F.env x = pure x := by intro _; rfl) (hs2 : ∀ C x, foldedSetIterable i2 (compF sc F C).env x = pure x := by intro _ _; rfl) : wpE W n F ρ μ (C2 elt t1 i1 t2 i2 sc pos) K := by
  refine ⟨fun A g s hA hg hf Q hQ => ?_⟩
  rw [eval_ListComp]
  have hnames : ∀ x ∈ sc.names, x.2 = .local → sc.names.lookup x.1 = some .local := fun x hx hl => by
    have := List.all_eq_true.mp ok.loc x hx
    simpa [hl] using this
  refine wpAny_comprehension_free (use := none) rfl hs ok.clos ok.kind hnames (h.go A g s hA hg hf _ fun g₁ μ₁ I fp wr St h₁ tk₁ xs hK hg₁ nx₁ it hst hfp hwr => ?_)
  refine comp_core2 (tk₁ := tk₁) (RR := fun acc C => compPost W.M A (fun _ _ => False) none Q acc C) ok hs2 hA hf rfl hg₁ nx₁ it hst hfp hwr hK ?_
  intro D C g' μ' h' tk' ys m' hKy hg' hr hn hC1 hC2 hC3 nx
  refine ⟨m', hn, fun h'' hs'' => ?_⟩
  obtain ⟨hg'', nx''⟩ := hg'.mine (T := [C]) (h' := h'') hC1 hC2 (by simp) fun b o e1 e2 => (hs''.2 b e1).trans e2
  exact hQ _ g' μ' h'' tk' ⟨_, hr, hKy⟩ hg'' (nx.drop (wr := [C]) nx'' fun b hb => by rw [List.mem_singleton.mp hb]; exact hC3)
end
end
section
/-! ## the sort's tree of questions, answered by a total order -/
section
variable {N : Nat} {lt : Nat → Nat → Bool}
/-- what comes of a tree whose questions are answered by lt; all are about items below N -/
noncomputable def AskP {α : Type} (N : Nat) (lt : Nat → Nat → Bool) : KasT α → (α → Prop) → Prop
  | .ret a, Q => Q a
  | .ask i j k, Q => i < N ∧ j < N ∧ AskP N lt (k (lt i j)) Q
theorem AskP.bind {α β : Type} {f : α → KasT β} {Q : β → Prop} : ∀ (t : KasT α), AskP N lt t (fun a => AskP N lt (f a) Q) → AskP N lt (t.bind f) Q
  | .ret _, h => h
  | .ask i j k, ⟨h1, h2, h⟩ => ⟨h1, h2, AskP.bind (k (lt i j)) h⟩
theorem AskP.mono {α : Type} {Q Q' : α → Prop} (hq : ∀ a, Q a → Q' a) : ∀ (t : KasT α), AskP N lt t Q → AskP N lt t Q'
  | .ret _, h => hq _ h
  | .ask i j k, ⟨h1, h2, h⟩ => ⟨h1, h2, AskP.mono hq _ h⟩
theorem AskP.wp {α : Type} {Q : α → Prop} {cmp : Nat → Nat → (Bool → Shared → Prop) → Shared → Prop} {G : α → Shared → Prop} {I : Shared → Prop}
    (hc : ∀ i j C s, i < N → j < N → I s → (∀ s', I s' → C (lt i j) s') → cmp i j C s) (hG : ∀ a s, Q a → I s → G a s) : ∀ (t : KasT α) (s : Shared), I s → AskP N lt t Q → t.kasWp cmp G s
  | .ret _, s, hI, h => hG _ _ h hI
  | .ask i j k, s, hI, ⟨h1, h2, h⟩ => hc i j _ s h1 h2 hI fun s' hI' => AskP.wp hc hG (k (lt i j)) s' hI' h

structure Ordr (N : Nat) (lt : Nat → Nat → Bool) : Prop where
  trans : ∀ a b c, lt a b = true → lt b c = true → lt a c = true
  irr : ∀ a, lt a a = false
  tot : ∀ a b, a < N → b < N → a ≠ b → lt a b = true ∨ lt b a = true
noncomputable abbrev pe (p : Array Nat) (i : Nat) : Nat := p.getD i 0
structure Prm (N : Nat) (p : Array Nat) : Prop where
  perm : p.toList.Perm (List.range N)
theorem Prm.size {p : Array Nat} (h : Prm N p) : p.size = N := by have := h.perm.length_eq; simpa using this
theorem pe_get {p : Array Nat} {i : Nat} (h : i < p.size) : p[i]? = some (pe p i) := by simp [pe, Array.getD, h]
theorem Prm.below {p : Array Nat} (h : Prm N p) {i : Nat} (hi : i < N) : pe p i < N := by
  have hs := h.size
  have : pe p i ∈ p.toList := by
    have e : pe p i = p[i]'(by lia) := by simp [pe, Array.getD, show i < p.size by lia]
    rw [e]; simp
  have := h.perm.mem_iff.mp this
  simpa using this
theorem Prm.inj {p : Array Nat} (h : Prm N p) {i j : Nat} (hi : i < N) (hj : j < N) (e : pe p i = pe p j) : i = j := by
  have hs := h.size
  have nd : p.toList.Nodup := h.perm.nodup_iff.mpr List.nodup_range
  have e1 : p.toList[i]? = some (pe p i) := by rw [Array.getElem?_toList]; exact pe_get (by lia)
  have e2 : p.toList[j]? = some (pe p j) := by rw [Array.getElem?_toList]; exact pe_get (by lia)
  exact (List.getElem?_inj (by simp; lia) nd).mp (e1.trans (e ▸ e2.symm))
theorem pe_congr {p q : Array Nat} {i j : Nat} (h : p[i]? = q[j]?) : pe p i = pe q j := by
  simp only [pe, Array.getD_eq_getD_getElem?, h]
noncomputable def Inc (lt : Nat → Nat → Bool) (p : Array Nat) (k : Nat) : Prop := ∀ i j, i < j → j < k → lt (pe p i) (pe p j) = true
noncomputable def Dec (lt : Nat → Nat → Bool) (p : Array Nat) (k : Nat) : Prop := ∀ i j, i < j → j < k → lt (pe p j) (pe p i) = true
theorem Inc.one {p : Array Nat} : Inc lt p 1 := fun i j h1 h2 => by lia
variable (O : Ordr N lt)
include O
theorem Inc.more {p : Array Nat} {k : Nat} (h : Inc lt p k) (hk : 1 ≤ k) (e : lt (pe p (k - 1)) (pe p k) = true) : Inc lt p (k + 1) := fun i j h1 h2 => by
  by_cases q : j = k
  · subst q
    by_cases q2 : i = j - 1
    · rw [q2]; exact e
    · exact O.trans _ _ _ (h i (j - 1) (by lia) (by lia)) e
  · exact h i j h1 (by lia)
theorem Dec.more {p : Array Nat} {k : Nat} (h : Dec lt p k) (hk : 1 ≤ k) (e : lt (pe p k) (pe p (k - 1)) = true) : Dec lt p (k + 1) := fun i j h1 h2 => by
  by_cases q : j = k
  · subst q
    by_cases q2 : i = j - 1
    · rw [q2]; exact e
    · exact O.trans _ _ _ e (h i (j - 1) (by lia) (by lia))
  · exact h i j h1 (by lia)
theorem Ordr.flip {p : Array Nat} (hp : Prm N p) {i j : Nat} (hi : i < N) (hj : j < N) (hne : i ≠ j) (e : lt (pe p i) (pe p j) = false) : lt (pe p j) (pe p i) = true := by
  rcases O.tot (pe p i) (pe p j) (hp.below hi) (hp.below hj) (fun q => hne (hp.inj hi hj q)) with h | h
  · rw [e] at h; cases h
  · exact h
theorem asc_ok {p : Array Nat} (hp : Prm N p) : ∀ (f n : Nat), 1 ≤ n → n + f ≤ N → Inc lt p n → AskP N lt (kas_asc p f n) fun m => n ≤ m ∧ m ≤ n + f ∧ Inc lt p m ∧ (m = n + f ∨ lt (pe p m) (pe p (m - 1)) = true)
  | 0, n, h1, h2, h => ⟨Nat.le_refl _, by lia, h, .inl rfl⟩
  | f + 1, n, h1, h2, h => by
    refine ⟨hp.below (by lia), hp.below (by lia), ?_⟩
    cases e : lt (pe p n) (pe p (n - 1)) with
    | true => exact ⟨Nat.le_refl _, by lia, h, .inr e⟩
    | false =>
      exact AskP.mono (fun m ⟨a1, a2, a3, a4⟩ => ⟨by lia, by lia, a3, a4.imp (fun q => by lia) id⟩) _ (asc_ok hp f (n + 1) (by lia) (by lia) (h.more O h1 (O.flip hp (by lia) (by lia) (by lia) e)))
theorem desc_ok {p : Array Nat} (hp : Prm N p) : ∀ (f n : Nat), 1 ≤ n → n + f ≤ N → Dec lt p n → AskP N lt (kas_desc f p n 0) fun r => ∃ m, r = (p, m, 0) ∧ n ≤ m ∧ m ≤ n + f ∧ Dec lt p m
  | 0, n, h1, h2, h => ⟨n, rfl, Nat.le_refl _, by lia, h⟩
  | f + 1, n, h1, h2, h => by
    refine ⟨hp.below (by lia), hp.below (by lia), ?_⟩
    cases e : lt (pe p n) (pe p (n - 1)) with
    | true =>
      exact AskP.mono (fun r ⟨m, a1, a2, a3, a4⟩ => ⟨m, a1, by lia, by lia, a4⟩) _ (desc_ok hp f (n + 1) (by lia) (by lia) (h.more O h1 e))
    | false =>
      refine ⟨hp.below (by lia), hp.below (by lia), ?_⟩
      rw [O.flip hp (by lia) (by lia) (by lia) e]
      exact ⟨n, rfl, Nat.le_refl _, by lia, h⟩
theorem rev_ok {p : Array Nat} (hp : Prm N p) {n : Nat} (hn : n ≤ N) (h : Dec lt p n) : Prm N (kas_rev p 0 n) ∧ Inc lt (kas_rev p 0 n) n := by
  have hs := hp.size
  refine ⟨⟨(Array.perm_iff_toList_perm.mp (mirror_perm p 0 n _)).trans hp.perm⟩, fun i j h1 h2 => ?_⟩
  have e : ∀ k, k < n → pe (kas_rev p 0 n) k = pe p (0 + n - 1 - k) := fun k hk => pe_congr (by
    have := getElem?_mirror_all (xs := p) (i := 0) (j := n) (by lia) k
    rw [if_pos ⟨by lia, hk⟩] at this
    exact this)
  rw [e i (by lia), e j h2]
  exact h _ _ (by lia) (by lia)
theorem count_ok {p : Array Nat} (hp : Prm N p) (h1 : 1 ≤ N) : AskP N lt (kas_count N p) fun r => 1 ≤ r.1 ∧ r.1 ≤ N ∧ Prm N r.2 ∧ Inc lt r.2 r.1 := by
  unfold kas_count
  refine AskP.bind _ (AskP.mono (fun m ⟨a1, a2, a3, a4⟩ => ?_) _ (asc_ok O hp (N - 1) 1 (Nat.le_refl _) (by lia) Inc.one))
  by_cases hm : m = N
  · rw [if_pos (by simpa using hm)]
    exact ⟨a1, by lia, hp, a3⟩
  · rw [if_neg (by simpa using hm)]
    by_cases hm1 : m > 1
    · rw [if_pos hm1]
      refine ⟨hp.below (by lia), hp.below (by lia), ?_⟩
      rw [a3 0 (m - 1) (by lia) (by lia)]
      exact ⟨a1, by lia, hp, a3⟩
    · rw [if_neg hm1]
      have : m = 1 := by lia
      subst this
      have e : lt (pe p 1) (pe p 0) = true := by
        rcases a4 with q | q
        · lia
        · exact q
      unfold kas_descPart
      have d2 : Dec lt p 2 := fun i j h1 h2 => by
        have : i = 0 := by lia
        have : j = 1 := by lia
        subst i j; exact e
      refine AskP.bind _ (AskP.mono (fun r ⟨k, b1, b2, b3, b4⟩ => ?_) _ (desc_ok O hp (N - 2) 2 (by lia) (by lia) d2))
      subst b1
      dsimp only
      rw [if_neg (by lia)]
      obtain ⟨c1, c2⟩ := rev_ok O hp (by lia) b4
      unfold kas_tail3
      exact AskP.bind _ (AskP.mono (fun m ⟨d1, d2, d3, d4⟩ => ⟨by lia, by lia, c1, d3⟩) _ (asc_ok O c1 (N - k) k (by lia) (by lia) c2))
theorem place_ok {p : Array Nat} (hp : Prm N p) {k : Nat} (hk : k < N) (hs : Inc lt p k) : ∀ (f l r : Nat), l ≤ r → r ≤ k → r - l ≤ f → (∀ i, i < l → lt (pe p i) (pe p k) = true) → (∀ i, r ≤ i → i < k → lt (pe p k) (pe p i) = true) →
    AskP N lt (kas_place p k f l r) fun m => m ≤ k ∧ (∀ i, i < m → lt (pe p i) (pe p k) = true) ∧ ∀ i, m ≤ i → i < k → lt (pe p k) (pe p i) = true
  | 0, l, r, h1, h2, h3, h4, h5 => ⟨by lia, h4, by rwa [show l = r by lia]⟩
  | f + 1, l, r, h1, h2, h3, h4, h5 => by
    unfold kas_place
    by_cases hge : l ≥ r
    · rw [if_pos hge]
      exact ⟨by lia, h4, by rwa [show l = r by lia]⟩
    · rw [if_neg hge]
      refine ⟨hp.below hk, hp.below (by lia), ?_⟩
      cases e : lt (pe p k) (pe p ((l + r) / 2)) with
      | true =>
        refine place_ok hp hk hs f l ((l + r) / 2) (by lia) (by lia) (by lia) h4 fun i a b => ?_
        by_cases q : i = (l + r) / 2
        · rw [q]; exact e
        · exact O.trans _ _ _ e (hs _ _ (by lia) b)
      | false =>
        have e' := O.flip hp hk (show (l + r) / 2 < N by lia) (by lia) e
        refine place_ok hp hk hs f ((l + r) / 2 + 1) r (by lia) h2 (by lia) (fun i a => ?_) h5
        by_cases q : i = (l + r) / 2
        · rw [q]; exact e'
        · exact O.trans _ _ _ (hs i _ (by lia) (by lia)) e'
theorem bin_ok : ∀ (f : Nat) {p : Array Nat} {k : Nat}, Prm N p → Inc lt p k → k + f = N → AskP N lt (kas_bin f p k) fun q => Prm N q ∧ Inc lt q N
  | 0, p, k, hp, hs, e => by subst e; exact ⟨hp, hs⟩
  | f + 1, p, k, hp, hs, e => by
    have hk : k < N := by lia
    have hz := hp.size
    refine AskP.bind _ (AskP.mono (fun l ⟨a1, a2, a3⟩ => ?_) _ (place_ok O hp hk hs k 0 k (by lia) (Nat.le_refl _) (by lia) (fun i h => by lia) (fun i h h' => by lia)))
    refine bin_ok f ⟨(Array.perm_iff_toList_perm.mp (bubble_perm p k _)).trans hp.perm⟩ (fun i j h1 h2 => ?_) (by lia)
    have b : ∀ m, pe (bubble p k (k - l)) m = if m = k - (k - l) then pe p k else if k - (k - l) < m ∧ m ≤ k then pe p (m - 1) else pe p m := fun m => by
      have := getElem?_bubble (xs := p) (src := k) (by lia) (k - l) (by lia) m
      split at this
      · rename_i q; rw [if_pos q]; exact pe_congr this
      · rename_i q
        rw [if_neg q]
        split at this
        · rename_i q'; rw [if_pos q']; exact pe_congr this
        · rename_i q'; rw [if_neg q']; exact pe_congr this
    rw [b i, b j, show k - (k - l) = l by lia]
    repeat' split
    all_goals first
      | (exfalso; lia)
      | exact a2 _ (by lia)
      | exact a3 _ (by lia) (by lia)
      | exact hs _ _ (by lia) (by lia)
theorem sort_ok (h1 : 1 ≤ N) : AskP N lt (kas_sort N) fun q => Prm N q ∧ Inc lt q N := by
  unfold kas_sort
  have hp : Prm N (List.toArray (List.range N)) := ⟨by simp⟩
  refine AskP.bind _ (AskP.mono (fun r ⟨a1, a2, a3, a4⟩ => ?_) _ (count_ok O hp h1))
  by_cases q : r.1 < N
  · rw [if_pos q]
    rw [show max r.1 1 = r.1 by lia]
    exact bin_ok O _ a3 a4 (by lia)
  · rw [if_neg q]
    have : r.1 = N := by lia
    exact ⟨a3, this ▸ a4⟩
end
end
section
/-! ## a dict's keys walked, whatever they are -/
noncomputable abbrev dictRaw (es : Array DictEntry) (ep : Nat) : Obj := { cls := .type "dict", dict := none, data := .dict es ep, slots := #[] }
section
variable {prog : Program} {w : World} {A : Around} {E : Value → Shared → Prop} {s : Shared} {d it : Addr} {es : Array DictEntry} {ep i : Nat}
theorem pyIter_raw {Q : Value → Shared → Prop} (hd : (d == sysModules) = false) (ho : s.heap.get? d = some (dictRaw es ep))
    (hQ : Q (.ref s.heap.objs.size) { s with heap := s.heap.push { cls := .type "dict_keyiterator", data := .fields #[.ref d, .int 0 0, .int es.size 0, .int ep 0] } }) :
    wpAny (model prog w) A (pyIter (.ref d)) Q E s := by
  have hT : s.TypeIs (.ref d) "dict" := ⟨_, ho, rfl⟩
  refine wpAny_pyIter_slot hT PySem.F.slot_dict_iter (wpAny_call_entry PySem.F.slot_dict_iter hT PySem.F.entry_dict_iter ?_ (PySem.F.args_dict_iter_1 _))
  unfold Builtin.«dict.__iter__»
  refine wpAny_bind ?_
  unfold Builtin.Dict.dictSlotNone
  refine wpAny_bind (wpAny_notOrdered_dict hT ?_)
  show wpAny _ _ (pure (Value.ref d)) _ _ s
  refine wpAny_pure ?_
  show wpAny _ _ (Builtin.Dict.showsAll d >>= _) _ _ s
  unfold Builtin.Dict.showsAll
  rw [if_neg (by rw [hd]; exact Bool.false_ne_true)]
  refine wpAny_bind (wpAny_pure ?_)
  refine wpAny_bind (wpAny_dictEntries ho rfl ?_)
  refine wpAny_bind (wpAny_dictEpoch ho rfl ?_)
  refine wpAny_bind (wpAny_newObj_type (wpAny_pure ⟨_, rfl, "dict_keyiterator", _, ⟨_, Heap.get?_push_size _ rfl, rfl⟩, PySem.F.slot_dict_keyiterator_next.lookup, ?_⟩))
  simpa [rawInt] using hQ
theorem pyNext_raw_item {e : DictEntry} {Q : Option Value → Shared → Prop} (hit : s.heap.IsKeyIter it d i es.size ep) (ho : s.heap.get? d = some (dictRaw es ep)) (hx : es[i]? = some e)
    (hQ : ∀ h', h'.IsKeyIter it d (i + 1) es.size ep → Heap.SameBut it s.heap h' → Q (some e.key) { s with heap := h' }) :
    wpAny (model prog w) A (pyNext (.ref it)) Q E s := by
  obtain ⟨o, hoi, hc, hd⟩ := id hit
  unfold pyNext
  refine wpAny_bind (wpAny_attempt (wpAny_callSpecial?_slot (name := Str.ofString "__next__") hit.typeIs PySem.F.slot_dict_keyiterator_next
    (wpAny_call_entry PySem.F.slot_dict_keyiterator_next hit.typeIs PySem.F.entry_dict_keyiterator_next ?_ (PySem.F.args_dict_keyiterator_next_1 _))))
  refine wpAny_bind (wpAny_pure ?_)
  refine wpAny_bind ?_
  refine wpAny_bind ?_
  first | refine wpAny_bind (wpAny_typeNameOfWhole_keyiter hit.typeIs (wpAny_pure ?_)) | refine wpAny_bind (wpAny_typeNameOf_keyiter hit.typeIs (wpAny_pure ?_))
  refine wpAny_bind (wpAny_fieldsOf hoi hd ?_)
  have hown : Builtin.Dict_items.ownsTuple "dict_keyiterator" = false := by decide
  rw [if_neg (by rw [hown]; exact Bool.false_ne_true)]
  show wpAny _ _ (if (Value.ref d == Value.none) = true then _ else _) _ _ s
  rw [if_neg (show ¬ ((Value.ref d == Value.none) = true) from Bool.false_ne_true)]
  refine wpAny_bind (wpAny_pure ?_)
  refine wpAny_bind (wpAny_dictEntries ho rfl ?_)
  rw [if_neg (by simp)]
  refine wpAny_bind (wpAny_pure ?_)
  refine wpAny_bind (wpAny_dictEpoch ho rfl ?_)
  rw [if_neg (by simp)]
  refine wpAny_pure ?_
  dsimp only
  rw [if_neg (show ¬ ((i : Int) < 0) from by lia), Int.toNat_natCast, hx]
  dsimp only
  refine wpAny_bind ?_
  first | refine wpAny_bind (wpAny_typeNameOfWhole_keyiter hit.typeIs (wpAny_pure ?_)) | refine wpAny_bind (wpAny_typeNameOf_keyiter hit.typeIs (wpAny_pure ?_))
  refine wpAny_bind (wpAny_isOneOf_keyiter hit.typeIs ?_)
  show wpAny _ _ (setField (.ref it) 1 (rawInt ((i : Int) + 1)) >>= _) _ _ s
  refine wpAny_bind (wpAny_setField hoi hd (by simp) ?_)
  have hit' : (s.heap.update it (Obj.mapFields (·.setIfInBounds 1 (rawInt ((i : Int) + 1))))).IsKeyIter it d (i + 1) es.size ep :=
    ⟨_, Heap.get?_update_self _ hoi (Obj.isFreed_of_fields (Obj.data_mapFields hd _)), (Obj.cls_mapFields ..).trans hc, by rw [Obj.data_mapFields hd]; simp [rawInt]⟩
  refine wpAny_bind (wpAny_holding ?_)
  refine wpAny_bind (wpAny_isOneOf_keyiter (s := { s with heap := s.heap.update it (Obj.mapFields (·.setIfInBounds 1 (rawInt ((i : Int) + 1)))) }) hit'.typeIs ?_)
  show wpAny _ _ (pure e.key) _ _ _
  exact wpAny_pure (wpAny_pure ⟨_, rfl, wpAny_pure (hQ _ hit' (Heap.SameBut.update ..))⟩)
theorem pyNext_raw_end {Q : Option Value → Shared → Prop} (hh : A.handled = none) (hit : s.heap.IsKeyIter it d i es.size ep) (ho : s.heap.get? d = some (dictRaw es ep)) (hx : es[i]? = none)
    (hQ : ∀ h', Heap.ExtBut it s.heap h' → Q none { s with heap := h' }) : wpAny (model prog w) A (pyNext (.ref it)) Q E s := by
  obtain ⟨o, hoi, hc, hd⟩ := id hit
  unfold pyNext
  refine wpAny_bind (wpAny_attempt (wpAny_callSpecial?_slot (name := Str.ofString "__next__") hit.typeIs PySem.F.slot_dict_keyiterator_next
    (wpAny_call_entry PySem.F.slot_dict_keyiterator_next hit.typeIs PySem.F.entry_dict_keyiterator_next ?_ (PySem.F.args_dict_keyiterator_next_1 _))))
  refine wpAny_bind (wpAny_pure ?_)
  refine wpAny_bind ?_
  refine wpAny_bind ?_
  first | refine wpAny_bind (wpAny_typeNameOfWhole_keyiter hit.typeIs (wpAny_pure ?_)) | refine wpAny_bind (wpAny_typeNameOf_keyiter hit.typeIs (wpAny_pure ?_))
  refine wpAny_bind (wpAny_fieldsOf hoi hd ?_)
  have hown : Builtin.Dict_items.ownsTuple "dict_keyiterator" = false := by decide
  rw [if_neg (by rw [hown]; exact Bool.false_ne_true)]
  show wpAny _ _ (if (Value.ref d == Value.none) = true then _ else _) _ _ s
  rw [if_neg (show ¬ ((Value.ref d == Value.none) = true) from Bool.false_ne_true)]
  refine wpAny_bind (wpAny_pure ?_)
  refine wpAny_bind (wpAny_dictEntries ho rfl ?_)
  rw [if_neg (by simp)]
  refine wpAny_bind (wpAny_pure ?_)
  refine wpAny_bind (wpAny_dictEpoch ho rfl ?_)
  rw [if_neg (by simp)]
  refine wpAny_pure ?_
  dsimp only
  rw [if_neg (show ¬ ((i : Int) < 0) from by lia), Int.toNat_natCast, hx]
  dsimp only
  refine wpAny_bind ?_
  first | refine wpAny_bind (wpAny_typeNameOfWhole_keyiter hit.typeIs (wpAny_pure ?_)) | refine wpAny_bind (wpAny_typeNameOf_keyiter hit.typeIs (wpAny_pure ?_))
  show wpAny _ _ (setField (.ref it) 0 .none >>= _) _ _ s
  refine wpAny_bind (wpAny_setField hoi hd (by simp) ?_)
  show wpAny _ _ (newExc (.type "StopIteration") [] >>= _) _ _ _
  refine wpAny_bind ?_
  simp only [newExc, newTuple]
  refine wpAny_bind (wpAny_newObj_type ?_ (by size_fits))
  refine wpAny_bind (m := firstArgMember _ _) (wpAny_of_eq (a := Value.none) (by first | rfl | (simp only [firstArgMember]; rfl)) ?_)
  refine wpAny_newObj_type ?_ (by size_fits)
  unfold raiseNew
  refine wpAny_bind (wpAny_handled ?_)
  rw [show A.in1.handled = none from hh]
  refine wpAny_bind (wpAny_pure (wpAny_throw ?_))
  refine wpAny_bind (wpAny_isInstance (T := "StopIteration") (b := true) ⟨_, Heap.get?_push_size _ rfl, rfl⟩ isSubtype_stop ?_)
  exact wpAny_pure (hQ _ (((Heap.SameBut.update ..).extBut.push _).push _))
theorem IsKeyIter.at' {h h' : Heap} {it d i n ep} (x : h.IsKeyIter it d i n ep) (e : ∀ o, h.get? it = some o → h'.get? it = some o) : h'.IsKeyIter it d i n ep := let ⟨o, ho, r⟩ := x; ⟨o, e _ ho, r⟩
theorem walks_raw (hh : A.handled = none) (I d : Addr) (hne : d ≠ I) (es : Array DictEntry) (ep : Nat) :
    Walks prog w A I [I, d] [I] es.size (fun i v => ∃ e, es[i]? = some e ∧ v = e.key) (fun i h => h.IsKeyIter I d i es.size ep ∧ h.get? d = some (dictRaw es ep)) where
  sub := fun b hb => by simp at hb; simp [hb]
  frame := fun _ _ _ st hk => ⟨IsKeyIter.at' st.1 fun o e => hk I (by simp) o e, hk d (by simp) _ st.2⟩
  item := fun i s Q E hi st hQ => by
    have hx : es[i]? = some es[i] := by simp [hi]
    refine pyNext_raw_item st.1 st.2 hx fun h' hit' hs' => ?_
    exact hQ _ h' s.toks ⟨_, hx, rfl⟩ ⟨hit', hs'.extBut _ _ hne st.2⟩ fun b o hb e => hs'.extBut b o (fun h => hb (by simp [h])) e
  done := fun s Q E st hQ => pyNext_raw_end hh st.1 st.2 (by simp) fun h' he' => hQ h' s.toks fun b o hb e => he' b o (fun h => hb (by simp [h])) e
  self := fun _ _ _ _ st hQ => wpAny_pyIter_keyiter st.1 hQ
theorem kdl_raw (lo : (d == sysModules) = false) : KdlSrc prog w "dict" d d es.size (fun i v => ∃ e, es[i]? = some e ∧ v = e.key) (fun h => h.get? d = some (dictRaw es ep)) where
  type := fun _ hm => ⟨_, hm, rfl⟩
  there := fun _ hm => ⟨Heap.lt_size hm, Heap.lt_size hm⟩
  keep := fun _ _ hm hk => hk d (.inl rfl) _ hm
  notList := by decide
  notTuple := by decide
  hint := fun _ _ _ _ hm hq => kdl_hint_dict ⟨_, hm, rfl⟩ hq
  iter := fun _ _ hh hm => ⟨_, _, (fun _ _ hq => pyIter_raw lo hm hq), walks_raw hh _ d (Nat.ne_of_lt (Heap.lt_size hm)) es ep, ⟨⟨_, Heap.get?_push_size _ rfl, rfl, rfl⟩, Heap.get?_push_of_some _ hm⟩⟩
end
end
section
section
variable {prog : Program} {w : World} {A : Around} {E : Value → Shared → Prop} {s : Shared}
theorem collect_raw {d : Addr} {es : Array DictEntry} {ep : Nat} {Q : List Value → Shared → Prop} (hh : A.handled = none) (lo : (d == sysModules) = false) (ho : s.heap.get? d = some (dictRaw es ep)) (hn : es.size ≤ sizeLine)
    (hQ : ∀ h' tk, (∀ b o, s.heap.get? b = some o → h'.get? b = some o) → Q (es.toList.map (·.key)) { s with heap := h', toks := tk }) : wpAny (model prog w) A (collect (.ref d)) Q E s := by
  unfold collect
  refine wpAny_bind (wpAny_runValue (codeAny_builtin entry_proto_collect' ?_))
  show wpAny _ _ (do again (.builtin "list.__iadd__" ⟨[← newList [], .ref d], []⟩)) _ _ s
  refine wpAny_bind (wpAny_newList (wpAny_pure ⟨Code.quiet_builtin _ (by decide +kernel), codeAny_builtin entry_list_iadd' ?_⟩))
  rw [Around.under_plainId (show plainId "list.__iadd__" = true by decide +kernel) _]
  show wpAny _ _ (Builtin.List.listExtendWith (.ref s.heap.objs.size) (.ref d) (.ref s.heap.objs.size)) _ _ { s with heap := s.heap.push (seqObj "list" #[] 0) }
  have hlt := Heap.lt_size ho
  let R : Result → Shared → Prop := fun r s' => r = .ok (.ret (.ref s.heap.objs.size)) ∧ ∃ h' tk acc' c', s' = { s with heap := h', toks := tk } ∧ (∀ b o, s.heap.get? b = some o → h'.get? b = some o) ∧ h'.get? s.heap.objs.size = some { cls := .type "list", dict := none, data := .seq acc' c', slots := #[] } ∧ ItemsOf (fun i v => ∃ e, es[i]? = some e ∧ v = e.key) acc' es.size
  have run := kdl_extend (A := A) (R := R) (s := { s with heap := s.heap.push (seqObj "list" #[] 0) }) (prog := prog) (w := w) (kdl_raw lo) hh (Heap.get?_push_of_some _ ho) s.heap.objs.size (Nat.ne_of_gt hlt) (Nat.ne_of_gt hlt) (.ref s.heap.objs.size) 0 (Heap.get?_push_size _ rfl)
    (fun h' tk acc' c' hk hS' hacc => ⟨rfl, h', tk, acc', c', rfl, fun b o e => hk b o (Nat.ne_of_lt (Heap.lt_size e)) (Heap.get?_push_of_some _ e), hS', hacc⟩) hn
  have fin : ∀ s', R (.ok (.ret (.ref s.heap.objs.size))) s' → wpAny (model prog w) A (do
      let o ← load s.heap.objs.size
      match o.data with
      | .seq xs _ => pure xs.toList
      | _ => unsupported "internal:collect") Q E s' := fun s' hR => by
    obtain ⟨_, h', tk, acc', c', rfl, k1, k2, k3⟩ := hR
    refine wpAny_bind (wpAny_load k2 ?_)
    have e : acc'.toList = es.toList.map (·.key) := by
      apply List.ext_getElem?
      intro j
      rw [Array.getElem?_toList, List.getElem?_map, Array.getElem?_toList]
      by_cases hj : j < es.size
      · have hj' : j < acc'.size := by rw [k3.1]; exact hj
        obtain ⟨e, h1, h2⟩ := k3.2 j acc'[j] (by simp [hj'])
        rw [h1, Array.getElem?_eq_getElem hj', h2]; rfl
      · rw [Array.getElem?_eq_none (by rw [k3.1]; lia), Array.getElem?_eq_none (by lia)]; rfl
    show wpAny _ _ (pure acc'.toList) Q E _
    rw [e]
    exact wpAny_pure (hQ h' tk k1)
  have ok : ∀ r s', R r s' → r = .ok (.ret (.ref s.heap.objs.size)) := fun r s' h => h.1
  refine wpAny_mono run (fun f s' hf => ?_) (fun e s' hf => nomatch (ok _ _ hf))
  cases f with
  | done f =>
    have e := ok _ _ hf
    cases e
    exact fin s' hf
  | again c' =>
    refine ⟨hf.1, codeAny_mono hf.2 fun r s'' hr => ?_⟩
    have e := ok _ _ hr
    subst e
    exact fin s'' hr
/-- a value that is a pair of ints -/
noncomputable def KeyAt (h : G) (v : Value) (k : Int × Int) : Prop := ∃ b o t u n, v = .ref b ∧ h b = some o ∧ o.cls = .type "tuple" ∧ o.data = .seq #[.int k.1 t, .int k.2 u] n
theorem KeyAt.keep {h h' : G} {v : Value} {k : Int × Int} (x : KeyAt h v k) (e : GLe h h') : KeyAt h' v k := by
  obtain ⟨b, o, t, u, n, h1, h2, h3, h4⟩ := x
  exact ⟨b, o, t, u, n, h1, e b o h2, h3, h4⟩
inductive KeysAt (h : G) : List Value → List (Int × Int) → Prop
  | nil : KeysAt h [] []
  | cons {v k vs ks} : KeyAt h v k → KeysAt h vs ks → KeysAt h (v :: vs) (k :: ks)
theorem KeysAt.length {h : G} {vs ks} (x : KeysAt h vs ks) : vs.length = ks.length := by
  induction x with
  | nil => rfl
  | cons _ _ ih => exact congrArg (· + 1) ih
theorem KeysAt.keep {h h' : G} (e : GLe h h') {vs ks} (x : KeysAt h vs ks) : KeysAt h' vs ks := by
  induction x with
  | nil => exact .nil
  | cons a _ ih => exact .cons (a.keep e) ih
theorem KeysAt.get {h : G} {vs ks} (x : KeysAt h vs ks) : ∀ {i : Nat}, i < ks.length → KeyAt h (vs.getD i Value.none) (ks.getD i (0, 0)) := by
  induction x with
  | nil => exact fun hi => nomatch hi
  | cons a _ ih =>
    intro i hi
    cases i with
    | zero => exact a
    | succ i => exact ih (Nat.lt_of_succ_lt_succ hi)
theorem KeysAt.map {h : G} {vs ks} (x : KeysAt h vs ks) : ∀ {l : List Nat}, (∀ i ∈ l, i < ks.length) → KeysAt h (l.map fun i => vs.getD i Value.none) (l.map fun i => ks.getD i (0, 0))
  | [], _ => .nil
  | i :: l, hl => .cons (x.get (hl i List.mem_cons_self)) (KeysAt.map x fun j hj => hl j (List.mem_cons_of_mem _ hj))
noncomputable def lexlt (p q : Int × Int) : Bool := if p.1 == q.1 then decide (p.2 < q.2) else decide (p.1 < q.1)
theorem ask_prs {x y : Value} {p q : Int × Int} {Q : Bool → Shared → Prop} (hx : KeyAt (hG s.heap) x p) (hy : KeyAt (hG s.heap) y q) (h : Q (lexlt p q) s) : wpAny (model prog w) A (keyLt' (tuples' true) x y) Q E s := by
  obtain ⟨a, o, t, u, n, rfl, e1, e2, e3⟩ := hx
  obtain ⟨b, o', t', u', n', rfl, f1, f2, f3⟩ := hy
  refine kat_lt e1 e3 f1 f3 ?_
  show KatLex prog w A true _ Q [(.int p.1 t, .int q.1 t'), (.int p.2 u, .int q.2 u')] 0 s
  refine kat_cons (wpAny_eqBool_int ?_)
  unfold lexlt at h
  cases e : (p.1 == q.1) with
  | true =>
    rw [e] at h
    refine kat_yes (kat_cons (wpAny_eqBool_int ?_))
    have h' : Q (decide (p.2 < q.2)) s := h
    cases e' : (p.2 == q.2) with
    | true =>
      refine kat_yes (kat_nil ?_)
      have : ¬ p.2 < q.2 := by rw [beq_iff_eq.mp e']; exact Int.lt_irrefl _
      rw [decide_eq_false this] at h'
      exact h'
    | false =>
      refine kat_no (kat_one _ _ ?_)
      exact wpAny_lt_int h'
  | false =>
    rw [e] at h
    refine kat_no ?_
    exact oneLt_int h
theorem katTups_of {h : Heap} {vs ks} (x : KeysAt (hG h) vs ks) : ∃ fs : List Value, KatTups h vs fs ∧ fs.length = vs.length ∧ ∀ v ∈ fs, ∃ i t, v = .int i t := by
  induction x with
  | nil => exact ⟨[], .nil, rfl, fun _ h => nomatch h⟩
  | @cons v k _ _ a _ ih =>
    obtain ⟨fs, h1, h2, h3⟩ := ih
    obtain ⟨c, o, t, u, n, rfl, e1, e2, e3⟩ := a
    refine ⟨.int k.1 t :: fs, KatTups.cons e1 e2 e3 rfl h1, congrArg (· + 1) h2, fun v hv => ?_⟩
    rcases List.mem_cons.mp hv with rfl | hv
    · exact ⟨_, _, rfl⟩
    · exact h3 v hv
theorem lex_ordr {ks : List (Int × Int)} (nd : ks.Nodup) : Ordr ks.length (fun i j => lexlt (ks.getD i (0, 0)) (ks.getD j (0, 0))) where
  trans := fun a b c h1 h2 => by
    generalize ks.getD a (0, 0) = x at *
    generalize ks.getD b (0, 0) = y at *
    generalize ks.getD c (0, 0) = z at *
    unfold lexlt at *
    simp only [beq_iff_eq] at *
    split at h1 <;> split at h2 <;> split <;> simp_all <;> lia
  irr := fun a => by unfold lexlt; simp
  tot := fun a b ha hb hne => by
    have e : ks.getD a (0, 0) ≠ ks.getD b (0, 0) := fun q => by
      have h1 : ks[a]? = some (ks.getD a (0, 0)) := by simp [ha]
      have h2 : ks[b]? = some (ks.getD b (0, 0)) := by simp [hb]
      exact hne ((List.getElem?_inj ha nd).mp (h1.trans (q ▸ h2.symm)))
    generalize ks.getD a (0, 0) = x at *
    generalize ks.getD b (0, 0) = y at *
    obtain ⟨x1, x2⟩ := x
    obtain ⟨y1, y2⟩ := y
    unfold lexlt
    simp only [beq_iff_eq, ne_eq, Prod.mk.injEq, not_and] at *
    by_cases q : x1 = y1
    · subst q
      simp
      have := e rfl
      lia
    · have q' : ¬ y1 = x1 := fun r => q r.symm
      simp [q, q']
      lia
theorem list_sort_prs {a : Addr} {vs : List Value} {ks : List (Int × Int)} {n : Nat} {P : PySem.Fin → Shared → Prop} {g : G} (ho : s.heap.get? a = some (seqObj "list" vs.toArray n)) (hg : GLe g (hG s.heap)) (hga : g a = none) (hk : KeysAt g vs ks) (nd : ks.Nodup) (h64 : ks.length < 64)
    (h : ∀ h' out zs c, zs.Perm ks → zs.Pairwise (fun p q => lexlt p q = true) → KeysAt g out zs → (∀ b o, b ≠ a → s.heap.get? b = some o → h'.get? b = some o) → h'.get? a = some (seqObj "list" out.toArray c) → P (.done (.ret .none)) { s with heap := h' }) :
    wpAny (model prog w) A (Builtin.«list.sort» ⟨[.ref a], []⟩) P E s := by
  have ha : a < s.heap.objs.size := Heap.lt_size ho
  have hvl := hk.length
  have s1 := Heap.SameBut.update s.heap a (Obj.mapSeq fun _ => (#[] : Array Value))
  obtain ⟨e1, ho1⟩ : ∃ e1, (s.heap.update a (Obj.mapSeq fun _ => (#[] : Array Value))).get? a = some (seqObj "list" #[] e1) := ⟨_, get?_update_seq ho fun _ => #[]⟩
  generalize hH : ((s.heap.update a (Obj.mapSeq fun _ => (#[] : Array Value))).push (seqObj "tuple" vs.toArray 0)).push (seqObj "list" #[] 0) = H
  have ho2 : H.get? a = some (seqObj "list" #[] e1) := by rw [← hH]; exact Heap.get?_push_of_some _ (Heap.get?_push_of_some _ ho1)
  have old : ∀ b o, b ≠ a → s.heap.get? b = some o → H.get? b = some o := fun b o hb e => by rw [← hH]; exact Heap.get?_push_of_some _ (Heap.get?_push_of_some _ ((s1.2 b hb).trans e))
  have hgH : GLe g (hG H) := fun b o e => old b o (fun q => by rw [q, hga] at e; cases e) (hg b o e)
  have hk' := hk.keep hgH
  -- what the list is in the end
  have last : ∀ (out : List Value) (zs : List (Int × Int)), zs.Perm ks → zs.Pairwise (fun p q => lexlt p q = true) → KeysAt g out zs → out.length < 64 →
      P (.done (.ret .none)) { s with heap := H.update a (Obj.mapSeq fun _ => out.toArray) } := fun out zs h1 h2 h3 h4 => by
    have s2 := Heap.SameBut.update H a (Obj.mapSeq fun _ => out.toArray)
    exact h _ out zs _ h1 h2 h3 (fun b o hb e => (s2.2 b hb).trans (old b o hb e)) (get?_update_seq ho2 fun _ => out.toArray)
  rw [list_sort_plain]
  refine wpAny_bind (listItems_at ho rfl ?_)
  refine wpAny_bind (listUpdate_at ho rfl ?_ (by rw [List.size_toArray, sizeLine_eq]; lia) (Nat.zero_le _))
  refine wpAny_bind (seqEpoch_at ho1 rfl ?_)
  refine wpAny_bind (wpAny_newTuple ?_ (by show vs.length ≤ _; rw [sizeLine_eq]; lia))
  refine wpAny_bind (wpAny_newList ?_ (Nat.zero_le _))
  refine wpAny_holding ?_
  show wpAny (model prog w) A _ P E { s with heap := ((s.heap.update a (Obj.mapSeq fun _ => (#[] : Array Value))).push (seqObj "tuple" vs.toArray 0)).push (seqObj "list" #[] 0) }
  rw [hH]
  dsimp only
  by_cases h2 : vs.toArray.size < 2
  · rw [if_pos h2, if_pos h2]
    refine wpAny_bind (wpAny_pure ?_)
    rw [StateT.run_pure]
    refine wpAny_bind (wpAny_pure ?_)
    dsimp only
    have hz : ((vs.toArray.zip vs.toArray).map (·.2)) = vs.toArray := by
      apply Array.toList_inj.mp
      simp [List.map_snd_zip]
    refine wpAny_bind (seqEpoch_at ho2 rfl ?_)
    refine wpAny_bind (listUpdate_at ho2 rfl ?_ (Nat.zero_le _) (by
      show ((vs.toArray.zip vs.toArray).map (·.2)).size ≤ _
      rw [hz, List.size_toArray, sizeLine_eq]; lia))
    simp only [bne_self_eq_false, Bool.false_eq_true, if_false]
    refine wpAny_pure ?_
    have fin := last vs ks (List.Perm.refl _) (by
      rw [List.size_toArray, hvl] at h2
      match ks, h2 with
      | [], _ => exact .nil
      | [x], _ => exact List.pairwise_singleton _ _
      | _ :: _ :: _, h2 => rw [List.length_cons, List.length_cons] at h2; lia) hk (by lia)
    have e : (fun _ : Array Value => ((vs.toArray.zip vs.toArray).map (·.2))) = fun _ => vs.toArray := by rw [hz]
    rw [← e] at fin
    exact fin
  · rw [if_neg h2, if_neg h2]
    have h2' : 2 ≤ vs.length := by rw [List.size_toArray] at h2; lia
    obtain ⟨fs, k1, k2, k3⟩ := katTups_of hk'
    refine wpAny_bind (kat_kind (T := .type "int") k1 (by lia) (fun v hv => ?_) (by decide) ?_)
    · obtain ⟨i, t, rfl⟩ := k3 v hv
      exact Looks.of_pure rfl
    have est : (Value.type "int" != Value.type "tuple") = true := by decide
    rw [est]
    have O := lex_ordr nd
    have N0 : vs.length = ks.length := hvl
    have run : (kas_sort vs.length).kasWp (kas_ask prog w A (tuples' true) vs) (fun p s' => s' = { s with heap := H } ∧ Prm vs.length p ∧ Inc (fun i j => lexlt (ks.getD i (0, 0)) (ks.getD j (0, 0))) p vs.length) { s with heap := H } := by
      refine AskP.wp (N := vs.length) (lt := fun i j => lexlt (ks.getD i (0, 0)) (ks.getD j (0, 0))) (I := fun s' => s' = { s with heap := H }) (Q := fun p => Prm vs.length p ∧ Inc (fun i j => lexlt (ks.getD i (0, 0)) (ks.getD j (0, 0))) p vs.length) (fun i j C s' hi hj hI hC => ?_) (fun p s' hp hI => ⟨hI, hp⟩) _ _ rfl (sort_ok (by rw [N0]; exact O) (by lia))
      subst hI
      exact ask_prs (hk'.get (by lia)) (hk'.get (by lia)) (hC _ rfl)
    refine wpAny_bind (wpAny_mono (kat_run (ks := vs) (Q := fun st' s' => ∃ p : Array Nat, arrOf st' = p.map (kas_item (vs.toArray.zip vs.toArray)) ∧ failedOf st' = none ∧ s' = { s with heap := H } ∧ Prm vs.length p ∧ Inc (fun i j => lexlt (ks.getD i (0, 0)) (ks.getD j (0, 0))) p vs.length) rfl h2' (by lia) (fun p' st' s' a1 a2 a3 a4 => ⟨p', a2, a3, a4.1, a4.2.1, a4.2.2⟩) run) ?_ fun _ _ e => e)
    rintro ⟨⟨⟩, st'⟩ s' ⟨p, har, hf, rfl, hprm, hinc⟩
    dsimp only
    have hps := hprm.size
    have hout := kat_snds (ks := vs) rfl har
    refine wpAny_bind (seqEpoch_at ho2 rfl ?_)
    rw [hout]
    refine wpAny_bind (listUpdate_at ho2 rfl ?_ (Nat.zero_le _) (by
      show (List.toArray (p.toList.map fun i => vs.getD i Value.none)).size ≤ _
      rw [List.size_toArray, List.length_map, Array.length_toList, hps, sizeLine_eq]; lia))
    rw [hf]
    simp only [bne_self_eq_false, Bool.false_eq_true, if_false]
    refine wpAny_pure ?_
    have hmem : ∀ i ∈ p.toList, i < ks.length := fun i hi => by
      have := hprm.perm.mem_iff.mp hi
      rw [← N0]; simpa using this
    refine last _ (p.toList.map fun i => ks.getD i (0, 0)) ?_ ?_ (hk.map hmem) (by rw [List.length_map, Array.length_toList, hps]; lia)
    · have := hprm.perm.map (fun i => ks.getD i (0, 0))
      refine this.trans (List.Perm.of_eq ?_)
      rw [N0]
      apply List.ext_getElem?
      intro i
      rw [List.getElem?_map]
      by_cases hi : i < ks.length
      · rw [List.getElem?_range hi]; simp [hi]
      · rw [List.getElem?_eq_none (by simp; lia), List.getElem?_eq_none (by lia)]; rfl
    · rw [List.pairwise_iff_getElem]
      intro i j hi hj hij
      have hi' : i < p.size := by simpa using hi
      have hj' : j < p.size := by simpa using hj
      have := hinc i j hij (by lia)
      simpa [pe, Array.getD, hi', hj'] using this
end
end
section
section
variable {prog : Program} {w : World} {A : Around} {E : Value → Shared → Prop} {s : Shared}
noncomputable def kl (k : Int × Int) : List Int := [k.1, k.2]
theorem kl_inj {a b : Int × Int} (h : kl a = kl b) : a = b := by
  obtain ⟨a1, a2⟩ := a
  obtain ⟨b1, b2⟩ := b
  simp [kl] at h
  rw [h.1, h.2]
noncomputable abbrev pk (prog : Program) (w : World) : HeapKind prog w (List Int) := tupleKind (PySem.intKind prog w)
theorem KeyAt.is {h : Heap} {a : Addr} {k : Int × Int} (x : KeyAt (hG h) (.ref a) k) : (pk prog w).is h (kl k) a := by
  obtain ⟨b, o, t, u, n, e, h1, h2, h3⟩ := x
  cases e
  exact ⟨o, _, n, h1, h2, h3, .cons (by simp [PySem.intKind, Value.isInt]) (.cons (by simp [PySem.intKind, Value.isInt]) .nil)⟩
theorem KeyAt.of_is {h : Heap} {g : G} {a : Addr} {k : Int × Int} (x : (pk prog w).is h (kl k) a) (hg : GLe g (hG h)) (ha : ∃ o, g a = some o) : KeyAt g (.ref a) k := by
  obtain ⟨o, items, n, h1, h2, h3, h4⟩ := x
  obtain ⟨o', ho'⟩ := ha
  have e : o' = o := by have := hg a o' ho'; rw [show hG h a = h.get? a from rfl, h1] at this; exact (Option.some.inj this).symm
  subst e
  obtain ⟨l⟩ := items
  cases h4 with
  | cons a1 h4 =>
    cases h4 with
    | cons a2 h4 =>
      cases h4
      obtain ⟨t, rfl⟩ := Value.isInt_shape a1
      obtain ⟨u, rfl⟩ := Value.isInt_shape a2
      exact ⟨a, o', t, u, n, rfl, ho', h2, h3⟩
/-- an item: a tuple of a key and what is beside it -/
noncomputable def ItemAt (h : G) (v : Value) (k : Int × Int) : Prop := ∃ T o a x m, v = .ref T ∧ h T = some o ∧ o.cls = .type "tuple" ∧ o.data = .seq #[.ref a, x] m ∧ KeyAt h (.ref a) k
inductive ItemsAt (h : G) : List Value → List (Int × Int) → Prop
  | nil : ItemsAt h [] []
  | cons {v k vs ks} : ItemAt h v k → ItemsAt h vs ks → ItemsAt h (v :: vs) (k :: ks)
theorem ItemsAt.length {h : G} {vs ks} (x : ItemsAt h vs ks) : vs.length = ks.length := by
  induction x with
  | nil => rfl
  | cons _ _ ih => exact congrArg (· + 1) ih
theorem ItemsAt.get {h : G} {vs ks} (x : ItemsAt h vs ks) : ∀ {i : Nat}, i < ks.length → ∃ v k, vs[i]? = some v ∧ ks[i]? = some k ∧ ItemAt h v k := by
  induction x with
  | nil => exact fun hi => nomatch hi
  | cons a _ ih =>
    intro i hi
    cases i with
    | zero => exact ⟨_, _, rfl, rfl, a⟩
    | succ i => exact ih (Nat.lt_of_succ_lt_succ hi)
theorem stored_keys {xs : List (List Int × Addr × Value)} {k : List Int} {a : Addr} {v : Value} {zs : List (Int × Int)} {q : Int × Int} (hk : k = kl q) (h : xs.map (·.1) = zs.map kl) :
    ∃ zs' : List (Int × Int), (storedH xs k a v).map (·.1) = zs'.map kl ∧ (∀ z, z ∈ zs' ↔ z ∈ zs ∨ z = q) ∧ zs'.length ≤ zs.length + 1 := by
  subst hk
  unfold storedH
  by_cases hs : (atKey xs (kl q)).isSome = true
  · rw [if_pos hs, keys_map_putAt]
    refine ⟨zs, h, fun z => ⟨.inl, fun hz => hz.elim id fun e => ?_⟩, by lia⟩
    subst e
    unfold atKey at hs
    rw [Option.isSome_map] at hs
    obtain ⟨x, hx⟩ := Option.isSome_iff_exists.mp hs
    have h1 := List.mem_of_find?_eq_some hx
    have h2 := List.find?_some hx
    have h3 : kl z ∈ xs.map (·.1) := List.mem_map.mpr ⟨x, h1, of_decide_eq_true h2⟩
    rw [h] at h3
    obtain ⟨y, hy, e⟩ := List.mem_map.mp h3
    exact kl_inj e ▸ hy
  · rw [if_neg hs]
    exact ⟨zs ++ [q], by simp [h], fun z => by simp, by simp⟩
theorem stored_old {h₀ : G} {xs : List (List Int × Addr × Value)} {k : List Int} {a : Addr} {v : Value} (hx : ∀ x ∈ xs, ∃ o, h₀ x.2.1 = some o) (ha : ∃ o, h₀ a = some o) : ∀ x ∈ storedH xs k a v, ∃ o, h₀ x.2.1 = some o := by
  intro x hm
  unfold storedH at hm
  split at hm
  · obtain ⟨y, hy, rfl⟩ := List.mem_map.mp hm
    unfold putAt
    split <;> exact hx y hy
  · rcases List.mem_append.mp hm with hm | hm
    · exact hx x hm
    · rw [List.mem_singleton.mp hm]; exact ha
theorem dict_loop {h₀ g : G} {I l d : Addr} {vs : List Value} {ks : List (Int × Int)} {R : Result → Shared → Prop} (hh : A.handled = none) (hu : A.units + 1 < cLine) (hgh : GLe g h₀) (hit : ItemsAt g vs ks) (hI : h₀ I = none) (hd : h₀ d = none) (hdI : d ≠ I) (hl : ∃ o, h₀ l = some o)
    (hn : ks.length ≤ 1000000)
    (hR : ∀ s' (xs : List (List Int × Addr × Value)) (zs : List (Int × Int)), (∀ b o, h₀ b = some o → s'.heap.get? b = some o) → s'.heap.DictOfH (pk prog w) d xs → xs.map (·.1) = zs.map kl → (∀ z, z ∈ zs ↔ z ∈ ks) → zs.length ≤ ks.length → (∀ x ∈ xs, ∃ o, g x.2.1 = some o) → (∃ h' tk, s' = { s with heap := h', toks := tk }) → R (.ok (.ret .none)) s') :
    ∀ (m i : Nat) (c : Int) (t : Tok) (s' : Shared) (xs : List (List Int × Addr × Value)) (zs : List (Int × Int)), m = vs.length - i → i ≤ vs.length → (∃ h' tk, s' = { s with heap := h', toks := tk }) → s'.heap.IsListIter I l i → s'.heap.IsList l vs.toArray → s'.heap.DictOfH (pk prog w) d xs →
      xs.map (·.1) = zs.map kl → (∀ x ∈ xs, ∃ o, g x.2.1 = some o) → (∀ b o, h₀ b = some o → s'.heap.get? b = some o) → (∀ z, z ∈ zs ↔ z ∈ ks.take i) → zs.length ≤ i →
      codeAny (model prog w) A (.builtin "dict.update.loop" ⟨[.ref d, .ref I, .int c t, .none], []⟩) R s' := by
  have hvl := hit.length
  intro m
  induction m with
  | zero =>
    intro i c t s' xs zs hm hi hs' h1 h2 h3 h4 h5 h6 h7 h8
    have e : i = vs.length := by lia
    subst e
    refine dict_loop_step ?_
    refine wpAny_pyNext_list_end hh h1 h2 (by simp) fun h' he' => ?_
    have kp : ∀ b o, h₀ b = some o → h'.get? b = some o := fun b o e => he' b o (fun q => by rw [q, hI] at e; cases e) (h6 b o e)
    obtain ⟨o, es, ep, g1, g2, g3, g4, g5, g6⟩ := h3
    obtain ⟨h'', tk, rfl⟩ := hs'
    refine hR _ xs zs kp ⟨o, es, ep, he' d o hdI g1, g2, g3, g4, fun x hx => ?_, g6⟩ h4 (fun z => by rw [h7, hvl, List.take_length]) (by lia) h5 ⟨h', tk, rfl⟩
    obtain ⟨o', items, n, k1, k2, k3, k4⟩ := g5 x hx
    obtain ⟨o'', k5⟩ := h5 x hx
    exact ⟨o', items, n, he' _ _ (fun q => by have k6 := hgh _ _ k5; rw [q, hI] at k6; cases k6) k1, k2, k3, k4⟩
  | succ m ih =>
    intro i c t s' xs zs hm hi hs' h1 h2 h3 h4 h5 h6 h7 h8
    have hik : i < ks.length := by lia
    obtain ⟨v, k, hv, hk, T, o, a, x, n, rfl, e1, e2, e3, e4⟩ := hit.get hik
    refine dict_loop_step ?_
    refine wpAny_pyNext_list_item h1 h2 (x := .ref T) (by simpa using hv) fun h' hit' hs'' => ?_
    have hext := hs''.extBut
    have lI : l ≠ I := fun q => by obtain ⟨o, e⟩ := hl; rw [q, hI] at e; cases e
    have kp : ∀ b o, h₀ b = some o → h'.get? b = some o := fun b o e => hext b o (fun q => by rw [q, hI] at e; cases e) (h6 b o e)
    have tupk : GLe g (hG h') := fun b o e => kp b o (hgh _ _ e)
    refine ⟨T, .ref a, x, o, n, rfl, kp _ _ (hgh _ _ e1), e2, e3, ?_⟩
    have aold : ∃ o, g a = some o := by obtain ⟨b, o, _, _, _, q, q1, _⟩ := e4; cases q; exact ⟨o, q1⟩
    have hD : h'.DictOfH (pk prog w) d xs := by
      obtain ⟨o, es, ep, g1, g2, g3, g4, g5, g6⟩ := h3
      refine ⟨o, es, ep, hext d o hdI g1, g2, g3, g4, fun x hx => ?_, g6⟩
      obtain ⟨o', items, n, k1, k2, k3, k4⟩ := g5 x hx
      obtain ⟨o'', k5⟩ := h5 x hx
      exact ⟨o', items, n, hext _ _ (fun q => by have k6 := hgh _ _ k5; rw [q, hI] at k6; cases k6) k1, k2, k3, k4⟩
    have xl : xs.length = zs.length := by have := congrArg List.length h4; simpa using this
    refine wpAny_dictSet_heap (s := { s' with heap := h' }) (knd := pk prog w) hu (KeyAt.is (e4.keep tupk)) hD (fun h'' hD'' hs3 => ?_) (by rw [sizeLine_eq]; lia)
    obtain ⟨zs', q1, q2, q3⟩ := stored_keys (a := a) (v := x) (q := k) rfl h4
    have dn : ∀ b o, h₀ b = some o → b ≠ d := fun b o e q => by rw [q, hd] at e; cases e
    have ld : l ≠ d := fun q => by obtain ⟨o, e⟩ := hl; exact dn l o e q
    obtain ⟨h3', tk3, rfl⟩ := hs'
    refine ih (i + 1) _ _ _ _ zs' (by lia) (by lia) ⟨h'', _, rfl⟩ ?_ ?_ hD'' q1 (stored_old h5 aold) (fun b o e => hs3.extBut b o (dn b o e) (kp b o e)) (fun z => ?_) (by lia)
    · obtain ⟨oI, k1, k2⟩ := hit'
      exact ⟨oI, hs3.extBut I oI hdI.symm k1, k2⟩
    · exact (h2.extBut hext lI).extBut hs3.extBut ld
    · rw [q2, h7, List.take_add_one, hk]
      simp
theorem keysAt_of {h' : Heap} {g : G} (hg : GLe g (hG h')) : ∀ {xs : List (List Int × Addr × Value)} {zs : List (Int × Int)}, xs.map (·.1) = zs.map kl → (∀ x ∈ xs, (pk prog w).is h' x.1 x.2.1) → (∀ x ∈ xs, ∃ o, g x.2.1 = some o) → KeysAt g (xs.map fun x => .ref x.2.1) zs
  | [], [], _, _, _ => .nil
  | [], _ :: _, q, _, _ => by cases q
  | _ :: _, [], q, _, _ => by cases q
  | x :: xs, z :: zs, q, k, old => by
    rw [List.map_cons, List.map_cons, List.cons.injEq] at q
    refine .cons ?_ (keysAt_of hg q.2 (fun y hy => k y (List.mem_cons_of_mem _ hy)) fun y hy => old y (List.mem_cons_of_mem _ hy))
    have := k x List.mem_cons_self
    rw [q.1] at this
    exact KeyAt.of_is this hg (old x List.mem_cons_self)
theorem dict_of_pairs {g : G} {l : Addr} {ol : Obj} {n : Nat} {vs : List Value} {ks : List (Int × Int)} {Q : Value → Shared → Prop} (hh : A.handled = none) (hu : A.units + 10 < cLine) (hg : GLe g (hG s.heap)) (hl : g l = some ol) (hc : ol.cls = .type "list") (hdat : ol.data = .seq vs.toArray n) (hdd : ol.dict = none)
    (hit : ItemsAt g vs ks) (hn : ks.length ≤ 1000000)
    (hQ : ∀ h' tk es ep (zs : List (Int × Int)), (∀ b o, s.heap.get? b = some o → h'.get? b = some o) → h'.get? s.heap.objs.size = some (dictRaw es ep) → KeysAt g (es.toList.map (·.key)) zs → zs.Nodup → (∀ z, z ∈ zs ↔ z ∈ ks) → zs.length ≤ ks.length → Q (.ref s.heap.objs.size) { s with heap := h', toks := tk }) :
    wpAny (model prog w) A (call (.type "dict") [.ref l]) Q E s := by
  have k1 : ∀ c o, s.heap.get? c = some o → (s.heap.push { cls := .type "dict", data := .dict #[] }).get? c = some o := fun c o e => Heap.get?_push_of_some _ e
  refine call_dict_pairs (T := "list") (by decide) (fun h' k => ⟨_, k _ _ (hg _ _ hl), hc⟩) fun A' hh' _ hu' => ?_
  refine getAttrQ_miss_list (k1 _ _ (hg _ _ hl)) hc hdat hdd keys_list (by decide +kernel) (hh'.trans hh) (fun h₁ tk₁ k2 => ⟨rfl, ?_⟩) (by rw [sizeLine_eq]; decide +kernel)
  have kk : ∀ c o, s.heap.get? c = some o → h₁.get? c = some o := fun c o e => k2 _ _ (k1 _ _ e)
  have hL : h₁.IsList l vs.toArray := ⟨ol, kk _ _ (hg _ _ hl), hc, n, hdat⟩
  refine wpAny_pyIter_list (s := { s with heap := h₁, toks := tk₁ }) hL ?_
  have hd₁ : h₁.get? s.heap.objs.size = some { cls := .type "dict", data := .dict #[] } := k2 _ _ (Heap.get?_push_size _ rfl)
  have hI : s.heap.get? h₁.objs.size = none := by
    cases e : s.heap.get? h₁.objs.size with
    | none => rfl
    | some o => exact absurd (Heap.lt_size (kk _ _ e)) (Nat.lt_irrefl _)
  have hdI : s.heap.objs.size ≠ h₁.objs.size := Nat.ne_of_lt (Heap.lt_size hd₁)
  refine dict_loop (A := A.in1) (s := s) (h₀ := hG s.heap) (g := g) hh (by show A.units + 1 + 1 < cLine; lia) hg hit hI (get_size _) hdI ⟨_, hg _ _ hl⟩ hn (fun s' xs zs q1 q2 q3 q4 q5 q7 q6 => ⟨rfl, ?_⟩) vs.length 0 0 0 { s with heap := h₁.push { cls := .type "list_iterator", data := .fields #[.ref l, .int 0 0] }, toks := tk₁ } [] [] (by lia) (Nat.zero_le _) ⟨_, _, rfl⟩
    ⟨_, Heap.get?_push_size _ rfl, rfl, rfl⟩ (hL.push _) ⟨_, #[], 0, Heap.get?_push_of_some _ hd₁, ⟨rfl, rfl, rfl⟩, rfl, rfl, fun _ hx => (nomatch hx), List.nodup_nil⟩ rfl (fun _ hx => (nomatch hx)) (fun b o e => Heap.get?_push_of_some _ (kk _ _ e)) (fun z => by simp) (Nat.le_refl _)
  obtain ⟨h', tk, rfl⟩ := q6
  obtain ⟨o, es, ep, g1, g2, g3, g4, g5, g6⟩ := q2
  have eo : o = dictRaw es ep := by
    obtain ⟨a1, a2, a3, a4⟩ := o
    obtain ⟨b1, b2, b3⟩ := g2
    simp only at b1 b2 b3 g3
    subst b1 b2 b3 g3
    rfl
  subst eo
  refine hQ h' tk es ep zs q1 g1 ?_ ?_ q4 q5
  · rw [g4, List.map_map]
    exact keysAt_of (fun b o e => q1 b o (hg _ _ e)) q3 g5 q7
  · rw [q3] at g6
    exact (List.Pairwise.of_map (S := fun a b : List Int => a ≠ b) kl (fun a b h e => h (e ▸ rfl)) g6)
end
end
section
section
variable {prog : Program} {w : World} {A : Around} {E : Value → Shared → Prop} {s : Shared}
theorem call_sorted_raw {g : G} {d : Addr} {es : Array DictEntry} {ep : Nat} {ks : List (Int × Int)} {Q : Value → Shared → Prop} (hh : A.handled = none) (lo : (d == sysModules) = false) (ho : s.heap.get? d = some (dictRaw es ep)) (hg : GLe g (hG s.heap)) (hk : KeysAt g (es.toList.map (·.key)) ks) (nd : ks.Nodup) (h64 : ks.length < 64)
    (hQ : ∀ h' tk r out zs c, (∀ b o, s.heap.get? b = some o → h'.get? b = some o) → s.heap.get? r = none → h'.get? r = some (seqObj "list" (List.toArray out) c) → zs.Perm ks → zs.Pairwise (fun p q => lexlt p q = true) → KeysAt g out zs → Q (.ref r) { s with heap := h', toks := tk }) :
    wpAny (model prog w) A (call (.builtin "sorted") [.ref d]) Q E s := by
  have hl := hk.length
  rw [List.length_map, Array.length_toList] at hl
  refine Calls.call_function_entry kind_sorted plain_sorted entry_sorted (args_sorted1 _) ?_
  unfold Builtin.«sorted»
  refine wpAny_bind (m := checkCount "sorted" 1 1 _) (wpAny_pure ?_)
  refine wpAny_bind (collect_raw hh lo ho (by rw [sizeLine_eq]; lia) fun h₁ tk₁ kk => ?_)
  refine wpAny_bind (wpAny_newList ?_ (by rw [List.length_map, Array.length_toList, sizeLine_eq]; lia))
  have hoL : (h₁.push (seqObj "list" (List.toArray (es.toList.map (·.key))) 0)).get? h₁.objs.size = some (seqObj "list" (List.toArray (es.toList.map (·.key))) 0) := Heap.get?_push_size _ rfl
  have k2 : ∀ b o, s.heap.get? b = some o → (h₁.push (seqObj "list" (List.toArray (es.toList.map (·.key))) 0)).get? b = some o := fun b o e => Heap.get?_push_of_some _ (kk b o e)
  have rn : s.heap.get? h₁.objs.size = none := by
    cases e : s.heap.get? h₁.objs.size with
    | none => rfl
    | some o => exact absurd (Heap.lt_size (kk _ _ e)) (Nat.lt_irrefl _)
  have gr : g h₁.objs.size = none := by
    cases q : g h₁.objs.size with
    | none => rfl
    | some o => have := hg _ _ q; rw [show hG s.heap h₁.objs.size = s.heap.get? h₁.objs.size from rfl, rn] at this; cases this
  refine wpAny_bind (wpAny_holding (wpAny_call_entry slot_list_sort ⟨_, hoL, rfl⟩ entry_list_sort ?body (args_list_sort _)))
  refine list_sort_prs (s := { s with heap := h₁.push (seqObj "list" (List.toArray (es.toList.map (·.key))) 0), toks := tk₁ }) (g := g) hoL (fun b o e => k2 b o (hg b o e)) gr hk nd h64 fun h' out zs c a1 a2 a3 a4 a5 => ?_
  refine ⟨.none, rfl, wpAny_pure ⟨_, rfl, ?_⟩⟩
  exact hQ h' tk₁ h₁.objs.size out zs c (fun b o e => a4 b o (fun q => by rw [q, rn] at e; cases e) (k2 b o e)) rn a5 a1 a2 a3
end
noncomputable def prW (p : Int × Int) : V := .tup [.int p.1, .int p.2]
noncomputable def itW (p : Int × Int) : V := .tup [prW p, .bool true]
theorem keyAt_rep {P : Params} {g : G} {v : Value} {k : Int × Int} (r : Rep P g v (prW k)) : KeyAt g v k := by
  apply r.tup_elim; intro _ _ _ _ e1 e2 e3 rs
  cases rs with
  | cons r1 rs =>
    cases rs with
    | cons r2 rs =>
      cases rs
      cases r1; cases r2
      exact ⟨_, _, _, _, _, rfl, e1, e2, e3⟩
theorem itemsAt_rep {P : Params} {g : G} : ∀ {vs : List Value} {ks : List (Int × Int)}, Reps P g vs (ks.map itW) → ItemsAt g vs ks
  | _, [], .nil => .nil
  | _, k :: ks, .cons r b => by
    refine .cons ?_ (itemsAt_rep b)
    apply r.tup_elim; intro _ _ _ _ e1 e2 e3 rs
    cases rs with
    | cons r1 rs =>
      cases rs with
      | cons r2 rs =>
        cases rs
        have ka := keyAt_rep r1
        obtain ⟨a, o, t, u, n, rfl, k1⟩ := ka
        exact ⟨_, _, a, _, _, rfl, e1, e2, e3, a, o, t, u, n, rfl, k1⟩
theorem rep_keys {P : Params} {g : G} {vs : List Value} {ks : List (Int × Int)} (x : KeysAt g vs ks) : Reps P g vs (ks.map prW) := by
  induction x with
  | nil => exact .nil
  | cons a _ ih =>
    obtain ⟨c, o, t, u, n, rfl, h1, h2, h3⟩ := a
    exact .cons (.tup (vs := [_, _]) h1 h2 h3 (.cons (.int _ _) (.cons (.int _ _) .nil))) ih
section
variable {W : Wd} {n : Nat} {F : Fm} {ρ : Loc} {μ : Mem} {pos : Pos}
/-- what sorted gives of a dict's keys -/
structure Sorted (zs ks : List (Int × Int)) : Prop where
  ord : zs.Pairwise fun p q => lexlt p q = true
  mem : ∀ z, z ∈ zs ↔ z ∈ ks
theorem sub_len : ∀ {zs L : List (Int × Int)}, zs.Nodup → (∀ z, z ∈ zs → z ∈ L) → zs.length ≤ L.length
  | [], _, _, _ => Nat.zero_le _
  | y :: ys, L, nd, h => by
    have hy := h y List.mem_cons_self
    rw [List.nodup_cons] at nd
    have k := sub_len (L := L.erase y) nd.2 fun z hz => (List.mem_erase_of_ne (fun e => nd.1 (by rw [← e]; exact hz))).mpr (h z (List.mem_cons_of_mem _ hz))
    rw [List.length_erase_of_mem hy] at k
    have := List.length_pos_of_mem hy
    rw [List.length_cons]
    lia
theorem F_sorted_dict {ks L : List (Int × Int)} {K : V → Mem → Prop} (hks : ks.length ≤ 1000000) (h64 : L.length < 64) (hL : ∀ k, k ∈ ks → k ∈ L) (h : ∀ zs, Sorted zs ks → K (.lst (zs.map prW)) μ) (A : Around) (g : G) (s : Shared) (hA : Room n A) (hg : GSt W g μ s.heap) {u : Value} (r : Rep W.P g u (.lst (ks.map itW))) (Q : Value → Shared → Prop)
    (hQ : ∀ a g' μ' h' tk', VK W K g' a μ' → GSt W g' μ' h' → Nx [] g μ s.heap g' μ' h' → Q a { s with heap := h', toks := tk' }) :
    wpAny W.M A (call (.type "dict") [u]) (fun z s₁ => wpAny W.M A (call (.builtin "sorted") [z]) Q (fun _ _ => False) s₁) (fun _ _ => False) s := by
  apply r.lst_elim; intro _ _ _ _ e1 e2 e3 e4 rs
  rename_i l o vs k
  have hit := itemsAt_rep rs
  have hu : A.units + 10 < cLine := by have := hA.units; rw [cLine_is]; lia
  have lo := hg.low (a := s.heap.objs.size) (get_size _)
  refine dict_of_pairs (g := g) hA.handled hu hg.le e1 e2 e3 e4 hit (by lia) fun h₁ tk₁ es ep zs k1 k2 k3 k4 k5 k6 => ?_
  have hg1 : GLe g (hG h₁) := fun b o e => k1 b o (hg.le b o e)
  have ln := sub_len k4 fun z hz => hL z ((k5 z).mp hz)
  refine call_sorted_raw (s := { s with heap := h₁, toks := tk₁ }) (g := g) hA.handled lo k2 hg1 k3 k4 (by lia) fun h₂ tk₂ r out zs' c a1 a2 a3 a4 a5 a6 => ?_
  have kk : ∀ b o, s.heap.get? b = some o → h₂.get? b = some o := fun b o e => a1 b o (k1 b o e)
  have rn : s.heap.get? r = none := by
    cases e : s.heap.get? r with
    | none => rfl
    | some o => have := k1 r o e; rw [show h₁.get? r = none from a2] at this; cases this
  obtain ⟨hg', nx, e'⟩ := hg.adopt kk rn a3
  exact hQ _ _ _ h₂ tk₂ ⟨_, .lst e' rfl rfl rfl ((rep_keys a6).mono nx.gle), h zs' ⟨a5, fun z => by rw [a4.mem_iff, k5]⟩⟩ hg' nx
theorem E_SortedDict {f₁ f₂ e : Expr} {p₂ : Pos} {K : V → Mem → Prop}
    (h : wpE W n F ρ μ f₁ fun y μ₁ => y = .raw (.builtin "sorted") ∧ wpE W n F ρ μ₁ f₂ fun y₂ μ₂ => y₂ = .raw (.type "dict") ∧ wpE W n F ρ μ₂ e fun z μ₃ => ∃ (ks L : List (Int × Int)), z = .lst (List.map itW ks) ∧ ks.length ≤ 1000000 ∧ L.length < 64 ∧ (∀ k, k ∈ ks → k ∈ L) ∧ ∀ zs, Sorted zs ks → K (.lst (zs.map prW)) μ₃)
    (hs : starEach [e] F.env = (false, eval e F.env) :: starEach [] F.env := by rfl)
    (he₂ : eval (.Call f₂ [e] [] p₂) F.env = (do callWith p₂ (← eval f₂ F.env) [] (backTo p₂ (starEach [e] F.env)) (backToKw p₂ (keywordEach [] F.env))) := by rfl)
    (hs' : starEach [.Call f₂ [e] [] p₂] F.env = (false, eval (.Call f₂ [e] [] p₂) F.env) :: starEach [] F.env := by rfl)
    (he : eval (.Call f₁ [.Call f₂ [e] [] p₂] [] pos) F.env = (do callWith pos (← eval f₁ F.env) [] (backTo pos (starEach [.Call f₂ [e] [] p₂] F.env)) (backToKw pos (keywordEach [] F.env))) := by rfl) :
    wpE W n F ρ μ (.Call f₁ [.Call f₂ [e] [] p₂] [] pos) K := by
  refine ⟨fun A g s hA hg hf Q hQ => ?_⟩
  refine PyProof.Rows.Call_ (h.go A g s hA hg hf _ fun v g₁ μ₁ h₁ tk₁ hR₁ hg₁ nx₁ => ?_) he
  obtain ⟨f, r, rfl, k⟩ := hR₁
  apply r.raw_elim
  have hf₁ := hf.next hg₁ nx₁
  refine callWith_of (P := fun h => ∃ k, (k = Keeper.frame ∨ k = Keeper.machine ∨ k = Keeper.boundFrame) ∧ Looks W.M h (keeperOf (.builtin "sorted")) k) (by rw [hs']; rfl) (fun _ x => x) ?_
  rw [hs']
  refine Calls.evalArgs_plain (show wpAny _ _ (spliced (backTo pos ((false, eval (.Call f₂ [e] [] p₂) F.env) :: starEach [] F.env))) _ _ _ from ?_)
  refine Calls.spliced_cons ?_
  refine PyProof.Rows.Call_ (k.go A g₁ _ hA hg₁ hf₁ _ fun v₂ g₂ μ₂ h₂ tk₂ hR₂ hg₂ nx₂ => ?_) he₂
  obtain ⟨f', r₂, rfl, k₂⟩ := hR₂
  apply r₂.raw_elim
  have hf₂ := hf₁.next hg₂ nx₂
  refine callWith_of (P := fun h => ∃ k, (k = Keeper.frame ∨ k = Keeper.machine ∨ k = Keeper.boundFrame) ∧ Looks W.M h (keeperOf (.type "dict")) k) (by rw [hs]; rfl) (fun _ x => x) ?_
  rw [hs]
  refine Calls.evalArgs_plain (show wpAny _ _ (spliced (backTo p₂ ((false, eval e F.env) :: starEach [] F.env))) _ _ _ from ?_)
  refine Calls.spliced_cons ?_
  refine k₂.go A g₂ _ hA hg₂ hf₂ _ fun v₃ g₃ μ₃ h₃ tk₃ hR₃ hg₃ nx₃ => ?_
  obtain ⟨z, rz, ks, L, rfl, hks, h64, hL, hK⟩ := hR₃
  refine Calls.spliced_nil ⟨⟨.machine, .inr (.inl rfl), Looks.of_pure rfl⟩, ?_⟩
  refine wpAny_mono (F_sorted_dict (n := n) hks h64 hL hK A g₃ _ hA hg₃ rz _ fun a g' μ' h' tk' hR hg' nx' => hQ a g' μ' h' tk' hR hg' (((nx₁.trans nx₂).trans nx₃).trans nx')) (fun z s₁ hz => ?_) fun _ _ e => e
  exact Calls.spliced_nil ⟨⟨.machine, .inr (.inl rfl), Looks.of_pure rfl⟩, hz⟩
end
end
section
/-! ## sorted rows are one -/
theorem lexlt_irr (p : Int × Int) : lexlt p p = false := by
  unfold lexlt
  rw [if_pos (beq_self_eq_true _)]
  exact decide_eq_false (Int.lt_irrefl _)
theorem lexlt_asym {p q : Int × Int} (h : lexlt p q = true) (k : lexlt q p = true) : False := by
  obtain ⟨a, b⟩ := p
  obtain ⟨c, d⟩ := q
  unfold lexlt at h k
  by_cases e : a = c
  · subst e
    simp at h k
    lia
  · have e' : ¬ c = a := fun q => e q.symm
    simp [e, e'] at h k
    lia
theorem sorted_uniq : ∀ {zs ys : List (Int × Int)}, zs.Pairwise (fun p q => lexlt p q = true) → ys.Pairwise (fun p q => lexlt p q = true) → (∀ z, z ∈ zs ↔ z ∈ ys) → zs = ys
  | [], [], _, _, _ => rfl
  | [], y :: ys, _, _, h => nomatch (h y).mpr List.mem_cons_self
  | x :: xs, [], _, _, h => nomatch (h x).mp List.mem_cons_self
  | x :: xs, y :: ys, h1, h2, h => by
    rw [List.pairwise_cons] at h1 h2
    have e : x = y := by
      rcases List.mem_cons.mp ((h x).mp List.mem_cons_self) with e | hx
      · exact e
      rcases List.mem_cons.mp ((h y).mpr List.mem_cons_self) with e | hy
      · exact e.symm
      exact (lexlt_asym (h1.1 y hy) (h2.1 x hx)).elim
    subst e
    rw [sorted_uniq h1.2 h2.2 fun z => ?_]
    constructor
    · intro hz
      rcases List.mem_cons.mp ((h z).mp (List.mem_cons_of_mem _ hz)) with e | k
      · subst e
        exact absurd (h1.1 z hz) (by rw [lexlt_irr]; exact Bool.false_ne_true)
      · exact k
    · intro hz
      rcases List.mem_cons.mp ((h z).mpr (List.mem_cons_of_mem _ hz)) with e | k
      · subst e
        exact absurd (h2.1 z hz) (by rw [lexlt_irr]; exact Bool.false_ne_true)
      · exact k
theorem Sorted.uniq {zs ys ks ks' : List (Int × Int)} (h : Sorted zs ks) (k : Sorted ys ks') (e : ∀ z, z ∈ ks ↔ z ∈ ks') : zs = ys :=
  sorted_uniq h.ord k.ord fun z => by rw [h.mem, e, k.mem]
theorem datVs_prW : ∀ ps : List (Int × Int), datVs (ps.map prW) = ps.map fun p => .tuple [.int p.1, .int p.2]
  | [] => rfl
  | p :: ps => by rw [List.map_cons, List.map_cons, datVs, datVs_prW ps]; rfl
theorem canLay_prW : ∀ ps : List (Int × Int), PyData.canLayAll0 (ps.map fun p => .tuple [.int p.1, .int p.2]) = true
  | [] => rfl
  | p :: ps => by
    show (PyData.canLay0 (.tuple [.int p.1, .int p.2]) && PyData.canLayAll0 (ps.map fun p => .tuple [.int p.1, .int p.2])) = true
    rw [canLay_prW ps]; rfl
theorem depth_prW : ∀ ps : List (Int × Int), PyData.depthAll (ps.map fun p => .tuple [.int p.1, .int p.2]) ≤ 5
  | [] => by simp [PyData.depthAll]
  | p :: ps => by
    have := depth_prW ps
    simp only [List.map_cons, PyData.depthAll, PyData.depth]
    lia
section
variable {W : Wd} {n : Nat} {μ : Mem}
theorem cmp_ne_sorted {zs : List (Int × Int)} {K : Bool → Mem → Prop} (h : K false μ) : cmpT W n .NotEq (.lst (zs.map prW)) (.lst (zs.map prW)) μ K := by
  have c : (datV (.lst (zs.map prW))).canLay0 = true := by
    show PyData.canLayAll0 (datVs (zs.map prW)) = true
    rw [datVs_prW]; exact canLay_prW zs
  have d : (datV (.lst (zs.map prW))).depth ≤ 64 := by
    have := depth_prW zs
    rw [datV, datVs_prW]
    simp only [PyData.depth]
    lia
  refine cmp_ne_dat c c d ?_
  rw [SeqAt.eqv_refl _ c]
  exact h
theorem cmp_eq_nil {K : Bool → Mem → Prop} (h : K true μ) : cmpT W n .Eq (.lst []) (.lst []) μ K :=
  cmp_eq_dat rfl rfl (by decide) h
theorem cmp_eq_pt {a b c d : Int} {K : Bool → Mem → Prop} (h : K (decide (a = c ∧ b = d)) μ) : cmpT W n .Eq (.tup [.int a, .int b]) (.tup [.int c, .int d]) μ K := by
  refine cmp_eq_dat rfl rfl (by simp [datV, datVs, PyData.depth, PyData.depthAll]) ?_
  have e : PyData.eqv (datV (.tup [.int a, .int b])) (datV (.tup [.int c, .int d])) = decide (a = c ∧ b = d) := by
    rw [Bool.eq_iff_iff]
    simp [datV, datVs, PyData.eqv, PyData.eqvAll]
  rw [e]
  exact h
end
end
section
/-! ## small words of the walk -/
theorem ite_t {A B : Prop} (h : A) : if true = true then A else B := by rw [if_pos rfl]; exact h
theorem ite_f {A B : Prop} (h : B) : if false = true then A else B := by rw [if_neg (by simp)]; exact h
theorem ite_nt {A B : Prop} (h : B) : if (!true) = true then A else B := ite_f h
theorem ite_nf {A B : Prop} (h : A) : if (!false) = true then A else B := ite_t h
theorem ite_b {b : Bool} {A B : Prop} (h1 : b = true → A) (h2 : b = false → B) : if b = true then A else B := by
  cases b with
  | true => exact ite_t (h1 rfl)
  | false => exact ite_f (h2 rfl)
section
variable {W : Wd} {n : Nat} {F : Fm} {ρ : Loc} {μ : Mem} {pos : Pos}
theorem seqK_next {rest : List Stmt} {K : Out → Mem → Prop} (h : wpS W n F ρ μ rest K) : seqK W n F rest K (.next ρ) μ := h
theorem seqK_ret {rest : List Stmt} {K : Out → Mem → Prop} {y : V} (h : K (.ret y) μ) : seqK W n F rest K (.ret y) μ := h
theorem seqK_brk {rest : List Stmt} {K : Out → Mem → Prop} (h : K (.brk ρ) μ) : seqK W n F rest K (.brk ρ) μ := h
theorem retK_ret {K : V → Mem → Prop} {y : V} (h : K y μ) : retK K (.ret y) μ := h
theorem retK_next {K : V → Mem → Prop} (h : K .none μ) : retK K (.next ρ) μ := h
theorem compL_nil {target elt : Expr} {ifs : List Expr} {xs acc : List V} {K : List V → Mem → Prop} (e : xs = []) (h : K acc μ) : compL W n F target ifs elt K xs acc ρ μ := by subst e; exact h
theorem compL_cons {target elt : Expr} {y : V} {xs ys acc : List V} {K : List V → Mem → Prop} (e : xs = y :: ys) (h : wpTg W n F ρ μ target y fun ρ' μ' => wpE W n F ρ' μ' elt fun z μ₃ => compL W n F target [] elt K ys (acc ++ [z]) ρ' μ₃) : compL W n F target [] elt K xs acc ρ μ := by
  subst e
  have e : (compL W n F target [] elt K (y :: ys) acc ρ μ) = wpTg W n F ρ μ target y fun ρ' μ' => if true = true then wpE W n F ρ' μ' elt fun z μ₃ => compL W n F target [] elt K ys (acc ++ [z]) ρ' μ₃ else compL W n F target [] elt K ys acc ρ' μ' := rfl
  rw [e]
  simp only [if_true]
  exact h
theorem compL_if {target elt c : Expr} {y : V} {xs ys acc : List V} {K : List V → Mem → Prop} (e : xs = y :: ys) (h : wpTg W n F ρ μ target y fun ρ' μ' => wpB W n F ρ' μ' c fun ok μ'' => if ok = true then wpE W n F ρ' μ'' elt fun z μ₃ => compL W n F target [c] elt K ys (acc ++ [z]) ρ' μ₃ else compL W n F target [c] elt K ys acc ρ' μ'') : compL W n F target [c] elt K xs acc ρ μ := by subst e; exact h
theorem forL_nil {target : Expr} {body : List Stmt} {xs : List V} {K : Out → Mem → Prop} (e : xs = []) (h : K (.next ρ) μ) : forL W n F target body K xs ρ μ := by subst e; exact h
noncomputable def forK (W : Wd) (n : Nat) (F : Fm) (target : Expr) (body : List Stmt) (K : Out → Mem → Prop) (ys : List V) : Out → Mem → Prop := fun o μ'' => match o with
    | .next ρ'' => forL W n F target body K ys ρ'' μ''
    | .cont ρ'' => forL W n F target body K ys ρ'' μ''
    | .brk ρ'' => K (.next ρ'') μ''
    | .ret z => K (.ret z) μ''
theorem forL_cons {target : Expr} {body : List Stmt} {K : Out → Mem → Prop} {y : V} {xs ys : List V} (e : xs = y :: ys) (h : wpTg W n F ρ μ target y fun ρ' μ' => wpS W n F ρ' μ' body (forK W n F target body K ys)) : forL W n F target body K xs ρ μ := by subst e; exact h
theorem forK_next {target : Expr} {body : List Stmt} {K : Out → Mem → Prop} {ys : List V} (h : forL W n F target body K ys ρ μ) : forK W n F target body K ys (.next ρ) μ := h
theorem forK_ret {target : Expr} {body : List Stmt} {K : Out → Mem → Prop} {ys : List V} {y : V} (h : K (.ret y) μ) : forK W n F target body K ys (.ret y) μ := h
theorem forK_brk {target : Expr} {body : List Stmt} {K : Out → Mem → Prop} {ys : List V} (h : K (.next ρ) μ) : forK W n F target body K ys (.brk ρ) μ := h
theorem X_ExprA {e : Expr} {K : Out → Mem → Prop} (h : wpE W n F ρ μ e fun _ μ' => K (.next ρ) μ') (hi : interactive F.env = false := by rfl) (hs : swapsWith e none pos.line F.env = pure false := by rfl) : wpX W n F ρ μ (.Expr e pos) K :=
  ⟨fun A g s hA hg hf Q hQ => wpAny_Expr_any (h.go A g s hA hg hf _ fun v g₁ μ₁ h₁ tk₁ hR₁ hg₁ nx₁ => by
    obtain ⟨y, r, k⟩ := hR₁
    exact hQ _ (.next ρ) _ _ _ _ k ⟨rfl, hf.next hg₁ nx₁⟩ hg₁ nx₁.weak0) hi hs⟩
theorem and2 {A B : Prop} (h1 : A) (h2 : B) : A ∧ B := ⟨h1, h2⟩
end

/-! ## the binding of a call -/
theorem binds1 {W : Wd} {fd : FuncData} {a : Str} {x : V} (h : ∀ s v, BindsTo s fd ⟨[v], []⟩ [(a, v)]) : Binds W fd [x] [(a, x)] := fun g vs hv s X => by
  apply hv.cons_elim; intro _ _ r1 hv
  apply hv.nil_elim
  exact ⟨_, h s _, .cons r1 .nil⟩
theorem binds2 {W : Wd} {fd : FuncData} {a b : Str} {x y : V} (h : ∀ s v u, BindsTo s fd ⟨[v, u], []⟩ [(a, v), (b, u)]) : Binds W fd [x, y] [(a, x), (b, y)] := fun g vs hv s X => by
  apply hv.cons_elim; intro _ _ r1 hv
  apply hv.cons_elim; intro _ _ r2 hv
  apply hv.nil_elim
  exact ⟨_, h s _ _, .cons r1 (.cons r2 .nil)⟩
theorem binds3 {W : Wd} {fd : FuncData} {a b c : Str} {x y z : V} (h : ∀ s v u w, BindsTo s fd ⟨[v, u, w], []⟩ [(a, v), (b, u), (c, w)]) : Binds W fd [x, y, z] [(a, x), (b, y), (c, z)] := fun g vs hv s X => by
  apply hv.cons_elim; intro _ _ r1 hv
  apply hv.cons_elim; intro _ _ r2 hv
  apply hv.cons_elim; intro _ _ r3 hv
  apply hv.nil_elim
  exact ⟨_, h s _ _ _, .cons r1 (.cons r2 (.cons r3 .nil))⟩
theorem binds4 {W : Wd} {fd : FuncData} {a b c d : Str} {x y z z4 : V} (h : ∀ s v u w w4, BindsTo s fd ⟨[v, u, w, w4], []⟩ [(a, v), (b, u), (c, w), (d, w4)]) : Binds W fd [x, y, z, z4] [(a, x), (b, y), (c, z), (d, z4)] := fun g vs hv s X => by
  apply hv.cons_elim; intro _ _ r1 hv
  apply hv.cons_elim; intro _ _ r2 hv
  apply hv.cons_elim; intro _ _ r3 hv
  apply hv.cons_elim; intro _ _ r4 hv
  apply hv.nil_elim
  exact ⟨_, h s _ _ _ _, .cons r1 (.cons r2 (.cons r3 (.cons r4 .nil)))⟩
/-! ## types -/
inductive Rg where
  | n (i : Int)
  | s (x : Str)
noncomputable def rgV : Rg → V
  | .n i => .int i
  | .s x => .str x
inductive Ty where
  | int (x : Str)
  | par (x : Str)
  | ref (r : Rg) (m : Bool) (t : Ty)
  | box (t : Ty)
  | arr (t : Ty) (k : Int)
  | pair (a b : Ty)
  | trip (a b c : Ty)
  | adt (r : Rg) (t : Ty)
noncomputable def tyV : Ty → V
  | .int x => .tup [.str "int", .str x]
  | .par x => .tup [.str "param", .str x]
  | .ref r m t => .tup [.str "ref", rgV r, .bool m, tyV t]
  | .box t => .tup [.str "box", tyV t]
  | .arr t k => .tup [.str "array", tyV t, .int k]
  | .pair a b => .tup [.str "tuple", .tup [tyV a, tyV b]]
  | .trip a b c => .tup [.str "tuple", .tup [tyV a, tyV b, tyV c]]
  | .adt r t => .tup [.str "adt", .str "P", .tup [rgV r], .tup [tyV t]]
noncomputable def Ty.dep : Ty → Nat
  | .int _ | .par _ => 0
  | .ref _ _ t | .box t | .arr t _ | .adt _ t => t.dep + 1
  | .pair a b => max a.dep b.dep + 1
  | .trip a b c => max a.dep (max b.dep c.dep) + 1
noncomputable def partsV : Ty → List V
  | .int _ | .par _ => []
  | .ref _ _ t | .box t | .arr t _ | .adt _ t => [tyV t]
  | .pair a b => [tyV a, tyV b]
  | .trip a b c => [tyV a, tyV b, tyV c]
/-- another type of the same shape, with the parts given -/
inductive Reb : Ty → List V → Ty → Prop
  | int (x) : Reb (.int x) [] (.int x)
  | par (x) : Reb (.par x) [] (.par x)
  | ref (r m t t') : Reb (.ref r m t) [tyV t'] (.ref r m t')
  | box (t t') : Reb (.box t) [tyV t'] (.box t')
  | arr (t k t') : Reb (.arr t k) [tyV t'] (.arr t' k)
  | pair (a b a' b') : Reb (.pair a b) [tyV a', tyV b'] (.pair a' b')
  | trip (a b c a' b' c') : Reb (.trip a b c) [tyV a', tyV b', tyV c'] (.trip a' b' c')
  | adt (r t t') : Reb (.adt r t) [tyV t'] (.adt r t')
/-- the same type with other regions and other params -/
noncomputable def Ty.sub (φ : Rg → Rg) (ψ : Str → Ty) : Ty → Ty
  | .int x => .int x
  | .par x => ψ x
  | .ref r m t => .ref (φ r) m (t.sub φ ψ)
  | .box t => .box (t.sub φ ψ)
  | .arr t k => .arr (t.sub φ ψ) k
  | .pair a b => .pair (a.sub φ ψ) (b.sub φ ψ)
  | .trip a b c => .trip (a.sub φ ψ) (b.sub φ ψ) (c.sub φ ψ)
  | .adt r t => .adt (φ r) (t.sub φ ψ)
end
section
/-! ## ways, pairs, places, statements: plain -/
inductive Wy where
  | co | inn | bi
  deriving DecidableEq
noncomputable def wyV : Wy → V
  | .co => .str "co"
  | .inn => .str "in"
  | .bi => .str "bi"
noncomputable def within : Wy → Wy → Wy
  | .bi, _ => .bi
  | .co, .bi => .bi
  | .inn, .bi => .bi
  | .inn, .co => .inn
  | .inn, .inn => .inn
  | .co, .inn => .inn
  | .co, .co => .co
noncomputable abbrev Pr := Int × Int
noncomputable def prV (p : Pr) : V := .tup [.int p.1, .int p.2]
noncomputable def rp (a b : Int) : Wy → List Pr
  | .co => [(a, b)]
  | .inn => [(a, b), (b, a)]
  | .bi => []
noncomputable def mw (m : Bool) : Wy := if m then .inn else .co
noncomputable def prs (v0 v1 : Wy) : Ty → Ty → Wy → List Pr
  | .ref (.n a) _ s, .ref (.n b) m t, w => rp a b w ++ prs v0 v1 s t (within w (mw m))
  | .box s, .box t, w => prs v0 v1 s t w
  | .arr s _, .arr t _, w => prs v0 v1 s t w
  | .pair a b, .pair c d, w => prs v0 v1 a c w ++ prs v0 v1 b d w
  | .adt (.n a) s, .adt (.n b) t, w => rp a b (within w v0) ++ prs v0 v1 s t (within w v1)
  | _, _, _ => []
section
variable {v0 v1 : Wy}
theorem prs_int (x y : Str) (w : Wy) : prs v0 v1 (.int x) (.int y) w = [] := rfl
theorem prs_ref (a b : Int) (m m' : Bool) (s t : Ty) (w : Wy) : prs v0 v1 (.ref (.n a) m s) (.ref (.n b) m' t) w = rp a b w ++ prs v0 v1 s t (within w (mw m')) := rfl
theorem prs_box (s t : Ty) (w : Wy) : prs v0 v1 (.box s) (.box t) w = prs v0 v1 s t w := rfl
theorem prs_arr (s t : Ty) (k l : Int) (w : Wy) : prs v0 v1 (.arr s k) (.arr t l) w = prs v0 v1 s t w := rfl
theorem prs_pair (a b c d : Ty) (w : Wy) : prs v0 v1 (.pair a b) (.pair c d) w = prs v0 v1 a c w ++ prs v0 v1 b d w := rfl
theorem prs_adt (a b : Int) (s t : Ty) (w : Wy) : prs v0 v1 (.adt (.n a) s) (.adt (.n b) t) w = rp a b (within w v0) ++ prs v0 v1 s t (within w v1) := rfl
end
/-- the same shape, other regions -/
inductive Like : Ty → Ty → Prop
  | int (x) : Like (.int x) (.int x)
  | ref {a b m s t} : Like s t → Like (.ref (.n a) m s) (.ref (.n b) m t)
  | box {s t} : Like s t → Like (.box s) (.box t)
  | arr {s t k} : Like s t → Like (.arr s k) (.arr t k)
  | pair {a b c d} : Like a c → Like b d → Like (.pair a b) (.pair c d)
  | adt {a b s t} : Like s t → Like (.adt (.n a) s) (.adt (.n b) t)
/-- plain types of a depth -/
inductive Pl : Nat → Ty → Prop
  | int {d x} : Pl d (.int x)
  | ref {d a m t} : Pl d t → Pl (d + 1) (.ref (.n a) m t)
  | box {d t} : Pl d t → Pl (d + 1) (.box t)
  | arr {d t k} : Pl d t → Pl (d + 1) (.arr t k)
  | pair {d a b} : Pl d a → Pl d b → Pl (d + 1) (.pair a b)
/-- what a relation has after more pairs came -/
structure Add (ps qs ps' : List Pr) : Prop where
  mem : ∀ x, x ∈ ps' ↔ x ∈ ps ∨ (x ∈ qs ∧ x.1 ≠ x.2)
  len : ps'.length ≤ ps.length + qs.length
theorem Add.nil {ps : List Pr} : Add ps [] ps := ⟨by simp, by simp⟩
theorem Add.trans {ps qs rs ps' ps'' : List Pr} (h : Add ps qs ps') (k : Add ps' rs ps'') : Add ps (qs ++ rs) ps'' :=
  ⟨fun x => by
    rw [k.mem, h.mem, List.mem_append]
    by_cases q : x.1 ≠ x.2
    · simp [q, or_assoc]
    · simp [q], by
    have := h.len; have := k.len; rw [List.length_append]; lia⟩
theorem datVs_prs : ∀ ps : List Pr, datVs (ps.map prV) = ps.map fun p => .tuple [.int p.1, .int p.2]
  | [] => rfl
  | p :: ps => by rw [List.map_cons, List.map_cons, datVs, datVs_prs ps]; rfl
theorem canLay_prs : ∀ ps : List Pr, PyData.canLayAll0 (ps.map fun p => .tuple [.int p.1, .int p.2]) = true
  | [] => rfl
  | p :: ps => by
    show (PyData.canLay0 (.tuple [.int p.1, .int p.2]) && PyData.canLayAll0 (ps.map fun p => .tuple [.int p.1, .int p.2])) = true
    rw [canLay_prs ps]; rfl
theorem eqv_pr (p q : Pr) : PyData.eqv (.tuple [.int p.1, .int p.2]) (.tuple [.int q.1, .int q.2]) = decide (p = q) := by
  obtain ⟨a, b⟩ := p
  obtain ⟨c, d⟩ := q
  rw [Bool.eq_iff_iff]
  simp [PyData.eqv, PyData.eqvAll]
theorem any_pr (p : Pr) (ps : List Pr) : ((datVs (ps.map prV)).any fun y => PyData.eqv y (datV (prV p))) = decide (p ∈ ps) := by
  rw [datVs_prs, List.any_map, Bool.eq_iff_iff]
  simp only [List.any_eq_true, Function.comp, decide_eq_true_eq]
  constructor
  · rintro ⟨q, hq, h⟩
    have h' := (eqv_pr q p).symm.trans h
    rw [decide_eq_true_eq] at h'
    exact h' ▸ hq
  · exact fun h => ⟨p, h, (eqv_pr p p).trans (by simp)⟩
theorem canLay_prs' (ps : List Pr) : PyData.canLayAll0 (datVs (ps.map prV)) = true := by rw [datVs_prs]; exact canLay_prs ps
section
variable {W : Wd} {n : Nat} {F : Fm} {ρ : Loc} {μ : Mem} {pos : Pos}
/-- the memory's addresses are apart -/
theorem F_nd {f : V} {xs : List V} {K : V → Mem → Prop} (h : (addrs μ).Nodup → wpF W n f xs μ K) : wpF W n f xs μ K :=
  ⟨fun fv vs A g s hA hg hp Q hQ => (h hg.nd).go fv vs A g s hA hg hp Q hQ⟩
theorem it_rangeI {target : Expr} {i : Int} {K : List V → Mem → Prop} (h0 : 0 ≤ i) (hsz : i < 2 ^ 62) (h : K ((List.range i.toNat).map fun i : Nat => V.int (i : Int)) μ) : itF W n (.raw (.type "range")) [.int i] μ target K := by
  obtain ⟨m, rfl⟩ := Int.eq_ofNat_of_zero_le h0
  exact it_range1 (by lia) (by simpa using h)
noncomputable def isStrV : V → Bool
  | .str x => PyData.strOk x
  | _ => false
noncomputable def strsOf : List V → List Str
  | [] => []
  | .str x :: r => x :: strsOf r
  | _ :: r => strsOf r
theorem strs_lay : ∀ {ys : List V}, ys.all isStrV = true → PyData.canLayAll0 (datVs ys) = true ∧ ∀ x : Str, ((datVs ys).any fun y => PyData.eqv y (datV (.str x))) = (strsOf ys).any fun z => z == x
  | [], _ => ⟨by simp [datVs, PyData.canLayAll0], fun x => rfl⟩
  | y :: ys, h => by
    rw [List.all_cons, Bool.and_eq_true] at h
    obtain ⟨h1, h2⟩ := strs_lay h.2
    obtain ⟨s, rfl, h0⟩ : ∃ s, y = .str s ∧ PyData.strOk s = true := by
      cases y <;> first | exact ⟨_, rfl, h.1⟩ | exact absurd h.1 Bool.false_ne_true
    refine ⟨by simp [datVs, datV, PyData.canLayAll0, PyData.canLay0, h1, h0], fun x => ?_⟩
    rw [datVs, List.any_cons, h2 x, strsOf, List.any_cons]
    rfl
theorem cmp_in_tup' {x : Str} {ys : List V} {b : Bool} {K : Bool → Mem → Prop} (hx : PyData.strOk x = true) (ha : ys.all isStrV = true) (e : ((strsOf ys).any fun z => z == x) = b) (h : K b μ) : cmpT W n .In (.str x) (.tup ys) μ K :=
  cmp_in_tup (by simp [datV, PyData.canLay0, hx]) (strs_lay ha).1 (Nat.zero_le _) (by rw [(strs_lay ha).2, e]; exact h)
theorem cmp_in_lst' {x : Str} {ys : List V} {b : Bool} {K : Bool → Mem → Prop} (hx : PyData.strOk x = true) (ha : ys.all isStrV = true) (e : ((strsOf ys).any fun z => z == x) = b) (h : K b μ) : cmpT W n .In (.str x) (.lst ys) μ K :=
  cmp_in_lst (by simp [datV, PyData.canLay0, hx]) (strs_lay ha).1 (Nat.zero_le _) (by rw [(strs_lay ha).2, e]; exact h)
theorem cmp_notin_pr {l : Addr} {p : Pr} {ps : List Pr} {K : Bool → Mem → Prop} (hm : μ.lookup l = some (.lst (ps.map prV))) (h : K (!decide (p ∈ ps)) μ) : cmpT W n .NotIn (prV p) (.raw (.ref l)) μ K :=
  cmp_notin_mlst hm (by simp [prV, datV, datVs, PyData.canLay0, PyData.canLayAll0]) (canLay_prs' ps) (by simp [prV, datV, datVs, PyData.depth, PyData.depthAll]) (by rw [any_pr]; exact h)
end
section
variable {W : Wd}
theorem binds2X {fd : FuncData} {a b : Str} {x y : V} (h : ∀ s, (Mine.hd.heap_39 W.w.params).In s.heap → ∀ v u, BindsTo s fd ⟨[v, u], []⟩ [(a, v), (b, u)]) : Binds W fd [x, y] [(a, x), (b, y)] := fun g vs hv s X => by
  apply hv.cons_elim; intro _ _ r1 hv
  apply hv.cons_elim; intro _ _ r2 hv
  apply hv.nil_elim
  exact ⟨_, h s X _ _, .cons r1 (.cons r2 .nil)⟩
theorem binds4X {fd : FuncData} {a b c d : Str} {x y z z4 : V} (h : ∀ s, (Mine.hd.heap_39 W.w.params).In s.heap → ∀ v u w w4, BindsTo s fd ⟨[v, u, w, w4], []⟩ [(a, v), (b, u), (c, w), (d, w4)]) : Binds W fd [x, y, z, z4] [(a, x), (b, y), (c, z), (d, z4)] := fun g vs hv s X => by
  apply hv.cons_elim; intro _ _ r1 hv
  apply hv.cons_elim; intro _ _ r2 hv
  apply hv.cons_elim; intro _ _ r3 hv
  apply hv.cons_elim; intro _ _ r4 hv
  apply hv.nil_elim
  exact ⟨_, h s X _ _ _ _, .cons r1 (.cons r2 (.cons r3 (.cons r4 .nil)))⟩
/-- three given, the fourth a default text -/
theorem binds3d {fd : FuncData} {a b c d : Str} {x y z : V} {q : Str} {t : Tok} (h : ∀ s, (Mine.hd.heap_39 W.w.params).In s.heap → ∀ v u w, BindsTo s fd ⟨[v, u, w], []⟩ [(a, v), (b, u), (c, w), (d, .str q t)]) : Binds W fd [x, y, z] [(a, x), (b, y), (c, z), (d, .str q)] := fun g vs hv s X => by
  apply hv.cons_elim; intro _ _ r1 hv
  apply hv.cons_elim; intro _ _ r2 hv
  apply hv.cons_elim; intro _ _ r3 hv
  apply hv.nil_elim
  exact ⟨_, h s X _ _ _, .cons r1 (.cons r2 (.cons r3 (.cons (.str q t) .nil)))⟩
theorem binds6X {fd : FuncData} {a b c d e f : Str} {x y z z4 z5 z6 : V} (h : ∀ s, (Mine.hd.heap_39 W.w.params).In s.heap → ∀ v u w w4 w5 w6, BindsTo s fd ⟨[v, u, w, w4, w5, w6], []⟩ [(a, v), (b, u), (c, w), (d, w4), (e, w5), (f, w6)]) : Binds W fd [x, y, z, z4, z5, z6] [(a, x), (b, y), (c, z), (d, z4), (e, z5), (f, z6)] := fun g vs hv s X => by
  apply hv.cons_elim; intro _ _ r1 hv
  apply hv.cons_elim; intro _ _ r2 hv
  apply hv.cons_elim; intro _ _ r3 hv
  apply hv.cons_elim; intro _ _ r4 hv
  apply hv.cons_elim; intro _ _ r5 hv
  apply hv.cons_elim; intro _ _ r6 hv
  apply hv.nil_elim
  exact ⟨_, h s X _ _ _ _ _ _, .cons r1 (.cons r2 (.cons r3 (.cons r4 (.cons r5 (.cons r6 .nil)))))⟩
end
section
variable {W : Wd} {n : Nat} {F : Fm} {ρ : Loc} {μ : Mem} {pos : Pos}
theorem St_Sts {x : Str} {y : V} {xs : List Str} {ys : List V} {K K' : Loc → Mem → Prop} (h : wpSt W n F ρ μ x y K') (k : ∀ ρ' μ', K' ρ' μ' → wpSts W n F ρ' μ' xs ys K) : wpSts W n F ρ μ (x :: xs) (y :: ys) K :=
  Sts_cons ⟨fun A g s v hA hg hf hr Q hQ => h.go A g s v hA hg hf hr Q fun ρ' h' tk' hK => hQ ρ' h' tk' (k _ _ hK)⟩
theorem X_AssignSw2 {x1 x2 : Str} {p1 p2 tpos : Pos} {k} {value : Expr} {K : Out → Mem → Prop} (h : wpE W n F ρ μ value fun y μ' => ∃ a b, y = .tup [a, b] ∧ wpSt W n F ρ μ' x2 b fun ρ1 μ1 => wpSt W n F ρ1 μ1 x1 a fun ρ2 => K (.next ρ2))
    (hw : swappedStores [.Tuple [.Name x1 p1, .Name x2 p2] k tpos] value F.env = pure (some [x1, x2]) := by rfl)
    (hs : swapsWithSole [.Tuple [.Name x1 p1, .Name x2 p2] k tpos] value pos.line F.env = pure false := by rfl) : wpX W n F ρ μ (.Assign [.Tuple [.Name x1 p1, .Name x2 p2] k tpos] value pos) K :=
  X_AssignSwapped (names := [x1, x2]) (wpE_mono h fun y μ' h' => by
    obtain ⟨a, b, e, h2⟩ := h'
    exact ⟨[a, b], e, rfl, St_Sts h2 fun ρ' μ' h => St_Sts h fun ρ' μ' h => Sts_nil h⟩) hw hs
theorem X_AssignSw3 {x1 x2 x3 : Str} {p1 p2 p3 tpos : Pos} {k} {value : Expr} {K : Out → Mem → Prop} (h : wpE W n F ρ μ value fun y μ' => ∃ a b c, y = .tup [a, b, c] ∧ wpSt W n F ρ μ' x3 c fun ρ1 μ1 => wpSt W n F ρ1 μ1 x2 b fun ρ2 μ2 => wpSt W n F ρ2 μ2 x1 a fun ρ3 => K (.next ρ3))
    (hw : swappedStores [.Tuple [.Name x1 p1, .Name x2 p2, .Name x3 p3] k tpos] value F.env = pure (some [x1, x2, x3]) := by rfl)
    (hs : swapsWithSole [.Tuple [.Name x1 p1, .Name x2 p2, .Name x3 p3] k tpos] value pos.line F.env = pure false := by rfl) : wpX W n F ρ μ (.Assign [.Tuple [.Name x1 p1, .Name x2 p2, .Name x3 p3] k tpos] value pos) K :=
  X_AssignSwapped (names := [x1, x2, x3]) (wpE_mono h fun y μ' h' => by
    obtain ⟨a, b, c, e, h2⟩ := h'
    exact ⟨[a, b, c], e, rfl, St_Sts h2 fun ρ' μ' h => St_Sts h fun ρ' μ' h => St_Sts h fun ρ' μ' h => Sts_nil h⟩) hw hs
end
section
variable {W : Wd} {n : Nat} {F : Fm} {ρ : Loc} {μ : Mem} {pos : Pos}
noncomputable def forI (I : List V → Loc → Mem → Prop) (K : Out → Mem → Prop) (ys : List V) : Out → Mem → Prop := fun o μ => match o with
  | .next ρ => I ys ρ μ
  | .cont ρ => I ys ρ μ
  | .brk ρ => K (.next ρ) μ
  | .ret z => K (.ret z) μ
theorem forI_next {I : List V → Loc → Mem → Prop} {K : Out → Mem → Prop} {ys : List V} (h : I ys ρ μ) : forI I K ys (.next ρ) μ := h
theorem forI_brk {I : List V → Loc → Mem → Prop} {K : Out → Mem → Prop} {ys : List V} (h : K (.next ρ) μ) : forI I K ys (.brk ρ) μ := h
theorem forI_ret {I : List V → Loc → Mem → Prop} {K : Out → Mem → Prop} {ys : List V} {z : V} (h : K (.ret z) μ) : forI I K ys (.ret z) μ := h
theorem wpS_mono {ss : List Stmt} {K K' : Out → Mem → Prop} (h : wpS W n F ρ μ ss K) (k : ∀ o μ', K o μ' → K' o μ') : wpS W n F ρ μ ss K' :=
  ⟨fun A g s hA hg hf Q hQ => h.go A g s hA hg hf Q fun f o g' μ' h' tk' hK => hQ f o g' μ' h' tk' (k _ _ hK)⟩
theorem wpTg_mono {t : Expr} {y : V} {K K' : Loc → Mem → Prop} (h : wpTg W n F ρ μ t y K) (k : ∀ o μ', K o μ' → K' o μ') : wpTg W n F ρ μ t y K' :=
  ⟨fun A g s v hA hg hf hr Q hQ => h.go A g s v hA hg hf hr Q fun g' ρ' μ' h' tk' hK => hQ g' ρ' μ' h' tk' (k _ _ hK)⟩
/-- a for by an invariant over the items that are left -/
theorem forL_inv0 {target : Expr} {body : List Stmt} {K : Out → Mem → Prop} (I : List V → Loc → Mem → Prop) (hnil : ∀ ρ μ, I [] ρ μ → K (.next ρ) μ)
    (hcons : ∀ y ys ρ μ, I (y :: ys) ρ μ → wpTg W n F ρ μ target y fun ρ' μ' => wpS W n F ρ' μ' body (forI I K ys)) (xs : List V) : ∀ (ρ : Loc) (μ : Mem), I xs ρ μ → forL W n F target body K xs ρ μ := by
  induction xs with
  | nil => exact hnil
  | cons y ys ih =>
    refine fun ρ μ h => wpTg_mono (hcons y ys ρ μ h) fun ρ' μ' hb => wpS_mono hb fun o μ'' ho => ?_
    cases o with
    | next ρ'' => exact ih _ _ ho
    | cont ρ'' => exact ih _ _ ho
    | brk ρ'' => exact ho
    | ret z => exact ho
end
noncomputable abbrev Lk (ρ : Loc) (x : Str) (y : V) : Prop := List.lookup x ρ = some y
structure Bx (P : Prop) : Prop where
  out : P
section
variable {W : Wd} {n : Nat} {F : Fm} {ρ : Loc} {μ : Mem} {pos : Pos}
theorem mlookup_head {a : Addr} {m : M} : List.lookup a ((a, m) :: μ) = some m := by rw [List.lookup_cons, beq_self_eq_true]
theorem mlookup_tail {a b : Addr} {m : M} (h : b ≠ a) : List.lookup b ((a, m) :: μ) = List.lookup b μ := by rw [List.lookup_cons, beq_eq_false_iff_ne.mpr h]
/-- a value in a loop's head: a list that may still change is frozen -/
structure SeqF (K : List V → Mem → Prop) (y : V) (μ : Mem) : Prop where
  out : ∃ y' μ' ys, (y' = y ∧ μ' = μ ∨ Frz μ y y' μ') ∧ Seqs y' ys ∧ K ys μ'
theorem SeqF.tup {ys : List V} {K : List V → Mem → Prop} (h : K ys μ) : SeqF K (.tup ys) μ := ⟨_, _, _, .inl ⟨rfl, rfl⟩, .tup _, h⟩
theorem SeqF.lst {ys : List V} {K : List V → Mem → Prop} (h : K ys μ) : SeqF K (.lst ys) μ := ⟨_, _, _, .inl ⟨rfl, rfl⟩, .lst _, h⟩
theorem SeqF.frz {a : Addr} {ys : List V} {K : List V → Mem → Prop} (hm : μ.lookup a = some (.lst ys)) (h : K ys (mdel μ a)) : SeqF K (.raw (.ref a)) μ := ⟨_, _, _, .inr (.lst hm), .lst _, h⟩
theorem iter_seqF {target iter : Expr} {K : List V → Mem → Prop} (h : wpE W n F ρ μ iter (SeqF K)) : iterE W n F ρ μ target iter K :=
  iter_seq ⟨fun A g s hA hg hp Q hQ => h.go A g s hA hg hp _ fun v g₁ μ₁ h₁ tk₁ hR₁ hg₁ nx₁ => by
    obtain ⟨y, r, ⟨y', μ₂, ys, hf, hs, hK⟩⟩ := hR₁
    rcases hf with ⟨rfl, rfl⟩ | hf
    · exact hQ _ _ _ _ _ ⟨_, r, ys, hs, hK⟩ hg₁ nx₁
    · obtain ⟨g', hg', nx, k⟩ := hg₁.frz hf
      exact hQ _ _ _ _ _ ⟨y', k v r, ys, hs, hK⟩ hg' (nx₁.trans nx)⟩
end
section
variable {W : Wd} {n : Nat} {F : Fm} {ρ : Loc} {μ : Mem} {pos : Pos}
theorem compL_inv0 {target elt : Expr} {K : List V → Mem → Prop} (I0 : List V → List V → Loc → Mem → Prop) (hnil : ∀ acc ρ μ, I0 [] acc ρ μ → K acc μ)
    (hcons : ∀ I : List V → List V → Loc → Mem → Prop, (∀ xs acc ρ μ, I0 xs acc ρ μ → I xs acc ρ μ) → ∀ y ys acc ρ μ, I0 (y :: ys) acc ρ μ → wpTg W n F ρ μ target y fun ρ' μ' => wpE W n F ρ' μ' elt fun z μ₃ => I ys (acc ++ [z]) ρ' μ₃) (xs acc : List V) : ∀ (ρ : Loc) (μ : Mem), I0 xs acc ρ μ → compL W n F target [] elt K xs acc ρ μ := by
  induction xs generalizing acc with
  | nil => exact fun ρ μ h => hnil _ _ _ h
  | cons y ys ih => exact fun ρ μ h => compL_cons rfl (wpTg_mono (hcons I0 (fun _ _ _ _ h => h) y ys acc ρ μ h) fun ρ' μ' hb => wpE_mono hb fun z μ₃ hz => ih _ _ _ hz)
theorem wpB_mono {e : Expr} {K K' : Bool → Mem → Prop} (h : wpB W n F ρ μ e K) (k : ∀ b μ', K b μ' → K' b μ') : wpB W n F ρ μ e K' :=
  ⟨fun A g s hA hg hf Q hQ => h.go A g s hA hg hf Q fun b g' μ' h' tk' hK => hQ b g' μ' h' tk' (k _ _ hK)⟩
theorem compL_inv1 {target elt c : Expr} {K : List V → Mem → Prop} (I0 : List V → List V → Loc → Mem → Prop) (hnil : ∀ acc ρ μ, I0 [] acc ρ μ → K acc μ)
    (hcons : ∀ I : List V → List V → Loc → Mem → Prop, (∀ xs acc ρ μ, I0 xs acc ρ μ → I xs acc ρ μ) → ∀ y ys acc ρ μ, I0 (y :: ys) acc ρ μ → wpTg W n F ρ μ target y fun ρ' μ' => wpB W n F ρ' μ' c fun ok μ'' => if ok = true then wpE W n F ρ' μ'' elt fun z μ₃ => I ys (acc ++ [z]) ρ' μ₃ else I ys acc ρ' μ'') (xs acc : List V) : ∀ (ρ : Loc) (μ : Mem), I0 xs acc ρ μ → compL W n F target [c] elt K xs acc ρ μ := by
  induction xs generalizing acc with
  | nil => exact fun ρ μ h => hnil _ _ _ h
  | cons y ys ih =>
    intro ρ μ h
    refine compL_if rfl (wpTg_mono (hcons I0 (fun _ _ _ _ h => h) y ys acc ρ μ h) fun ρ' μ' hb => wpB_mono hb fun b μ₃ hz => ?_)
    cases b with
    | true => exact ite_t (wpE_mono (show wpE _ _ _ _ _ _ _ from hz) fun z μ₄ hz => ih _ _ _ hz)
    | false => exact ite_f (ih _ _ _ hz)
end
end
section
section
variable {W : Wd}
theorem of_Body_locals : OwnField W 146 "locals" := ⟨by k_is, by k_is, _, by k_is, by k_is⟩
theorem of_Body_blocks : OwnField W 146 "blocks" := ⟨by k_is, by k_is, _, by k_is, by k_is⟩
theorem osb_Body {nm : Str} (h : takerIn (Mine.hd.heap_39 W.w.params) 146 nm = some none) : OwnSet W 146 nm := ⟨by k_is, by k_is, h, by (show hasDictIn _ _ = true); k_is⟩
theorem os_Body_name : OwnSet W 146 "name" := osb_Body (by k_is)
theorem os_Body_arg_count : OwnSet W 146 "arg_count" := osb_Body (by k_is)
theorem os_Body_locals : OwnSet W 146 "locals" := osb_Body (by k_is)
theorem os_Body_blocks : OwnSet W 146 "blocks" := osb_Body (by k_is)
theorem os_Body_spots : OwnSet W 146 "spots" := osb_Body (by k_is)
theorem om_Body_type_of : OwnMeth W 146 "type_of" 107 := ⟨by k_is, by k_is, by k_is⟩
theorem of_Relation_varied : OwnField W 217 "varied" := ⟨by k_is, by k_is, _, by k_is, by k_is⟩
theorem of_Relation_pairs : OwnField W 217 "pairs" := ⟨by k_is, by k_is, _, by k_is, by k_is⟩
theorem osb_Relation {nm : Str} (h : takerIn (Mine.hd.heap_39 W.w.params) 217 nm = some none) : OwnSet W 217 nm := ⟨by k_is, by k_is, h, by (show hasDictIn _ _ = true); k_is⟩
theorem os_Relation_varied : OwnSet W 217 "varied" := osb_Relation (by k_is)
theorem os_Relation_pairs : OwnSet W 217 "pairs" := osb_Relation (by k_is)
theorem om_Relation_outlives : OwnMeth W 217 "outlives" 192 := ⟨by k_is, by k_is, by k_is⟩
theorem om_Relation_region : OwnMeth W 217 "region" 199 := ⟨by k_is, by k_is, by k_is⟩
theorem om_Relation_below : OwnMeth W 217 "below" 207 := ⟨by k_is, by k_is, by k_is⟩
theorem om_Relation_parts_below : OwnMeth W 217 "parts_below" 214 := ⟨by k_is, by k_is, by k_is⟩
theorem of_Constraints_body : OwnField W 344 "body" := ⟨by k_is, by k_is, _, by k_is, by k_is⟩
theorem of_Constraints_world : OwnField W 344 "world" := ⟨by k_is, by k_is, _, by k_is, by k_is⟩
theorem of_Constraints_varied : OwnField W 344 "varied" := ⟨by k_is, by k_is, _, by k_is, by k_is⟩
theorem of_Constraints_rows : OwnField W 344 "rows" := ⟨by k_is, by k_is, _, by k_is, by k_is⟩
theorem osb_Constraints {nm : Str} (h : takerIn (Mine.hd.heap_39 W.w.params) 344 nm = some none) : OwnSet W 344 nm := ⟨by k_is, by k_is, h, by (show hasDictIn _ _ = true); k_is⟩
theorem os_Constraints_body : OwnSet W 344 "body" := osb_Constraints (by k_is)
theorem os_Constraints_world : OwnSet W 344 "world" := osb_Constraints (by k_is)
theorem os_Constraints_varied : OwnSet W 344 "varied" := osb_Constraints (by k_is)
theorem os_Constraints_rows : OwnSet W 344 "rows" := osb_Constraints (by k_is)
theorem os_Constraints_next : OwnSet W 344 "next" := osb_Constraints (by k_is)
theorem om_Constraints_note : OwnMeth W 344 "note" 294 := ⟨by k_is, by k_is, by k_is⟩
theorem om_Constraints_type_of : OwnMeth W 344 "type_of" 301 := ⟨by k_is, by k_is, by k_is⟩
theorem om_Constraints_operand_type : OwnMeth W 344 "operand_type" 308 := ⟨by k_is, by k_is, by k_is⟩
theorem om_Constraints_operands : OwnMeth W 344 "operands" 315 := ⟨by k_is, by k_is, by k_is⟩
theorem om_Constraints_borrow : OwnMeth W 344 "borrow" 322 := ⟨by k_is, by k_is, by k_is⟩
theorem om_Constraints_through : OwnMeth W 344 "through" 329 := ⟨by k_is, by k_is, by k_is⟩
theorem om_Constraints_assign : OwnMeth W 344 "assign" 334 := ⟨by k_is, by k_is, by k_is⟩
theorem of_Adt_regions : OwnField W 391 "regions" := ⟨by k_is, by k_is, _, by k_is, by k_is⟩
theorem of_Adt_params : OwnField W 391 "params" := ⟨by k_is, by k_is, _, by k_is, by k_is⟩
theorem of_Adt_variants : OwnField W 391 "variants" := ⟨by k_is, by k_is, _, by k_is, by k_is⟩
theorem osb_Adt {nm : Str} (h : takerIn (Mine.hd.heap_39 W.w.params) 391 nm = some none) : OwnSet W 391 nm := ⟨by k_is, by k_is, h, by (show hasDictIn _ _ = true); k_is⟩
theorem os_Adt_path : OwnSet W 391 "path" := osb_Adt (by k_is)
theorem os_Adt_module : OwnSet W 391 "module" := osb_Adt (by k_is)
theorem os_Adt_regions : OwnSet W 391 "regions" := osb_Adt (by k_is)
theorem os_Adt_params : OwnSet W 391 "params" := osb_Adt (by k_is)
theorem os_Adt_variants : OwnSet W 391 "variants" := osb_Adt (by k_is)
theorem os_Adt_publics : OwnSet W 391 "publics" := osb_Adt (by k_is)
theorem os_Adt_is_enum : OwnSet W 391 "is_enum" := osb_Adt (by k_is)
theorem of_World_adts : OwnField W 420 "adts" := ⟨by k_is, by k_is, _, by k_is, by k_is⟩
theorem osb_World {nm : Str} (h : takerIn (Mine.hd.heap_39 W.w.params) 420 nm = some none) : OwnSet W 420 nm := ⟨by k_is, by k_is, h, by (show hasDictIn _ _ = true); k_is⟩
theorem os_World_modules : OwnSet W 420 "modules" := osb_World (by k_is)
theorem os_World_adts : OwnSet W 420 "adts" := osb_World (by k_is)
theorem os_World_variants : OwnSet W 420 "variants" := osb_World (by k_is)
theorem os_World_sigs : OwnSet W 420 "sigs" := osb_World (by k_is)
theorem os_World_traits : OwnSet W 420 "traits" := osb_World (by k_is)
theorem os_World_impls : OwnSet W 420 "impls" := osb_World (by k_is)
theorem os_World_consts : OwnSet W 420 "consts" := osb_World (by k_is)
theorem os_World_bodies : OwnSet W 420 "bodies" := osb_World (by k_is)
end
end
section
set_option genCtorIdx false
set_option backward.match.sparseCases false
/-! ## the walk as a machine: what comes next is a list of frames -/
inductive Ms where
  | v (y : V) | b (c : Bool) | l (ys : List V) | o (r : Out) | n
inductive Fr where
  | kv (K : V → Mem → Prop) | kb (K : Bool → Mem → Prop) | kl (K : List V → Mem → Prop) | ko (K : Out → Mem → Prop) | kr (K : V → Mem → Prop) | ku (K : Loc → Mem → Prop)
  | op1 (op : Operator) (r : Expr) | op2 (op : Operator) (a : V)
  | cm1 (op : CmpOp) (r : Expr) | cm2 (op : CmpOp) (a : V)
  | boo | att (nm : Str)
  | sub1 (value slice : Expr) | sub2 (value slice : Expr) (o : V)
  | cal1 (pos : Pos) (es : List Expr) | cal2 (f : V)
  | mth1 (pos : Pos) (nm : Str) (es : List Expr) | mth2 (f : V) (first : List V)
  | es1 (pos : Pos) (rest : List Expr) | es2 (y : V)
  | tup | lst | lstM | nt | neg | val
  | and (pos : Pos) (rest : List Expr) | or (pos : Pos) (rest : List Expr)
  | ife (body orelse : Expr) | ifx (body orelse : List Stmt)
  | ret | asg (x : Str) | nxt | exp | tgt (t : Expr) | tgs (ts : List Expr) (ys : List V)
  | seq (rest : List Stmt) | sqf | lop (target : Expr) (body : List Stmt)
  | ical1 (pos : Pos) (target : Expr) (es : List Expr) | ical2 (target : Expr) (f : V)
  | cmp (sc : Scope) (target : Expr) (ifs : List Expr) (elt : Expr)
  | el0 (KS : List V → Mem → Prop) (target elt : Expr) (ys acc : List V) | el1 (KS : List V → Mem → Prop) (target elt : Expr) (ys acc : List V)
  | sw2 (x1 x2 : Str) | sw3 (x1 x2 x3 : Str)
  | bdy (body : List Stmt) | fok (target : Expr) (body : List Stmt) (ys : List V)
  | asA (o : Expr) (attr : Str) | asB (attr : Str) (v : V)
noncomputable def Ms.onV (m : Ms) (f : V → Prop) : Prop := match m with | .v y => f y | _ => False
noncomputable def Ms.onB (m : Ms) (f : Bool → Prop) : Prop := match m with | .b y => f y | _ => False
noncomputable def Ms.onL (m : Ms) (f : List V → Prop) : Prop := match m with | .l y => f y | _ => False
noncomputable def Ms.onO (m : Ms) (f : Out → Prop) : Prop := match m with | .o y => f y | _ => False
noncomputable def Ms.onN (m : Ms) (f : Prop) : Prop := match m with | .n => f | _ => False
noncomputable section
section
variable (R : Ms → Loc → Mem → Prop)
noncomputable def kV (ρ : Loc) : V → Mem → Prop := fun y μ => R (.v y) ρ μ
noncomputable def kB (ρ : Loc) : Bool → Mem → Prop := fun c μ => R (.b c) ρ μ
noncomputable def kL (ρ : Loc) : List V → Mem → Prop := fun ys μ => R (.l ys) ρ μ
noncomputable def kO : Out → Mem → Prop := fun r μ => R (.o r) [] μ
noncomputable def kU : Loc → Mem → Prop := fun ρ μ => R .n ρ μ
end
section
variable (W : Wd) (n : Nat) (F : Fm)
noncomputable def D (R : Ms → Loc → Mem → Prop) (f : Fr) (m : Ms) (ρ : Loc) (μ : Mem) : Prop := match f with
  | .kv K => m.onV fun y => K y μ
  | .kb K => m.onB fun c => K c μ
  | .kl K => m.onL fun ys => K ys μ
  | .ko K => m.onO fun r => K r μ
  | .kr K => m.onO fun r => retK K r μ
  | .ku K => m.onN (K ρ μ)
  | .op1 op r => m.onV fun a => wpE W n F ρ μ r fun b μ' => opT W n (binaryOp op) a b μ' (kV R ρ)
  | .op2 op a => m.onV fun b => opT W n (binaryOp op) a b μ (kV R ρ)
  | .cm1 op r => m.onV fun a => wpE W n F ρ μ r fun b μ' => cmpT W n op a b μ' (kB R ρ)
  | .cm2 op a => m.onV fun b => cmpT W n op a b μ (kB R ρ)
  | .boo => m.onB fun c => R (.v (.bool c)) ρ μ
  | .att nm => m.onV fun y => attrT W n y nm μ (kV R ρ)
  | .sub1 value slice => m.onV fun o => wpE W n F ρ μ slice fun i μ' => subT W n value slice o i μ' (kV R ρ)
  | .sub2 value slice o => m.onV fun i => subT W n value slice o i μ (kV R ρ)
  | .cal1 pos es => m.onV fun f => Callable W f ∧ wpEs W n F ρ μ pos es fun xs μ' => wpF W n f xs μ' (kV R ρ)
  | .cal2 f => m.onL fun xs => wpF W n f xs μ (kV R ρ)
  | .mth1 pos nm es => m.onV fun y => ∃ f first, methT W n y nm μ f first ∧ Callable W f ∧ wpEs W n F ρ μ pos es fun xs μ' => wpF W n f (first ++ xs) μ' (kV R ρ)
  | .mth2 f first => m.onL fun xs => wpF W n f (first ++ xs) μ (kV R ρ)
  | .es1 pos rest => m.onV fun y => wpEs W n F ρ μ pos rest fun ys μ' => R (.l (y :: ys)) ρ μ'
  | .es2 y => m.onL fun ys => R (.l (y :: ys)) ρ μ
  | .tup => m.onL fun ys => R (.v (.tup ys)) ρ μ
  | .lst => m.onL fun ys => R (.v (.lst ys)) ρ μ
  | .lstM => m.onL fun ys => ∀ a, a ∉ addrs μ → R (.v (.raw (.ref a))) ρ ((a, .lst ys) :: μ)
  | .nt => m.onB fun c => R (.b (!c)) ρ μ
  | .neg => m.onV fun y => ∃ i, y = .int i ∧ R (.v (.int (-i))) ρ μ
  | .val => m.onV fun y => ∃ c, y = .bool c ∧ R (.b c) ρ μ
  | .and pos rest => m.onB fun c => if c = true then wpB W n F ρ μ (.BoolOp .And rest pos) (kB R ρ) else R (.b false) ρ μ
  | .or pos rest => m.onB fun c => if c = true then R (.b true) ρ μ else wpB W n F ρ μ (.BoolOp .Or rest pos) (kB R ρ)
  | .ife body orelse => m.onB fun c => if c = true then wpE W n F ρ μ body (kV R ρ) else wpE W n F ρ μ orelse (kV R ρ)
  | .ifx body orelse => m.onB fun c => if c = true then wpS W n F ρ μ body (kO R) else wpS W n F ρ μ orelse (kO R)
  | .ret => m.onV fun y => R (.o (.ret y)) [] μ
  | .asg x => m.onV fun y => wpSt W n F ρ μ x y (kU R)
  | .nxt => m.onN (R (.o (.next ρ)) [] μ)
  | .exp => m.onV fun _ => R (.o (.next ρ)) [] μ
  | .tgt t => m.onV fun y => wpTg W n F ρ μ t y (kU R)
  | .tgs ts ys => m.onN (wpTgs W n F ρ μ ts ys (kU R))
  | .seq rest => m.onO fun r => seqK W n F rest (kO R) r μ
  | .sqf => m.onV fun y => SeqF (kL R ρ) y μ
  | .lop target body => m.onL fun xs => forL W n F target body (kO R) xs ρ μ
  | .ical1 pos target es => m.onV fun f => Callable W f ∧ wpEs W n F ρ μ pos es fun xs μ' => itF W n f xs μ' target (kL R ρ)
  | .ical2 target f => m.onL fun xs => itF W n f xs μ target (kL R ρ)
  | .cmp sc target ifs elt => m.onL fun xs => xs.length ≤ sizeLine ∧ ∀ C, compL W n (compF sc F C) target ifs elt (kL R ρ) xs [] (subLoc ρ (freeNames sc)) μ
  | .el0 KS target elt ys acc => m.onN (wpE W n F ρ μ elt fun z μ' => compL W n F target [] elt KS ys (acc ++ [z]) ρ μ')
  | .el1 KS target elt ys acc => m.onV fun z => compL W n F target [] elt KS ys (acc ++ [z]) ρ μ
  | .sw2 x1 x2 => m.onV fun y => ∃ a b, y = .tup [a, b] ∧ wpSt W n F ρ μ x2 b fun ρ1 μ1 => wpSt W n F ρ1 μ1 x1 a (kU R)
  | .sw3 x1 x2 x3 => m.onV fun y => ∃ a b c, y = .tup [a, b, c] ∧ wpSt W n F ρ μ x3 c fun ρ1 μ1 => wpSt W n F ρ1 μ1 x2 b fun ρ2 μ2 => wpSt W n F ρ2 μ2 x1 a (kU R)
  | .bdy body => m.onN (wpS W n F ρ μ body (kO R))
  | .fok target body ys => m.onO fun r => forK W n F target body (kO R) ys r μ
  | .asA o attr => m.onV fun v => wpE W n F ρ μ o fun y μ₂ => ∃ x C dx fs, y = .obj x C dx ∧ OwnSet W C attr ∧ μ₂.lookup dx = some (.dct fs) ∧ fs.lookup attr = none ∧ fs.length < 1000 ∧ R (.o (.next ρ)) [] (mset μ₂ dx (.dct (fs ++ [(attr, v)])))
  | .asB attr v => m.onV fun y => ∃ x C dx fs, y = .obj x C dx ∧ OwnSet W C attr ∧ μ.lookup dx = some (.dct fs) ∧ fs.lookup attr = none ∧ fs.length < 1000 ∧ R (.o (.next ρ)) [] (mset μ dx (.dct (fs ++ [(attr, v)])))
noncomputable def C : List Fr → Ms → Loc → Mem → Prop
  | [] => fun _ _ _ => False
  | f :: s => D W n F (C s) f
/-- the machine's orders -/
inductive St where
  | ev (e : Expr) | tb (e : Expr) | es (pos : Pos) (es : List Expr) | ss (l : List Stmt) | xs (x : Stmt)
  | tg (t : Expr) (y : V) | tgs (ts : List Expr) (ys : List V) | sto (x : Str) (y : V) | rt (m : Ms)
noncomputable def sm (st : St) (ρ : Loc) (μ : Mem) (s : List Fr) : Prop := match st with
  | .ev e => wpE W n F ρ μ e (kV (C W n F s) ρ)
  | .tb e => wpB W n F ρ μ e (kB (C W n F s) ρ)
  | .es pos es => wpEs W n F ρ μ pos es (kL (C W n F s) ρ)
  | .ss l => wpS W n F ρ μ l (kO (C W n F s))
  | .xs x => wpX W n F ρ μ x (kO (C W n F s))
  | .tg t y => wpTg W n F ρ μ t y (kU (C W n F s))
  | .tgs ts ys => wpTgs W n F ρ μ ts ys (kU (C W n F s))
  | .sto x y => wpSt W n F ρ μ x y (kU (C W n F s))
  | .rt m => C W n F s m ρ μ
structure Stop (P : Prop) : Prop where
  out : P
end
/-! ## what the machine looks up -/
noncomputable def gtab : List (Str × Value) := [("parts_of", .ref 49), ("rebuilt", .ref 56), ("substituted", .ref 61), ("with_regions", .ref 66), ("regions_in", .ref 73), ("field_rows", .ref 80), ("fields_of", .ref 85), ("Body", .ref 146),
  ("field_type", .ref 157), ("projected", .ref 164), ("place_type", .ref 171), ("Relation", .ref 217), ("inner_way", .ref 228), ("related", .ref 235), ("Constraints", .ref 344), ("rvalue_regions", .ref 355), ("greatest_region", .ref 365),
  ("constraints_of", .ref 372), ("Adt", .ref 391), ("World", .ref 420), ("_law_pool", .ref 431), ("_law_take", .ref 438), ("_law_one", .ref 445), ("_law_type", .ref 453), ("_law_like", .ref 458), ("_law_pairs", .ref 463), ("_law_within", .ref 470),
  ("_law_place", .ref 477), ("_law_lent", .ref 484), ("_law_made", .ref 491), ("_law_right", .ref 496)]
noncomputable def btab : List (Str × Value) := [("tuple", .type "tuple"), ("len", .builtin "len"), ("int", .type "int"), ("list", .type "list"), ("max", .builtin "max"), ("isinstance", .builtin "isinstance"), ("range", .type "range"),
  ("enumerate", .type "enumerate"), ("str", .type "str")]
noncomputable def ftab : List (Addr × Str) := [(146, "locals"), (146, "blocks"), (217, "varied"), (217, "pairs"), (344, "body"), (344, "world"), (344, "varied"), (344, "rows"), (391, "regions"), (391, "params"), (391, "variants"), (420, "adts")]
noncomputable def mtab : List ((Addr × Str) × Addr) := [((146, "type_of"), 107), ((217, "outlives"), 192), ((217, "region"), 199), ((217, "below"), 207), ((217, "parts_below"), 214), ((344, "note"), 294), ((344, "type_of"), 301), ((344, "operand_type"), 308),
  ((344, "operands"), 315), ((344, "borrow"), 322), ((344, "through"), 329), ((344, "assign"), 334)]
theorem lookup_all {α β : Type} [BEq α] [LawfulBEq α] {P : α → β → Prop} {x : α} {y : β} {l : List (α × β)} (h : ∀ q ∈ l, P q.1 q.2) (e : l.lookup x = some y) : P x y := by
  induction l with
  | nil => cases e
  | cons a r ih =>
    rw [List.lookup_cons] at e
    cases q : x == a.1 with
    | true => rw [q] at e; cases e; rw [eq_of_beq q]; exact h _ (.head _)
    | false => rw [q] at e; exact ih (fun q hq => h q (.tail _ hq)) e
section
variable {W : Wd}
theorem gtab_all : ∀ q ∈ gtab, nsIn (Mine.hd.heap_39 W.w.params) mainGlobals q.1 = some (some q.2) ∧ keepIn (Mine.hd.heap_39 W.w.params) q.2 = true := by
  repeat' (first | exact List.forall_mem_nil _ | refine List.forall_mem_cons.mpr ⟨(show nsIn (Mine.hd.heap_39 W.w.params) mainGlobals _ = some (some (.ref _)) ∧ keepIn (Mine.hd.heap_39 W.w.params) (.ref _) = true from ⟨by k_is, by k_is⟩), ?_⟩)
theorem gtab_ok {x : Str} {v : Value} (e : gtab.lookup x = some v) : nsIn (Mine.hd.heap_39 W.w.params) mainGlobals x = some (some v) ∧ keepIn (Mine.hd.heap_39 W.w.params) v = true :=
  lookup_all (P := fun x v => nsIn (Mine.hd.heap_39 W.w.params) mainGlobals x = some (some v) ∧ keepIn (Mine.hd.heap_39 W.w.params) v = true) gtab_all e
theorem btab_ok {x : Str} {v : Value} (e : btab.lookup x = some v) : nsIn (Mine.hd.heap_39 W.w.params) mainGlobals x = some none ∧ bootBuiltins x = some v ∧ x ≠ "__name__" := by
  refine lookup_all (P := fun x v => nsIn (Mine.hd.heap_39 W.w.params) mainGlobals x = some none ∧ bootBuiltins x = some v ∧ x ≠ "__name__") ?_ e
  repeat' (first | (with_reducible first | exact List.forall_mem_nil _ | exact Boot.tuple | exact Boot.len | exact Boot.int | exact Boot.list | exact Boot.max | exact Boot.str | exact Boot.isinstance | exact Boot.range | exact Boot.enumerate) | refine List.forall_mem_cons.mpr ⟨⟨?_, ?_, ?_⟩, ?_⟩ | k_is | decide)
theorem mtab_ok {q : Addr × Str} {f : Addr} (e : mtab.lookup q = some f) : OwnMeth W q.1 q.2 f ∧ keepIn (Mine.hd.heap_39 W.w.params) (.ref f) = true := by
  refine lookup_all (P := fun q f => OwnMeth W q.1 q.2 f ∧ keepIn (Mine.hd.heap_39 W.w.params) (.ref f) = true) ?_ e
  repeat' (first | exact List.forall_mem_nil _ | refine List.forall_mem_cons.mpr ⟨⟨⟨?_, ?_, ?_⟩, ?_⟩, ?_⟩ | k_is)
theorem ftab_ok {q : Addr × Str} (e : ftab.elem q = true) : OwnField W q.1 q.2 := by
  suffices h : ∀ q ∈ ftab, OwnField W q.1 q.2 from h q (List.mem_of_elem_eq_true e)
  repeat' (first | exact List.forall_mem_nil _ | refine List.forall_mem_cons.mpr ⟨⟨by k_is, by k_is, _, by k_is, by k_is⟩, ?_⟩)
end
/-! ## what an order's form must show -/
noncomputable def plainA : Expr → Bool
  | .Starred _ _ => false
  | _ => true
noncomputable def noSup : Expr → Bool
  | .Call _ _ _ _ => false
  | _ => true
noncomputable def noComp : Expr → Bool
  | .ListComp _ _ _ _ | .SetComp _ _ _ _ | .DictComp _ _ _ _ _ => false
  | _ => true
noncomputable def noTup : Expr → Bool
  | .Tuple _ _ _ => false
  | _ => true
noncomputable def noSet : Expr → Bool
  | .Set _ _ _ => false
  | _ => true
noncomputable def noSlice : Expr → Bool
  | .Slice _ _ _ _ => false
  | _ => true
section
variable {env : Env} {pos : Pos}
theorem star1 {e : Expr} {r : List Expr} (h : plainA e = true) : starEach (e :: r) env = (false, eval e env) :: starEach r env := by cases e <;> first | rfl | cases h
theorem asg1 {e : Expr} {r : List Expr} (h : plainA e = true) : assignEach (e :: r) env = (false, assign e env) :: assignEach r env := by cases e <;> first | rfl | cases h
theorem starAny : ∀ {es : List Expr}, es.all plainA = true → (backTo pos (starEach es env)).any (·.1) = false ∧ (backTo pos (starEach es env)).all (!·.1) = true := by
  intro es
  induction es with
  | nil => exact fun _ => ⟨rfl, rfl⟩
  | cons e r ih =>
    intro h
    rw [List.all_cons, Bool.and_eq_true] at h
    rw [star1 h.1]
    exact ⟨(ih h.2).1, (ih h.2).2⟩
theorem asgAny : ∀ {es : List Expr}, es.all plainA = true → (assignEach es env).findIdx? (·.1) = none := by
  intro es
  induction es with
  | nil => exact fun _ => rfl
  | cons e r ih =>
    intro h
    rw [List.all_cons, Bool.and_eq_true] at h
    rw [asg1 h.1, List.findIdx?_cons, ih h.2]
    rfl
theorem base0 {o : Expr} {nm : Str} {t : Sem Value} (h : noSup o = true) : attributeBase o nm env t = t := by cases o <;> first | rfl | cases h
theorem swaps0 {v : Expr} {t : Option Expr} {l : Nat} (h : noComp v = true) : swapsWith v t l env = pure false := by cases v <;> first | rfl | cases h
theorem stores0 {ts : List Expr} {k : Nat} {v : Expr} (h : noTup v = true) : swappedStores [.Tuple ts k pos] v env = pure none := by cases v <;> first | rfl | cases h
theorem folded0 {v : Expr} (h : noSet v = true) (x : Value) : foldedSetIterable v env x = pure x := by cases v <;> first | rfl | cases h
theorem subs0 {v : Expr} (h : noSlice v = true) (o i : Value) : subscripted v false o i = operate [o, i] (getItem o i) := by cases v <;> first | rfl | cases h
theorem mcall0 {o e : Expr} {nm : Str} {apos : Pos} {args : List Expr} (h1 : noSup o = true) (h2 : (e :: args).all plainA = true) (h3 : (apos.endLine == pos.line) = true) (h4 : Nat.blt (e :: args).length 30 = true) :
    eval (.Call (.Attribute o nm apos) (e :: args) [] pos) env = (do
      let ov ← eval o env
      standAt apos.atName
      let (f, first) ← holding [ov] (getMethod ov nm (do return (← importBound o env).getD true))
      callWith pos f first (backTo pos (starEach (e :: args) env)) (backToKw pos (keywordEach [] env))) := by
  show (attributeBase o nm env (eval o env) >>= fun ov => standAt apos.atName >>= fun _ => methodCall o nm apos pos env ov ((e :: args).length + 0) (backTo pos (starEach (e :: args) env)) (backToKw pos (keywordEach [] env))) = _
  rw [base0 h1]
  congr 1; funext ov; congr 1; funext _
  have h5 : methodCallForm ((e :: args).length + 0) (backTo pos (starEach (e :: args) env)) (backToKw pos (keywordEach [] env)) = true := by
    unfold methodCallForm
    rw [(starAny h2).2]
    show (true && true && decide _) = true
    simpa using Nat.blt_eq ▸ h4
  unfold methodCall
  rw [h5]
  unfold calleeOf methodCallPos
  rw [h3]
  rfl
end
/-! ## the steps -/
section
variable (W : Wd) (n : Nat) (F : Fm) (R : St → Loc → Mem → List Fr → Prop)
noncomputable abbrev stopE (e : Expr) (ρ : Loc) (μ : Mem) (s : List Fr) : Prop := Stop (wpE W n F ρ μ e (kV (C W n F s) ρ))
noncomputable abbrev stopX (x : Stmt) (ρ : Loc) (μ : Mem) (s : List Fr) : Prop := Stop (wpX W n F ρ μ x (kO (C W n F s)))
/-- a value that no step takes -/
noncomputable def stopV (f : Fr) (y : V) (ρ : Loc) (μ : Mem) (s : List Fr) : Prop := match f with
  | .kv K => Stop (K y μ)
  | .op2 op a => Stop (opT W n (binaryOp op) a y μ (kV (C W n F s) ρ))
  | .cm2 op a => Stop (cmpT W n op a y μ (kB (C W n F s) ρ))
  | .att nm => Stop (attrT W n y nm μ (kV (C W n F s) ρ))
  | .sub2 v i o => Stop (subT W n v i o y μ (kV (C W n F s) ρ))
  | .cal1 pos es => Stop (Callable W y ∧ wpEs W n F ρ μ pos es (kL (C W n F (.cal2 y :: s)) ρ))
  | .mth1 pos nm es => Stop (∃ f first, methT W n y nm μ f first ∧ Callable W f ∧ wpEs W n F ρ μ pos es (kL (C W n F (.mth2 f first :: s)) ρ))
  | .ical1 pos target es => Stop (Callable W y ∧ wpEs W n F ρ μ pos es (kL (C W n F (.ical2 target y :: s)) ρ))
  | .sqf => Stop (SeqF (kL (C W n F s) ρ) y μ)
  | .neg => Stop (∃ i, y = .int i ∧ kV (C W n F s) ρ (.int (-i)) μ)
  | .val => Stop (∃ c, y = .bool c ∧ kB (C W n F s) ρ c μ)
  | .asB attr v => Stop (∃ x C' dx fs, y = .obj x C' dx ∧ OwnSet W C' attr ∧ μ.lookup dx = some (.dct fs) ∧ fs.lookup attr = none ∧ fs.length < 1000 ∧ kO (C W n F s) (.next ρ) (mset μ dx (.dct (fs ++ [(attr, v)]))))
  | .sw2 x1 x2 => Stop (∃ a b, y = .tup [a, b] ∧ wpSt W n F ρ μ x2 b fun ρ1 μ1 => wpSt W n F ρ1 μ1 x1 a (kU (C W n F s)))
  | .sw3 x1 x2 x3 => Stop (∃ a b c, y = .tup [a, b, c] ∧ wpSt W n F ρ μ x3 c fun ρ1 μ1 => wpSt W n F ρ1 μ1 x2 b fun ρ2 μ2 => wpSt W n F ρ2 μ2 x1 a (kU (C W n F s)))
  | f => Stop (kV (C W n F (f :: s)) ρ y μ)
/-- a truth that is not told: the form of a case split -/
noncomputable def stopT (c : Bool) (ρ : Loc) (μ : Mem) : List Fr → Prop
  | [] => Stop False
  | f :: s => match f with
    | .ifx a b => Stop (if c = true then wpS W n F ρ μ a (kO (C W n F s)) else wpS W n F ρ μ b (kO (C W n F s)))
    | .ife a b => Stop (if c = true then wpE W n F ρ μ a (kV (C W n F s) ρ) else wpE W n F ρ μ b (kV (C W n F s) ρ))
    | .and pos rest => Stop (if c = true then wpB W n F ρ μ (.BoolOp .And rest pos) (kB (C W n F s) ρ) else kB (C W n F s) ρ false μ)
    | .or pos rest => Stop (if c = true then kB (C W n F s) ρ true μ else wpB W n F ρ μ (.BoolOp .Or rest pos) (kB (C W n F s) ρ))
    | .nt => stopT (!c) ρ μ s
    | .boo => Stop (kV (C W n F s) ρ (.bool c) μ)
    | .kb K => Stop (K c μ)
    | f => Stop (kB (C W n F (f :: s)) ρ c μ)
noncomputable def stopS (st : St) (ρ : Loc) (μ : Mem) (s : List Fr) : Prop := match st with
  | .ev e => stopE W n F e ρ μ s
  | .tb e => Stop (wpB W n F ρ μ e (kB (C W n F s) ρ))
  | .es pos es => Stop (wpEs W n F ρ μ pos es (kL (C W n F s) ρ))
  | .ss l => Stop (wpS W n F ρ μ l (kO (C W n F s)))
  | .xs x => Stop (wpX W n F ρ μ x (kO (C W n F s)))
  | .tg t y => Stop (wpTg W n F ρ μ t y (kU (C W n F s)))
  | .tgs ts ys => Stop (wpTgs W n F ρ μ ts ys (kU (C W n F s)))
  | .sto x y => Stop (wpSt W n F ρ μ x y (kU (C W n F s)))
  | .rt m => match s with
    | [] => Stop False
    | f :: s => match m with
      | .v y => stopV W n F f y ρ μ s
      | .b c => stopT W n F c ρ μ (f :: s)
      | .l ys => Stop (kL (C W n F (f :: s)) ρ ys μ)
      | .o r => Stop (kO (C W n F (f :: s)) r μ)
      | .n => Stop (kU (C W n F (f :: s)) ρ μ)
structure Go (P : Prop) : Prop where
  out : P
noncomputable def stLk (x : Str) (pos : Pos) (ρ : Loc) (μ : Mem) (s : List Fr) : Prop := (ρ.lookup x).elim (stopE W n F (.Name x pos) ρ μ s) fun y => R (.rt (.v y)) ρ μ s
noncomputable def stName (x : Str) (pos : Pos) (ρ : Loc) (μ : Mem) (s : List Fr) : Prop :=
  bif x == ("__debug__" : Str) then stopE W n F (.Name x pos) ρ μ s else (F.env.kindOf x).elim (stopE W n F (.Name x pos) ρ μ s) fun k => match k with
    | .local => stLk W n F R x pos ρ μ s
    | .cell => stLk W n F R x pos ρ μ s
    | .free => bif x == ("__classdict__" : Str) then stopE W n F (.Name x pos) ρ μ s else stLk W n F R x pos ρ μ s
    | .globalImplicit => (gtab.lookup x).elim ((btab.lookup x).elim (stopE W n F (.Name x pos) ρ μ s) fun v => R (.rt (.v (.raw v))) ρ μ s) fun v => R (.rt (.v (.raw v))) ρ μ s
    | .globalExplicit => stopE W n F (.Name x pos) ρ μ s
noncomputable def stConst (c : Const) (k : Nat) (pos : Pos) (ρ : Loc) (μ : Mem) (s : List Fr) : Prop := match c with
  | .int i => R (.rt (.v (.int i))) ρ μ s
  | .str x => R (.rt (.v (.str x))) ρ μ s
  | .bool b => R (.rt (.v (.bool b))) ρ μ s
  | .none => R (.rt (.v .none)) ρ μ s
  | c => stopE W n F (.Constant c k pos) ρ μ s
noncomputable def spec1 (x : Str) : Bool := x == ("dict" : Str) || x == ("sorted" : Str) || x == ("zip" : Str)
noncomputable def stCall (f : Expr) (args : List Expr) (kws : List Keyword) (pos : Pos) (ρ : Loc) (μ : Mem) (s : List Fr) : Prop := match kws with
  | _ :: _ => stopE W n F (.Call f args kws pos) ρ μ s
  | [] => match args with
    | [] => stopE W n F (.Call f [] [] pos) ρ μ s
    | e :: as => bif (e :: as).all plainA then (match f with
        | .Name x p => bif spec1 x then stopE W n F (.Call (.Name x p) (e :: as) [] pos) ρ μ s else R (.ev (.Name x p)) ρ μ (.cal1 pos (e :: as) :: s)
        | .Attribute o nm p => bif noSup o && (p.endLine == pos.line && Nat.blt (e :: as).length 30) then R (.ev o) ρ μ (.mth1 pos nm (e :: as) :: s) else stopE W n F (.Call (.Attribute o nm p) (e :: as) [] pos) ρ μ s
        | f => stopE W n F (.Call f (e :: as) [] pos) ρ μ s) else stopE W n F (.Call f (e :: as) [] pos) ρ μ s
noncomputable def rangeCall (iter : Expr) : Option (Str × Pos × Expr × List Expr × Pos) := match iter with
  | .Call f args kws pos => (match f with
    | .Name x p => (match kws with
      | _ :: _ => none
      | [] => (match args with
        | [] => none
        | e :: as => bif (x == ("range" : Str) || x == ("enumerate" : Str)) && (e :: as).all plainA then some (x, p, e, as, pos) else none))
    | _ => none)
  | _ => none
/-- the head of a for, of a comprehension -/
noncomputable def stIter (iter : Expr) (alt : Prop) (target : Expr) (ρ : Loc) (μ : Mem) (s : List Fr) : Prop :=
  bif noSet iter then (rangeCall iter).elim (R (.ev iter) ρ μ (.sqf :: s)) fun q => (match q with
    | (x, p, e, as, pos) => R (.ev (.Name x p)) ρ μ (.ical1 pos target (e :: as) :: s)) else alt
noncomputable def compOkB (sc : Scope) (F : Fm) : Bool := (sc.kind == .function && sc.names.all fun q => q.2 != .local || sc.names.lookup q.1 == some .local) && ((sc.names.all fun q => q.2 != .cell) && ((freeNames sc).all fun x => (F.env.cells.lookup x).isSome && isCellKind (F.env.kindOf x)) && (freeNames sc).all fun x => isCellKind ((relabel sc F.env).names.lookup x))
noncomputable def stComp (elt : Expr) (gs : List Comprehension) (sc : Scope) (pos : Pos) (ρ : Loc) (μ : Mem) (s : List Fr) : Prop := match gs with
  | [⟨target, iter, ifs, a⟩] => bif a == 0 && compOkB sc F then stIter R iter (stopE W n F (.ListComp elt [⟨target, iter, ifs, a⟩] sc pos) ρ μ s) target ρ μ (.cmp sc target ifs elt :: .lst :: s) else stopE W n F (.ListComp elt [⟨target, iter, ifs, a⟩] sc pos) ρ μ s
  | gs => stopE W n F (.ListComp elt gs sc pos) ρ μ s
noncomputable def stCmp (l : Expr) (ops : List CmpOp) (cs : List Expr) (alt : Prop) (ρ : Loc) (μ : Mem) (s : List Fr) : Prop := match ops with
  | [op] => (match cs with
    | [r] => bif behindInMarks op r then alt else R (.ev l) ρ μ (.cm1 op r :: s)
    | _ => alt)
  | _ => alt
noncomputable def stE (e : Expr) (ρ : Loc) (μ : Mem) (s : List Fr) : Prop := match e with
  | .Constant c k pos => stConst W n F R c k pos ρ μ s
  | .Name x pos => stName W n F R x pos ρ μ s
  | .BinOp l op r _ => R (.ev l) ρ μ (.op1 op r :: s)
  | .UnaryOp op x pos => (match op with
    | .USub => R (.ev x) ρ μ (.neg :: s)
    | op => stopE W n F (.UnaryOp op x pos) ρ μ s)
  | .IfExp t b o _ => R (.tb t) ρ μ (.ife b o :: s)
  | .Compare l ops cs pos => stCmp R l ops cs (stopE W n F (.Compare l ops cs pos) ρ μ s) ρ μ (.boo :: s)
  | .Call f args kws pos => stCall W n F R f args kws pos ρ μ s
  | .Attribute v nm pos => bif noSup v then R (.ev v) ρ μ (.att nm :: s) else stopE W n F (.Attribute v nm pos) ρ μ s
  | .Subscript v i pos => bif noSlice i then R (.ev v) ρ μ (.sub1 v i :: s) else stopE W n F (.Subscript v i pos) ρ μ s
  | .Tuple es k pos => bif Nat.ble es.length 100 then R (.es pos es) ρ μ (.tup :: s) else stopE W n F (.Tuple es k pos) ρ μ s
  | .ListComp elt gs sc pos => stComp W n F R elt gs sc pos ρ μ s
  | e => stopE W n F e ρ μ s
noncomputable abbrev stopB (e : Expr) (ρ : Loc) (μ : Mem) (s : List Fr) : Prop := Stop (wpB W n F ρ μ e (kB (C W n F s) ρ))
noncomputable def stT (e : Expr) (ρ : Loc) (μ : Mem) (s : List Fr) : Prop := match e with
  | .UnaryOp op x pos => (match op with
    | .Not => R (.tb x) ρ μ (.nt :: s)
    | op => stopB W n F (.UnaryOp op x pos) ρ μ s)
  | .BoolOp op vs pos => (match op with
    | .And => (match vs with
      | [] => R (.rt (.b true)) ρ μ s
      | x :: r => R (.tb x) ρ μ (.and pos r :: s))
    | .Or => (match vs with
      | [] => R (.rt (.b false)) ρ μ s
      | x :: r => R (.tb x) ρ μ (.or pos r :: s)))
  | .Compare l ops cs pos => stCmp R l ops cs (stopB W n F (.Compare l ops cs pos) ρ μ s) ρ μ s
  | .Name x pos => R (.ev (.Name x pos)) ρ μ (.val :: s)
  | .Call f a k pos => R (.ev (.Call f a k pos)) ρ μ (.val :: s)
  | .Subscript v i pos => R (.ev (.Subscript v i pos)) ρ μ (.val :: s)
  | e => stopB W n F e ρ μ s
noncomputable def stIx (ys : List V) (k : Int) (alt : Prop) (ρ : Loc) (μ : Mem) (s : List Fr) : Prop := match k with
  | .ofNat j => bif Nat.ble j 1000000 then (ys[j]?).elim alt fun y => R (.rt (.v y)) ρ μ s else alt
  | .negSucc _ => alt
noncomputable def stSub (value slice : Expr) (o i : V) (ρ : Loc) (μ : Mem) (s : List Fr) : Prop := match o with
  | .tup ys => (match i with
    | .int k => bif noSlice slice then stIx R ys k (Stop (subT W n value slice o i μ (kV (C W n F s) ρ))) ρ μ s else Stop (subT W n value slice o i μ (kV (C W n F s) ρ))
    | i => Stop (subT W n value slice o i μ (kV (C W n F s) ρ)))
  | .lst ys => (match i with
    | .int k => bif noSlice slice then stIx R ys k (Stop (subT W n value slice o i μ (kV (C W n F s) ρ))) ρ μ s else Stop (subT W n value slice o i μ (kV (C W n F s) ρ))
    | i => Stop (subT W n value slice o i μ (kV (C W n F s) ρ)))
  | .dct es => (match i with
    | .str nm => bif noSlice slice then ((es.lookup nm).elim (Stop (subT W n value slice o i μ (kV (C W n F s) ρ))) fun y => R (.rt (.v y)) ρ μ s) else Stop (subT W n value slice o i μ (kV (C W n F s) ρ))
    | i => Stop (subT W n value slice o i μ (kV (C W n F s) ρ)))
  | o => Stop (subT W n value slice o i μ (kV (C W n F s) ρ))
noncomputable def stOp (op : Operator) (a b : V) (ρ : Loc) (μ : Mem) (s : List Fr) : Prop := match op with
  | .Add => (match a with
    | .int i => (match b with
      | .int j => R (.rt (.v (.int (i + j)))) ρ μ s
      | b => Stop (opT W n (binaryOp op) a b μ (kV (C W n F s) ρ)))
    | a => Stop (opT W n (binaryOp op) a b μ (kV (C W n F s) ρ)))
  | .Sub => (match a with
    | .int i => (match b with
      | .int j => R (.rt (.v (.int (i - j)))) ρ μ s
      | b => Stop (opT W n (binaryOp op) a b μ (kV (C W n F s) ρ)))
    | a => Stop (opT W n (binaryOp op) a b μ (kV (C W n F s) ρ)))
  | op => Stop (opT W n (binaryOp op) a b μ (kV (C W n F s) ρ))
noncomputable def stCm (op : CmpOp) (a b : V) (ρ : Loc) (μ : Mem) (s : List Fr) : Prop := match op with
  | .Eq => (match a with
    | .str x => (match b with
      | .str y => R (.rt (.b (x == y))) ρ μ s
      | b => Stop (cmpT W n op a b μ (kB (C W n F s) ρ)))
    | .int i => (match b with
      | .int j => stopT W n F (i == j) ρ μ s
      | b => Stop (cmpT W n op a b μ (kB (C W n F s) ρ)))
    | a => Stop (cmpT W n op a b μ (kB (C W n F s) ρ)))
  | .NotEq => (match a with
    | .str x => (match b with
      | .str y => R (.rt (.b (x != y))) ρ μ s
      | b => Stop (cmpT W n op a b μ (kB (C W n F s) ρ)))
    | .int i => (match b with
      | .int j => stopT W n F (i != j) ρ μ s
      | b => Stop (cmpT W n op a b μ (kB (C W n F s) ρ)))
    | a => Stop (cmpT W n op a b μ (kB (C W n F s) ρ)))
  | op => Stop (cmpT W n op a b μ (kB (C W n F s) ρ))
noncomputable def stAtt (nm : Str) (y : V) (ρ : Loc) (μ : Mem) (s : List Fr) : Prop := match y with
  | .inst c fs => bif ftab.elem (c, nm) then ((fs.lookup nm).elim (Stop (attrT W n y nm μ (kV (C W n F s) ρ))) fun v => bif vHanded v then R (.rt (.v v)) ρ μ s else Stop (attrT W n y nm μ (kV (C W n F s) ρ))) else Stop (attrT W n y nm μ (kV (C W n F s) ρ))
  | y => Stop (attrT W n y nm μ (kV (C W n F s) ρ))
noncomputable def okCal (f : V) : Bool := match f with
  | .raw v => (match v with
    | .ref a => gtab.any fun q => q.2 == .ref a
    | .builtin _ => true
    | .type _ => true
    | _ => false)
  | .clo _ _ => true
  | _ => false
noncomputable def stMth (pos : Pos) (nm : Str) (es : List Expr) (y : V) (ρ : Loc) (μ : Mem) (s : List Fr) : Prop := match y with
  | .inst c fs => (mtab.lookup (c, nm)).elim (stopV W n F (.mth1 pos nm es) y ρ μ s) fun f => (fs.lookup nm).elim (R (.es pos es) ρ μ (.mth2 (.raw (.ref f)) [y] :: s)) fun _ => stopV W n F (.mth1 pos nm es) y ρ μ s
  | .dct _ => bif nm == ("get" : Str) then R (.es pos es) ρ μ (.mth2 (.raw (.builtin "dict.get")) [y] :: s) else stopV W n F (.mth1 pos nm es) y ρ μ s
  | y => stopV W n F (.mth1 pos nm es) y ρ μ s
noncomputable def locB (x : Str) : Bool := F.env.kindOf x == some .local
noncomputable def stVa (f : Fr) (y : V) (ρ : Loc) (μ : Mem) (s : List Fr) : Prop := match f with
  | .kv K => Stop (K y μ)
  | .op1 op r => R (.ev r) ρ μ (.op2 op y :: s)
  | .op2 op a => stOp W n F R op a y ρ μ s
  | .cm1 op r => R (.ev r) ρ μ (.cm2 op y :: s)
  | .cm2 op a => stCm W n F R op a y ρ μ s
  | .att nm => stAtt W n F R nm y ρ μ s
  | .sub1 v i => R (.ev i) ρ μ (.sub2 v i y :: s)
  | .sub2 v i o => stSub W n F R v i o y ρ μ s
  | .cal1 pos es => bif okCal y then R (.es pos es) ρ μ (.cal2 y :: s) else stopV W n F (.cal1 pos es) y ρ μ s
  | .mth1 pos nm es => stMth W n F R pos nm es y ρ μ s
  | .es1 pos rest => R (.es pos rest) ρ μ (.es2 y :: s)
  | .neg => (match y with
    | .int i => R (.rt (.v (.int (-i)))) ρ μ s
    | y => stopV W n F .neg y ρ μ s)
  | .val => (match y with
    | .bool c => stopT W n F c ρ μ s
    | y => stopV W n F .val y ρ μ s)
  | .ret => R (.rt (.o (.ret y))) [] μ s
  | .asg x => R (.sto x y) ρ μ s
  | .exp => R (.rt (.o (.next ρ))) [] μ s
  | .tgt t => R (.tg t y) ρ μ s
  | .sqf => (match y with
    | .tup ys => R (.rt (.l ys)) ρ μ s
    | .lst ys => R (.rt (.l ys)) ρ μ s
    | y => stopV W n F .sqf y ρ μ s)
  | .ical1 pos target es => bif okCal y then R (.es pos es) ρ μ (.ical2 target y :: s) else stopV W n F (.ical1 pos target es) y ρ μ s
  | .el1 KS target elt ys acc => Stop (compL W n F target [] elt KS ys (acc ++ [y]) ρ μ)
  | .sw2 x1 x2 => (match y with
    | .tup zs => (match zs with
      | [a, b] => bif locB F x1 && locB F x2 then R (.rt .n) ((x1, a) :: (x2, b) :: ρ) μ s else stopV W n F (.sw2 x1 x2) y ρ μ s
      | _ => stopV W n F (.sw2 x1 x2) y ρ μ s)
    | y => stopV W n F (.sw2 x1 x2) y ρ μ s)
  | .sw3 x1 x2 x3 => (match y with
    | .tup zs => (match zs with
      | [a, b, c] => bif locB F x1 && (locB F x2 && locB F x3) then R (.rt .n) ((x1, a) :: (x2, b) :: (x3, c) :: ρ) μ s else stopV W n F (.sw3 x1 x2 x3) y ρ μ s
      | _ => stopV W n F (.sw3 x1 x2 x3) y ρ μ s)
    | y => stopV W n F (.sw3 x1 x2 x3) y ρ μ s)
  | .asA o attr => R (.ev o) ρ μ (.asB attr y :: s)
  | f => stopV W n F f y ρ μ s
noncomputable def stBo (f : Fr) (c : Bool) (ρ : Loc) (μ : Mem) (s : List Fr) : Prop := match f with
  | .kb K => Stop (K c μ)
  | .boo => bif c then R (.rt (.v (.bool true))) ρ μ s else R (.rt (.v (.bool false))) ρ μ s
  | .nt => R (.rt (.b (!c))) ρ μ s
  | .and pos rest => bif c then R (.tb (.BoolOp .And rest pos)) ρ μ s else R (.rt (.b false)) ρ μ s
  | .or pos rest => bif c then R (.rt (.b true)) ρ μ s else R (.tb (.BoolOp .Or rest pos)) ρ μ s
  | .ife body orelse => bif c then R (.ev body) ρ μ s else R (.ev orelse) ρ μ s
  | .ifx body orelse => bif c then R (.ss body) ρ μ s else R (.ss orelse) ρ μ s
  | f => Stop (kB (C W n F (f :: s)) ρ c μ)
noncomputable def stLi (f : Fr) (ys : List V) (ρ : Loc) (μ : Mem) (s : List Fr) : Prop := match f with
  | .kl K => Stop (K ys μ)
  | .es2 y => R (.rt (.l (y :: ys))) ρ μ s
  | .tup => R (.rt (.v (.tup ys))) ρ μ s
  | .lst => R (.rt (.v (.lst ys))) ρ μ s
  | .cal2 f => Stop (wpF W n f ys μ (kV (C W n F s) ρ))
  | .mth2 f first => Stop (wpF W n f (first ++ ys) μ (kV (C W n F s) ρ))
  | .lop target body => Stop (forL W n F target body (kO (C W n F s)) ys ρ μ)
  | .ical2 target f => Stop (itF W n f ys μ target (kL (C W n F s) ρ))
  | .lstM => Stop (∀ a, a ∉ addrs μ → kV (C W n F s) ρ (.raw (.ref a)) ((a, .lst ys) :: μ))
  | .cmp sc target ifs elt => Stop (ys.length ≤ sizeLine ∧ ∀ C', compL W n (compF sc F C') target ifs elt (kL (C W n F s) ρ) ys [] (subLoc ρ (freeNames sc)) μ)
  | f => Stop (kL (C W n F (f :: s)) ρ ys μ)
noncomputable def stOu (f : Fr) (r : Out) (ρ : Loc) (μ : Mem) (s : List Fr) : Prop := match f with
  | .ko K => Stop (K r μ)
  | .kr K => (match r with
    | .ret y => Stop (K y μ)
    | .next _ => Stop (K .none μ)
    | r => Stop (retK K r μ))
  | .fok target body ys => (match r with
    | .next ρ' => Stop (forL W n F target body (kO (C W n F s)) ys ρ' μ)
    | .cont ρ' => Stop (forL W n F target body (kO (C W n F s)) ys ρ' μ)
    | .brk ρ' => R (.rt (.o (.next ρ'))) [] μ s
    | .ret z => R (.rt (.o (.ret z))) [] μ s)
  | .seq rest => (match r with
    | .next ρ' => R (.ss rest) ρ' μ s
    | r => R (.rt (.o r)) [] μ s)
  | f => Stop (kO (C W n F (f :: s)) r μ)
noncomputable def stNx (f : Fr) (ρ : Loc) (μ : Mem) (s : List Fr) : Prop := match f with
  | .ku K => Stop (K ρ μ)
  | .nxt => R (.rt (.o (.next ρ))) [] μ s
  | .tgs ts ys => R (.tgs ts ys) ρ μ s
  | .bdy body => R (.ss body) ρ μ s
  | .el0 KS target elt ys acc => R (.ev elt) ρ μ (.el1 KS target elt ys acc :: s)
  | f => Stop (kU (C W n F (f :: s)) ρ μ)
noncomputable def stRt (m : Ms) (ρ : Loc) (μ : Mem) (s : List Fr) : Prop := match s with
  | [] => Stop False
  | f :: s => (match m with
    | .v y => stVa W n F R f y ρ μ s
    | .b c => stBo W n F R f c ρ μ s
    | .l ys => stLi W n F R f ys ρ μ s
    | .o r => stOu W n F R f r ρ μ s
    | .n => stNx W n F R f ρ μ s)
noncomputable def stAs (ts : List Expr) (v : Expr) (pos : Pos) (ρ : Loc) (μ : Mem) (s : List Fr) : Prop := match ts with
  | [t] => bif noComp v then (match t with
    | .Name x _ => R (.ev v) ρ μ (.asg x :: .nxt :: s)
    | .Tuple es k p => bif noTup v then R (.ev v) ρ μ (.tgt (.Tuple es k p) :: .nxt :: s) else stopX W n F (.Assign [t] v pos) ρ μ s
    | .Attribute o attr _ => R (.ev v) ρ μ (.asA o attr :: s)
    | _ => stopX W n F (.Assign [t] v pos) ρ μ s) else stopX W n F (.Assign [t] v pos) ρ μ s
  | ts => stopX W n F (.Assign ts v pos) ρ μ s
noncomputable def stX (x : Stmt) (ρ : Loc) (μ : Mem) (s : List Fr) : Prop := match x with
  | .If t b o _ => R (.tb t) ρ μ (.ifx b o :: s)
  | .Return e _ => e.elim (R (.rt (.o (.ret .none))) [] μ s) fun e => R (.ev e) ρ μ (.ret :: s)
  | .Pass _ => R (.rt (.o (.next ρ))) [] μ s
  | .Break _ => R (.rt (.o (.brk ρ))) [] μ s
  | .Expr e pos => bif noComp e && !(interactive F.env) then R (.ev e) ρ μ (.exp :: s) else stopX W n F (.Expr e pos) ρ μ s
  | .Assign ts v pos => stAs W n F R ts v pos ρ μ s
  | .For t i b o pos => (match o with
    | [] => stIter R i (stopX W n F (.For t i b [] pos) ρ μ s) t ρ μ (.lop t b :: s)
    | _ :: _ => stopX W n F (.For t i b o pos) ρ μ s)
  | x => stopX W n F x ρ μ s
noncomputable def isDef : Stmt → Bool
  | .FunctionDef _ _ _ _ _ _ _ _ _ _ => true
  | _ => false
noncomputable def stSs (l : List Stmt) (ρ : Loc) (μ : Mem) (s : List Fr) : Prop := match l with
  | [] => R (.rt (.o (.next ρ))) [] μ s
  | x :: r => bif isDef x then Stop (wpS W n F ρ μ (x :: r) (kO (C W n F s))) else R (.xs x) ρ μ (.seq r :: s)
noncomputable def stTg (t : Expr) (y : V) (ρ : Loc) (μ : Mem) (s : List Fr) : Prop := match t with
  | .Name x _ => R (.sto x y) ρ μ s
  | .Tuple es k p => (match y with
    | .tup ys => bif es.length == ys.length && es.all plainA then R (.tgs es ys) ρ μ s else Stop (wpTg W n F ρ μ (.Tuple es k p) y (kU (C W n F s)))
    | .lst ys => bif es.length == ys.length && es.all plainA then R (.tgs es ys) ρ μ s else Stop (wpTg W n F ρ μ (.Tuple es k p) y (kU (C W n F s)))
    | y => Stop (wpTg W n F ρ μ (.Tuple es k p) y (kU (C W n F s))))
  | t => Stop (wpTg W n F ρ μ t y (kU (C W n F s)))
noncomputable def stTs (ts : List Expr) (ys : List V) (ρ : Loc) (μ : Mem) (s : List Fr) : Prop := match ts with
  | [] => (match ys with
    | [] => R (.rt .n) ρ μ s
    | ys => Stop (wpTgs W n F ρ μ [] ys (kU (C W n F s))))
  | t :: ts => (match ys with
    | y :: ys => bif plainA t then R (.tg t y) ρ μ (.tgs ts ys :: s) else Stop (wpTgs W n F ρ μ (t :: ts) (y :: ys) (kU (C W n F s)))
    | [] => Stop (wpTgs W n F ρ μ (t :: ts) [] (kU (C W n F s))))
noncomputable def stSt (st : St) (ρ : Loc) (μ : Mem) (s : List Fr) : Prop := match st with
  | .ev e => stE W n F R e ρ μ s
  | .tb e => stT W n F R e ρ μ s
  | .es pos es => (match es with
    | [] => R (.rt (.l [])) ρ μ s
    | e :: r => bif plainA e then R (.ev e) ρ μ (.es1 pos r :: s) else Stop (wpEs W n F ρ μ pos (e :: r) (kL (C W n F s) ρ)))
  | .ss l => stSs W n F R l ρ μ s
  | .xs x => stX W n F R x ρ μ s
  | .tg t y => stTg W n F R t y ρ μ s
  | .tgs ts ys => stTs W n F R ts ys ρ μ s
  | .sto x y => bif locB F x then R (.rt .n) ((x, y) :: ρ) μ s else Stop (wpSt W n F ρ μ x y (kU (C W n F s)))
  | .rt m => stRt W n F R m ρ μ s
noncomputable def run (N : Nat) : St → Loc → Mem → List Fr → Prop := N.rec (stopS W n F) fun _ R => stSt W n F R
end
end
end
section
set_option genCtorIdx false
set_option backward.match.sparseCases false
theorem bif_ok {c : Bool} {A B P : Prop} (h : bif c then A else B) (ha : c = true → A → P) (hb : c = false → B → P) : P := by
  cases c with
  | true => exact ha rfl h
  | false => exact hb rfl h
theorem bif_st {c : Bool} {A B P : Prop} (h : bif c then A else Stop B) (ha : c = true → A → P) (hb : B → P) : P := bif_ok h ha fun _ h => hb h.out
theorem el_ok {α : Type} {o : Option α} {A : α → Prop} {B P : Prop} (h : o.elim B A) (ha : ∀ y, o = some y → A y → P) (hb : o = none → B → P) : P := by
  cases o with
  | some y => exact ha y rfl h
  | none => exact hb rfl h
theorem el_st {α : Type} {o : Option α} {A : α → Prop} {B P : Prop} (h : o.elim (Stop B) A) (ha : ∀ y, o = some y → A y → P) (hb : B → P) : P := el_ok h ha fun _ h => hb h.out
theorem and_t {a b : Bool} (h : (a && b) = true) : a = true ∧ b = true := (Bool.and_eq_true_iff.mp h)
section
variable {W : Wd} {n : Nat} {F : Fm} {R : St → Loc → Mem → List Fr → Prop} (hR : ∀ st ρ μ s, R st ρ μ s → sm W n F st ρ μ s) {ρ : Loc} {μ : Mem} {s : List Fr} {pos : Pos}
include hR
omit hR in
theorem stopV_ok {f : Fr} {y : V} (h : stopV W n F f y ρ μ s) : D W n F (C W n F s) f (.v y) ρ μ := by cases f <;> exact h.out
omit hR in
theorem stopT_ok : ∀ {s : List Fr} {c : Bool}, stopT W n F c ρ μ s → C W n F s (.b c) ρ μ := by
  intro s
  induction s with
  | nil => exact fun h => h.out.elim
  | cons f s ih =>
    intro c h
    cases f with
    | nt => exact ih h
    | _ => exact h.out
omit hR in
theorem stopS_ok {st : St} (h : stopS W n F st ρ μ s) : sm W n F st ρ μ s := by
  cases st with
  | rt m =>
    cases s with
    | nil => exact h.out.elim
    | cons f s =>
      cases m with
      | v y => exact stopV_ok h
      | b c => exact stopT_ok h
      | _ => exact h.out
  | _ => exact h.out
theorem stLk_ok {x : Str} (hd : (x == ("__debug__" : Str)) = false) (hk : F.env.kindOf x = some .local ∨ F.env.kindOf x = some .cell ∨ F.env.kindOf x = some .free ∧ (x == ("__classdict__" : Str)) = false) (h : stLk W n F R x pos ρ μ s) : wpE W n F ρ μ (.Name x pos) (kV (C W n F s) ρ) :=
  el_st h (fun y e h => match hk with
    | .inl k => E_local e k (hR _ _ _ _ h) hd
    | .inr (.inl k) => E_cell e k (hR _ _ _ _ h) hd
    | .inr (.inr k) => E_free e k.1 (hR _ _ _ _ h) hd k.2) id
theorem stName_ok {x : Str} (h : stName W n F R x pos ρ μ s) : wpE W n F ρ μ (.Name x pos) (kV (C W n F s) ρ) :=
  bif_ok h (fun _ h => h.out) fun hd h => el_st h (fun k hk h => by
    cases k with
    | «local» => exact stLk_ok hR hd (.inl hk) h
    | cell => exact stLk_ok hR hd (.inr (.inl hk)) h
    | free => exact bif_ok h (fun _ h => h.out) fun hc h => stLk_ok hR hd (.inr (.inr ⟨hk, hc⟩)) h
    | globalImplicit => exact el_ok h (fun v e h => E_glob (gtab_ok e).1 hk (hR _ _ _ _ h) hd) fun _ h => el_st h (fun v e h => have k := btab_ok (W := W) e; E_built k.1 k.2.1 hk (hR _ _ _ _ h) k.2.2 hd) id
    | globalExplicit => exact h.out) id
theorem stConst_ok {c : Const} {k : Nat} (h : stConst W n F R c k pos ρ μ s) : wpE W n F ρ μ (.Constant c k pos) (kV (C W n F s) ρ) := by
  cases c with
  | int i => exact E_int (hR _ _ _ _ h)
  | str i => exact E_str (hR _ _ _ _ h)
  | bool i => exact E_bool (hR _ _ _ _ h)
  | none => exact E_none (hR _ _ _ _ h)
  | _ => exact h.out
theorem stCall_ok {f : Expr} {args : List Expr} {kws : List Keyword} (h : stCall W n F R f args kws pos ρ μ s) : wpE W n F ρ μ (.Call f args kws pos) (kV (C W n F s) ρ) := by
  cases kws with
  | cons _ _ => exact h.out
  | nil =>
    cases args with
    | nil => exact h.out
    | cons e as =>
      refine bif_st h (fun hp h => ?_) id
      have hp' := and_t (by rw [← List.all_cons]; exact hp)
      have s1 := star1 (env := F.env) (r := as) hp'.1
      have s2 := (starAny (env := F.env) (pos := pos) hp'.2).1
      cases f with
      | Name x p => exact bif_ok h (fun _ h => h.out) fun _ h => E_Call (hR _ _ _ _ h) s1 s2 rfl
      | Attribute o nm p => exact bif_st h (fun hq h => E_MCall (hR _ _ _ _ h) s1 s2 (mcall0 (and_t hq).1 hp (and_t (and_t hq).2).1 (and_t (and_t hq).2).2)) id
      | _ => exact h.out
omit hR in
theorem no_some {α : Type} {x : α} {P : Prop} (h : (none : Option α) = some x) : P := nomatch h
omit hR in
theorem rangeCall_of {iter : Expr} {x : Str} {p : Pos} {e : Expr} {as : List Expr} {pos : Pos} (h : rangeCall iter = some (x, p, e, as, pos)) : iter = .Call (.Name x p) (e :: as) [] pos ∧ (e :: as).all plainA = true := by
  cases iter with
  | Call f args kws q =>
    cases f with
    | Name y r =>
      cases kws with
      | cons _ _ => cases h
      | nil =>
        cases args with
        | nil => cases h
        | cons e' as' =>
          have h : (bif _ then some (y, r, e', as', q) else none) = some (x, p, e, as, pos) := h
          cases c : ((y == ("range" : Str) || y == ("enumerate" : Str)) && (e' :: as').all plainA) with
          | true => rw [c] at h; cases h; exact ⟨rfl, (and_t c).2⟩
          | false => rw [c] at h; cases h
    | _ => exact no_some h
  | _ => exact no_some h
theorem stIter_ok {iter target : Expr} {alt P : Prop} (h : stIter R iter alt target ρ μ s) (ha : alt → P) (hi : (∀ x, foldedSetIterable iter F.env x = pure x) → iterE W n F ρ μ target iter (kL (C W n F s) ρ) → P) : P := by
  refine bif_ok h (fun hn h => ?_) fun _ h => ha h
  have hi := hi (folded0 hn)
  refine el_ok h (fun q e k => ?_) fun _ h => hi (iter_seqF (hR _ _ _ _ h))
  clear h
  obtain ⟨x, p, e0, as, pos⟩ := q
  obtain ⟨rfl, hp⟩ := rangeCall_of e
  have hp' := and_t (by rw [← List.all_cons]; exact hp)
  exact hi (iter_Call (hR _ _ _ _ k) (star1 hp'.1) (starAny hp'.2).1 rfl)
omit hR in
theorem compOk_of {sc : Scope} (h : compOkB sc F = true) : CompOk sc F := by
  obtain ⟨h1, h2⟩ := and_t h
  obtain ⟨h3, h4⟩ := and_t h1
  obtain ⟨h5, h6⟩ := and_t h2
  obtain ⟨h7, h8⟩ := and_t h5
  exact ⟨eq_of_beq h3, h4, h7, h8, fun _ => h6⟩
theorem stComp_ok {elt : Expr} {gs : List Comprehension} {sc : Scope} (h : stComp W n F R elt gs sc pos ρ μ s) : wpE W n F ρ μ (.ListComp elt gs sc pos) (kV (C W n F s) ρ) := by
  cases gs with
  | nil => exact h.out
  | cons g gs =>
    obtain ⟨target, iter, ifs, a⟩ := g
    cases gs with
    | cons _ _ => exact h.out
    | nil =>
      refine bif_st h (fun hc h => ?_) id
      obtain ⟨h1, h2⟩ := and_t hc
      cases eq_of_beq h1
      exact stIter_ok hR h (fun h => h.out) fun hs hi => E_ListComp (compOk_of h2) hi hs
theorem stCmp_ok {l : Expr} {ops : List CmpOp} {cs : List Expr} {alt P : Prop} (h : stCmp R l ops cs alt ρ μ s) (ha : alt → P) (hc : ∀ op r, ops = [op] → cs = [r] → behindInMarks op r = false → sm W n F (.ev l) ρ μ (.cm1 op r :: s) → P) : P := by
  cases ops with
  | nil => exact ha h
  | cons op ops =>
    cases ops with
    | cons _ _ => exact ha h
    | nil =>
      cases cs with
      | nil => exact ha h
      | cons r cs =>
        cases cs with
        | cons _ _ => exact ha h
        | nil => exact bif_ok h (fun _ h => ha h) fun e h => hc op r rfl rfl e (hR _ _ _ _ h)
theorem stE_ok {e : Expr} (h : stE W n F R e ρ μ s) : wpE W n F ρ μ e (kV (C W n F s) ρ) := by
  cases e with
  | Constant c k pos => exact stConst_ok hR h
  | Name x pos => exact stName_ok hR h
  | BinOp l op r p => exact E_BinOp (hR _ _ _ _ h)
  | UnaryOp op x p =>
    cases op with
    | USub => exact E_Neg (hR _ _ _ _ h)
    | _ => exact h.out
  | IfExp t b o p => exact E_IfExp (hR _ _ _ _ h)
  | Compare l ops cs p => exact stCmp_ok hR h (fun h => h.out) fun op r e1 e2 e3 k => by subst e1 e2; exact E_Compare k e3
  | Call f args kws p => exact stCall_ok hR h
  | Attribute v nm p => exact bif_st h (fun hs h => E_Attr (hR _ _ _ _ h) (by
      show (attributeBase v nm F.env (eval v F.env) >>= _) = _
      rw [base0 hs]; try rfl)) id
  | Subscript v i p => exact bif_st h (fun _ h => E_Sub (hR _ _ _ _ h)) id
  | Tuple es k p => exact bif_st h (fun hs h => E_Tuple (hR _ _ _ _ h) (by have := Nat.le_of_ble_eq_true hs; rw [sizeLine_eq]; lia)) id
  | ListComp elt gs sc p => exact stComp_ok hR h
  | _ => exact h.out
theorem stT_ok {e : Expr} (h : stT W n F R e ρ μ s) : wpB W n F ρ μ e (kB (C W n F s) ρ) := by
  cases e with
  | UnaryOp op x p =>
    cases op with
    | Not => exact B_Not (hR _ _ _ _ h)
    | _ => exact h.out
  | BoolOp op vs p =>
    cases op with
    | And =>
      cases vs with
      | nil => exact B_And0 (hR _ _ _ _ h)
      | cons x r => exact B_And (hR _ _ _ _ h)
    | Or =>
      cases vs with
      | nil => exact B_Or0 (hR _ _ _ _ h)
      | cons x r => exact B_Or (hR _ _ _ _ h)
  | Compare l ops cs p => exact stCmp_ok hR h (fun h => h.out) fun op r e1 e2 e3 k => by subst e1 e2; exact B_Compare k e3
  | Name x p => exact B_value (hR _ _ _ _ h)
  | Call f a k p => exact B_value (hR _ _ _ _ h)
  | Subscript v i p => exact B_value (hR _ _ _ _ h)
  | _ => exact h.out
omit hR in
theorem idx_nat {k m : Nat} (h : k < m) : seqIndex? (k : Int) m = some k := by
  have h0 : ¬ ((k : Int) < 0) := Int.not_lt.mpr (Int.natCast_nonneg k)
  simp [seqIndex?, h0, h]
theorem stIx_ok {ys : List V} {k : Int} {alt P : Prop} (h : stIx R ys k alt ρ μ s) (ha : alt → P) (hk : ∀ (j : Nat) y, k = j → (k < 2 ^ 63) → ys[j]? = some y → kV (C W n F s) ρ y μ → P) : P := by
  cases k with
  | negSucc _ => exact ha h
  | ofNat j => exact bif_ok h (fun hj h => el_ok h (fun y hy h => hk j y rfl (by have := Nat.le_of_ble_eq_true hj; show (j : Int) < 2 ^ 63; lia) hy (hR _ _ _ _ h)) fun _ h => ha h) fun _ h => ha h
theorem stSub_ok {v i : Expr} {o y : V} (h : stSub W n F R v i o y ρ μ s) : subT W n v i o y μ (kV (C W n F s) ρ) := by
  cases o with
  | tup ys =>
    cases y with
    | int k => exact bif_st h (fun hc h => stIx_ok hR h (fun h => h.out) fun j z hj hk hz h => sub_tup (by rw [hj]; exact idx_nat (List.getElem?_eq_some_iff.mp hz).1) hz h (by rw [hj]; lia) hk (subs0 hc)) id
    | _ => exact h.out
  | lst ys =>
    cases y with
    | int k => exact bif_st h (fun hc h => stIx_ok hR h (fun h => h.out) fun j z hj hk hz h => sub_lst (by rw [hj]; lia) hk (by rw [hj]; exact hz) h (subs0 hc)) id
    | _ => exact h.out
  | dct es =>
    cases y with
    | str nm => exact bif_st h (fun hc h => el_st h (fun z hz h => sub_dct hz (hR _ _ _ _ h) (subs0 hc)) id) id
    | _ => exact h.out
  | _ => exact h.out
theorem stOp_ok {op : Operator} {a b : V} (h : stOp W n F R op a b ρ μ s) : opT W n (binaryOp op) a b μ (kV (C W n F s) ρ) := by
  cases op with
  | Add =>
    cases a with
    | int i =>
      cases b with
      | int j => exact op_add (hR _ _ _ _ h)
      | _ => exact h.out
    | _ => exact h.out
  | Sub =>
    cases a with
    | int i =>
      cases b with
      | int j => exact op_sub (hR _ _ _ _ h)
      | _ => exact h.out
    | _ => exact h.out
  | _ => exact h.out
theorem stCm_ok {op : CmpOp} {a b : V} (h : stCm W n F R op a b ρ μ s) : cmpT W n op a b μ (kB (C W n F s) ρ) := by
  cases op with
  | Eq =>
    cases a with
    | str x =>
      cases b with
      | str y => exact cmp_eq_str rfl (hR _ _ _ _ h)
      | _ => exact h.out
    | int x =>
      cases b with
      | int y => exact cmp_eq_int (stopT_ok h)
      | _ => exact h.out
    | _ => exact h.out
  | NotEq =>
    cases a with
    | str x =>
      cases b with
      | str y => exact cmp_ne_str rfl (hR _ _ _ _ h)
      | _ => exact h.out
    | int x =>
      cases b with
      | int y => exact cmp_ne_int (stopT_ok h)
      | _ => exact h.out
    | _ => exact h.out
  | _ => exact h.out
theorem stAtt_ok {nm : Str} {y : V} (h : stAtt W n F R nm y ρ μ s) : attrT W n y nm μ (kV (C W n F s) ρ) := by
  cases y with
  | inst c fs => exact bif_st h (fun hf h => el_st h (fun v hv h => bif_st h (fun hh h => attr_inst (ftab_ok hf) hv hh (hR _ _ _ _ h)) id) id) id
  | _ => exact h.out
omit hR in
theorem okCal_of {f : V} (h : okCal f = true) : Callable W f := by
  cases f with
  | raw v =>
    cases v with
    | ref a =>
      refine callable_K ?_
      obtain ⟨q, hq, e⟩ := List.any_eq_true.mp h
      rw [← eq_of_beq e]
      exact (gtab_all q hq).2
    | builtin _ => exact callable_b
    | type _ => exact callable_t
    | _ => cases h
  | clo _ _ => exact callable_clo
  | _ => cases h
theorem stMth_ok {nm : Str} {es : List Expr} {y : V} (h : stMth W n F R pos nm es y ρ μ s) : D W n F (C W n F s) (.mth1 pos nm es) (.v y) ρ μ := by
  cases y with
  | inst c fs => exact el_st h (fun f hf h => el_ok h (fun _ _ h => stopV_ok h) fun hn h => ⟨_, _, meth_inst (mtab_ok hf).1 hn, callable_K (mtab_ok hf).2, hR _ _ _ _ h⟩) id
  | dct es' => exact bif_st h (fun hn h => by rw [eq_of_beq hn]; exact ⟨_, _, meth_get, callable_b, hR _ _ _ _ h⟩) id
  | _ => exact h.out
omit hR in
theorem locB_of {x : Str} (h : locB F x = true) : F.env.kindOf x = some .local := eq_of_beq h
theorem stVa_ok {f : Fr} {y : V} (h : stVa W n F R f y ρ μ s) : D W n F (C W n F s) f (.v y) ρ μ := by
  cases f with
  | op1 op r => exact hR _ _ _ _ h
  | op2 op a => exact stOp_ok hR h
  | cm1 op r => exact hR _ _ _ _ h
  | cm2 op a => exact stCm_ok hR h
  | att nm => exact stAtt_ok hR h
  | sub1 v i => exact hR _ _ _ _ h
  | sub2 v i o => exact stSub_ok hR h
  | cal1 pos es => exact bif_st h (fun hc h => ⟨okCal_of hc, hR _ _ _ _ h⟩) id
  | mth1 pos nm es => exact stMth_ok hR h
  | es1 pos rest => exact hR _ _ _ _ h
  | neg =>
    cases y with
    | int i => exact ⟨i, rfl, hR _ _ _ _ h⟩
    | _ => exact h.out
  | val =>
    cases y with
    | bool c => exact ⟨c, rfl, stopT_ok h⟩
    | _ => exact h.out
  | ret => exact hR _ _ _ _ h
  | asg x => exact hR _ _ _ _ h
  | exp => exact hR _ _ _ _ h
  | tgt t => exact hR _ _ _ _ h
  | sqf =>
    cases y with
    | tup ys => exact SeqF.tup (hR _ _ _ _ h)
    | lst ys => exact SeqF.lst (hR _ _ _ _ h)
    | _ => exact h.out
  | ical1 pos target es => exact bif_st h (fun hc h => ⟨okCal_of hc, hR _ _ _ _ h⟩) id
  | sw2 x1 x2 =>
    cases y with
    | tup zs => match zs, h with
      | [a, b], h => exact bif_st h (fun hc h => ⟨a, b, rfl, St_local (locB_of (and_t hc).2) (St_local (locB_of (and_t hc).1) (hR _ _ _ _ h))⟩) id
      | [], h => exact h.out
      | [_], h => exact h.out
      | _ :: _ :: _ :: _, h => exact h.out
    | _ => exact h.out
  | sw3 x1 x2 x3 =>
    cases y with
    | tup zs => match zs, h with
      | [a, b, c], h => exact bif_st h (fun hc h => ⟨a, b, c, rfl, St_local (locB_of (and_t (and_t hc).2).2) (St_local (locB_of (and_t (and_t hc).2).1) (St_local (locB_of (and_t hc).1) (hR _ _ _ _ h)))⟩) id
      | [], h => exact h.out
      | [_], h => exact h.out
      | [_, _], h => exact h.out
      | _ :: _ :: _ :: _ :: _, h => exact h.out
    | _ => exact h.out
  | asA o attr => exact hR _ _ _ _ h
  | _ => exact h.out
theorem stBo_ok {f : Fr} {c : Bool} (h : stBo W n F R f c ρ μ s) : D W n F (C W n F s) f (.b c) ρ μ := by
  cases f with
  | boo => cases c with
    | true => exact hR _ _ _ _ h
    | false => exact hR _ _ _ _ h
  | nt => exact hR _ _ _ _ h
  | and pos rest => cases c with
    | true => exact hR _ _ _ _ h
    | false => exact hR _ _ _ _ h
  | or pos rest => cases c with
    | true => exact hR _ _ _ _ h
    | false => exact hR _ _ _ _ h
  | ife a b => cases c with
    | true => exact hR _ _ _ _ h
    | false => exact hR _ _ _ _ h
  | ifx a b => cases c with
    | true => exact hR _ _ _ _ h
    | false => exact hR _ _ _ _ h
  | _ => exact h.out
theorem stLi_ok {f : Fr} {ys : List V} (h : stLi W n F R f ys ρ μ s) : D W n F (C W n F s) f (.l ys) ρ μ := by
  cases f with
  | es2 y => exact hR _ _ _ _ h
  | tup => exact hR _ _ _ _ h
  | lst => exact hR _ _ _ _ h
  | _ => exact h.out
theorem stOu_ok {f : Fr} {r : Out} (h : stOu W n F R f r ρ μ s) : D W n F (C W n F s) f (.o r) ρ μ := by
  cases f with
  | kr K => cases r <;> exact h.out
  | seq rest => cases r <;> exact hR _ _ _ _ h
  | fok target body ys => cases r <;> first | exact hR _ _ _ _ h | exact h.out
  | _ => exact h.out
theorem stNx_ok {f : Fr} (h : stNx W n F R f ρ μ s) : D W n F (C W n F s) f .n ρ μ := by
  cases f with
  | nxt => exact hR _ _ _ _ h
  | tgs ts ys => exact hR _ _ _ _ h
  | bdy body => exact hR _ _ _ _ h
  | el0 KS target elt ys acc => exact hR _ _ _ _ h
  | _ => exact h.out
theorem stRt_ok {m : Ms} (h : stRt W n F R m ρ μ s) : C W n F s m ρ μ := by
  cases s with
  | nil => exact h.out.elim
  | cons f s =>
    cases m with
    | v y => exact stVa_ok hR h
    | b c => exact stBo_ok hR h
    | l ys => exact stLi_ok hR h
    | o r => exact stOu_ok hR h
    | n => exact stNx_ok hR h
theorem stAs_ok {ts : List Expr} {v : Expr} (h : stAs W n F R ts v pos ρ μ s) : wpX W n F ρ μ (.Assign ts v pos) (kO (C W n F s)) := by
  cases ts with
  | nil => exact h.out
  | cons t ts =>
    cases ts with
    | cons _ _ => exact h.out
    | nil =>
      refine bif_st h (fun hc h => ?_) id
      cases t with
      | Name x p => exact X_AssignName (hR _ _ _ _ h) (swaps0 hc)
      | Tuple es k p => exact bif_st h (fun ht h => X_AssignTuple (hR _ _ _ _ h) (swaps0 hc : swapsWith v (some (.Tuple es k p)) pos.line F.env = pure false) (stores0 ht)) id
      | Attribute o attr p => exact X_AssignAttr (hR _ _ _ _ h) (swaps0 hc)
      | _ => exact h.out
theorem stX_ok {x : Stmt} (h : stX W n F R x ρ μ s) : wpX W n F ρ μ x (kO (C W n F s)) := by
  cases x with
  | If t b o p => exact X_If (hR _ _ _ _ h)
  | Return e p => cases e with
    | none => exact X_Return0 (hR _ _ _ _ h)
    | some e => exact X_Return (hR _ _ _ _ h)
  | Pass p => exact X_Pass (hR _ _ _ _ h)
  | Break p => exact X_Break (hR _ _ _ _ h)
  | Expr e p => exact bif_st h (fun hc h => X_ExprA (hR _ _ _ _ h) (by simpa using (and_t hc).2) (swaps0 (and_t hc).1)) id
  | Assign ts v p => exact stAs_ok hR h
  | For t i b o p => cases o with
    | nil => exact stIter_ok hR h (fun h => h.out) fun hs hi => X_For hi hs
    | cons _ _ => exact h.out
  | _ => exact h.out
theorem stSs_ok {l : List Stmt} (h : stSs W n F R l ρ μ s) : wpS W n F ρ μ l (kO (C W n F s)) := by
  cases l with
  | nil => exact S_nil (hR _ _ _ _ h)
  | cons x r => exact bif_ok h (fun _ h => h.out) fun _ h => S_cons (hR _ _ _ _ h)
theorem stTg_ok {t : Expr} {y : V} (h : stTg W n F R t y ρ μ s) : wpTg W n F ρ μ t y (kU (C W n F s)) := by
  cases t with
  | Name x p => exact Tg_Name (hR _ _ _ _ h)
  | Tuple es k p =>
    cases y with
    | tup ys => exact bif_st h (fun hc h => Tg_Tuple (eq_of_beq (and_t hc).1) (asgAny (and_t hc).2) (hR _ _ _ _ h)) id
    | lst ys => exact bif_st h (fun hc h => Tg_TupleL (eq_of_beq (and_t hc).1) (asgAny (and_t hc).2) (hR _ _ _ _ h)) id
    | _ => exact h.out
  | _ => exact h.out
theorem stTs_ok {ts : List Expr} {ys : List V} (h : stTs W n F R ts ys ρ μ s) : wpTgs W n F ρ μ ts ys (kU (C W n F s)) := by
  cases ts with
  | nil => cases ys with
    | nil => exact Tgs_nil (hR _ _ _ _ h)
    | cons _ _ => exact h.out
  | cons t ts => cases ys with
    | nil => exact h.out
    | cons y ys => exact bif_st h (fun hc h => Tgs_cons (hR _ _ _ _ h) (asg1 hc)) id
theorem stSt_ok {st : St} (h : stSt W n F R st ρ μ s) : sm W n F st ρ μ s := by
  cases st with
  | ev e => exact stE_ok hR h
  | tb e => exact stT_ok hR h
  | es pos es => cases es with
    | nil => exact Es_nil (hR _ _ _ _ h)
    | cons e r => exact bif_st h (fun hc h => Es_cons (hR _ _ _ _ h) (star1 hc)) id
  | ss l => exact stSs_ok hR h
  | xs x => exact stX_ok hR h
  | tg t y => exact stTg_ok hR h
  | tgs ts ys => exact stTs_ok hR h
  | sto x y => exact bif_st h (fun hc h => St_local (locB_of hc) (hR _ _ _ _ h)) id
  | rt m => exact stRt_ok hR h
omit hR in
theorem run_ok (N : Nat) : ∀ {st : St} {ρ : Loc} {μ : Mem} {s : List Fr}, run W n F N st ρ μ s → sm W n F st ρ μ s := by
  induction N with
  | zero => exact fun h => stopS_ok h
  | succ N ih => exact fun h => stSt_ok (fun st ρ μ s => ih) h
end
end
section
section
variable {W : Wd} {n : Nat} {F : Fm} {ρ : Loc} {μ : Mem} {s : List Fr} {pos : Pos}
/-- an order that is to be done -/
structure Run (W : Wd) (n : Nat) (F : Fm) (st : St) (ρ : Loc) (μ : Mem) (s : List Fr) : Prop where
  out : sm W n F st ρ μ s
theorem rn (N : Nat) {st : St} (h : run W n F N st ρ μ s) : Run W n F st ρ μ s := ⟨run_ok N h⟩
theorem rn1 (N : Nat) {st : St} (h : stSt W n F (fun st ρ μ s => Go (run W n F N st ρ μ s)) st ρ μ s) : Run W n F st ρ μ s := ⟨stSt_ok (fun _ _ _ _ h => run_ok N h.out) h⟩
theorem go_v {y : V} (h : Run W n F (.rt (.v y)) ρ μ s) : kV (C W n F s) ρ y μ := h.out
theorem go_b {y : Bool} (h : Run W n F (.rt (.b y)) ρ μ s) : kB (C W n F s) ρ y μ := h.out
theorem go_l {y : List V} (h : Run W n F (.rt (.l y)) ρ μ s) : kL (C W n F s) ρ y μ := h.out
theorem go_o {r : Out} (h : Run W n F (.rt (.o r)) [] μ s) : kO (C W n F s) r μ := h.out
theorem go_n (h : Run W n F (.rt .n) ρ μ s) : kU (C W n F s) ρ μ := h.out
theorem go_c {m : Ms} (h : Run W n F (.rt m) ρ μ s) : C W n F s m ρ μ := h.out
theorem go_e {e : Expr} (h : Run W n F (.ev e) ρ μ s) : wpE W n F ρ μ e (kV (C W n F s) ρ) := h.out
theorem go_e0 {e : Expr} {K : V → Mem → Prop} (h : Run W n F (.ev e) ρ μ [.kv K]) : wpE W n F ρ μ e K := h.out
theorem go_t {e : Expr} (h : Run W n F (.tb e) ρ μ s) : wpB W n F ρ μ e (kB (C W n F s) ρ) := h.out
theorem go_t0 {e : Expr} {K : Bool → Mem → Prop} (h : Run W n F (.tb e) ρ μ [.kb K]) : wpB W n F ρ μ e K := h.out
theorem go_es {es : List Expr} (h : Run W n F (.es pos es) ρ μ s) : wpEs W n F ρ μ pos es (kL (C W n F s) ρ) := h.out
theorem go_es0 {es : List Expr} {K : List V → Mem → Prop} (h : Run W n F (.es pos es) ρ μ [.kl K]) : wpEs W n F ρ μ pos es K := h.out
theorem go_s {l : List Stmt} (h : Run W n F (.ss l) ρ μ s) : wpS W n F ρ μ l (kO (C W n F s)) := h.out
theorem go_sr {l : List Stmt} {K : V → Mem → Prop} (h : Run W n F (.ss l) ρ μ [.kr K]) : wpS W n F ρ μ l (retK K) := h.out
theorem go_s0 {l : List Stmt} {K : Out → Mem → Prop} (h : Run W n F (.ss l) ρ μ [.ko K]) : wpS W n F ρ μ l K := h.out
theorem go_sub {v i : Expr} {o y : V} (h : Run W n F (.rt (.v y)) ρ μ (.sub2 v i o :: s)) : subT W n v i o y μ (kV (C W n F s) ρ) := h.out
theorem go_cm {op : CmpOp} {a y : V} (h : Run W n F (.rt (.v y)) ρ μ (.cm2 op a :: s)) : cmpT W n op a y μ (kB (C W n F s) ρ) := h.out
theorem go_op {op : Operator} {a y : V} (h : Run W n F (.rt (.v y)) ρ μ (.op2 op a :: s)) : opT W n (binaryOp op) a y μ (kV (C W n F s) ρ) := h.out
theorem go_att {nm : Str} {y : V} (h : Run W n F (.rt (.v y)) ρ μ (.att nm :: s)) : attrT W n y nm μ (kV (C W n F s) ρ) := h.out
theorem go_x {x : Stmt} (h : Run W n F (.xs x) ρ μ s) : wpX W n F ρ μ x (kO (C W n F s)) := h.out
theorem go_g {t : Expr} {y : V} (h : Run W n F (.tg t y) ρ μ s) : wpTg W n F ρ μ t y (kU (C W n F s)) := h.out
theorem go_ts {ts : List Expr} {ys : List V} (h : Run W n F (.tgs ts ys) ρ μ s) : wpTgs W n F ρ μ ts ys (kU (C W n F s)) := h.out
theorem go_sto {x : Str} {y : V} (h : Run W n F (.sto x y) ρ μ s) : wpSt W n F ρ μ x y (kU (C W n F s)) := h.out
theorem go_g0 {t : Expr} {y : V} {K : Loc → Mem → Prop} (h : Run W n F (.tg t y) ρ μ [.ku K]) : wpTg W n F ρ μ t y K := h.out
theorem r_List {es : List Expr} (h : wpEs W n F ρ μ pos es (kL (C W n F (.lst :: s)) ρ)) (hl : es.length ≤ sizeLine := by decide) : wpE W n F ρ μ (.List es pos) (kV (C W n F s) ρ) := E_List h hl
theorem r_ListM {es : List Expr} (h : wpEs W n F ρ μ pos es (kL (C W n F (.lstM :: s)) ρ)) (hl : es.length ≤ sizeLine := by decide) : wpE W n F ρ μ (.List es pos) (kV (C W n F s) ρ) := E_ListM h hl
theorem r_Sw2 {x1 x2 : Str} {p1 p2 tpos : Pos} {k} {value : Expr} (h : wpE W n F ρ μ value (kV (C W n F (.sw2 x1 x2 :: .nxt :: s)) ρ))
    (hw : swappedStores [.Tuple [.Name x1 p1, .Name x2 p2] k tpos] value F.env = pure (some [x1, x2]) := by rfl)
    (hs : swapsWithSole [.Tuple [.Name x1 p1, .Name x2 p2] k tpos] value pos.line F.env = pure false := by rfl) : wpX W n F ρ μ (.Assign [.Tuple [.Name x1 p1, .Name x2 p2] k tpos] value pos) (kO (C W n F s)) := X_AssignSw2 h hw hs
theorem r_Sw3 {x1 x2 x3 : Str} {p1 p2 p3 tpos : Pos} {k} {value : Expr} (h : wpE W n F ρ μ value (kV (C W n F (.sw3 x1 x2 x3 :: .nxt :: s)) ρ))
    (hw : swappedStores [.Tuple [.Name x1 p1, .Name x2 p2, .Name x3 p3] k tpos] value F.env = pure (some [x1, x2, x3]) := by rfl)
    (hs : swapsWithSole [.Tuple [.Name x1 p1, .Name x2 p2, .Name x3 p3] k tpos] value pos.line F.env = pure false := by rfl) : wpX W n F ρ μ (.Assign [.Tuple [.Name x1 p1, .Name x2 p2, .Name x3 p3] k tpos] value pos) (kO (C W n F s)) := X_AssignSw3 h hw hs
theorem r_compL {target elt : Expr} {y : V} {xs ys acc : List V} {K : List V → Mem → Prop} (e : xs = y :: ys) (h : wpTg W n F ρ μ target y (kU (C W n F [.el0 K target elt ys acc]))) : compL W n F target [] elt K xs acc ρ μ := compL_cons e h
theorem r_forL {target : Expr} {body : List Stmt} {y : V} {xs ys : List V} (e : xs = y :: ys) (h : wpTg W n F ρ μ target y (kU (C W n F (.bdy body :: .fok target body ys :: s)))) : forL W n F target body (kO (C W n F s)) xs ρ μ := forL_cons e h
theorem r_AsgComp {sc : Scope} {target iter elt : Expr} {ifs : List Expr} {x : Str} {px cpos : Pos} (ok : CompOk sc F)
    (hsw : swapsWith (.ListComp elt [⟨target, iter, ifs, 0⟩] sc cpos) (some (.Name x px)) pos.line F.env = pure true)
    (h : iterE W n F ρ μ target iter (kL (C W n F (.cmp sc target ifs elt :: .lst :: .asg x :: .nxt :: s)) ρ))
    (hs : ∀ x, foldedSetIterable iter F.env x = pure x := by intro _; rfl) : wpX W n F ρ μ (.Assign [.Name x px] (.ListComp elt [⟨target, iter, ifs, 0⟩] sc cpos) pos) (kO (C W n F s)) := X_AssignComp ok hsw h hs
theorem go_i (N : Nat) {target iter : Expr} (h : stIter (fun st ρ μ s => Go (run W n F N st ρ μ s)) iter (Stop False) target ρ μ s) : iterE W n F ρ μ target iter (kL (C W n F s) ρ) :=
  stIter_ok (fun _ _ _ _ h => run_ok N h.out) h (fun h => h.out.elim) fun _ h => h
theorem go_i0 (N : Nat) {target iter : Expr} {K : List V → Mem → Prop} (h : stIter (fun st ρ μ s => Go (run W n F N st ρ μ s)) iter (Stop False) target ρ μ [.kl K]) : iterE W n F ρ μ target iter K :=
  stIter_ok (s := [.kl K]) (fun _ _ _ _ h => run_ok N h.out) h (fun h => h.out.elim) fun _ h => h
theorem r_x0 {x : Stmt} {K : Out → Mem → Prop} (h : wpX W n F ρ μ x (kO (C W n F [.ko K]))) : wpX W n F ρ μ x K := h
end
section
variable {W : Wd} {n : Nat} {F : Fm} {ρ : Loc} {μ : Mem} {s : List Fr}
theorem sub_nil : ∀ z y, List.lookup z ([] : Loc) = some y → List.lookup z ρ = some y := fun _ _ h => nomatch h
theorem sub_cons {x : Str} {y : V} {r : Loc} (h : Lk ρ x y) (k : ∀ z u, List.lookup z r = some u → List.lookup z ρ = some u) : ∀ z u, List.lookup z ((x, y) :: r) = some u → List.lookup z ρ = some u := fun z u e => by
  by_cases q : z = x
  · subst q; rw [lookup_cons_eq] at e; cases e; exact h
  · rw [lookup_cons_ne q] at e; exact k z u e
/-- less is known of a frame: the names that are kept, written out -/
theorem Tg_sub {ρ' : Loc} {t : Expr} {y : V} {K : Loc → Mem → Prop} (hz : F.fz = []) (k : ∀ z y, ρ'.lookup z = some y → ρ.lookup z = some y) (h : wpTg W n F ρ' μ t y K) : wpTg W n F ρ μ t y K :=
  ⟨fun A g s v hA hg hf hr Q hQ => h.go A g s v hA hg (hf.sub hz k) hr Q hQ⟩
theorem O_sub {ρ' : Loc} {r : List Stmt} (hz : F.fz = []) (k : ∀ z y, ρ'.lookup z = some y → ρ.lookup z = some y) (h : kO (C W n F (.seq r :: s)) (.next ρ') μ) : kO (C W n F (.seq r :: s)) (.next ρ) μ := S_sub hz k h
end
section
variable {W : Wd} {n : Nat} {F : Fm}
theorem forL_inv {target : Expr} {body : List Stmt} {K : Out → Mem → Prop} (I0 : List V → Loc → Mem → Prop) (hnil : ∀ ρ μ, I0 [] ρ μ → K (.next ρ) μ)
    (hcons : ∀ I : List V → Loc → Mem → Prop, (∀ xs ρ μ, I0 xs ρ μ → I xs ρ μ) → ∀ y ys ρ μ, I0 (y :: ys) ρ μ → wpTg W n F ρ μ target y (kU (C W n F [.bdy body, .ko (forI I K ys)]))) : ∀ (xs : List V) (ρ : Loc) (μ : Mem), I0 xs ρ μ → forL W n F target body K xs ρ μ :=
  forL_inv0 I0 hnil (hcons I0 fun _ _ _ h => h)
end
end
set_option compiler.extract_closed false
set_option hygiene false
local macro_rules
  | `(tactic| ktr_room) => `(tactic| first | refine rn 1000 (Stop.mk ?_) | refine rn 60 (Stop.mk ?_) | refine rn 15 (Stop.mk ?_) | refine rn 4 (Stop.mk ?_) | refine rn 1 (Stop.mk ?_) | refine rn 0 (Stop.mk ?_))
local macro_rules
  | `(tactic| ktr_units) => `(tactic| first | refine rn1 1000 (Go.mk (Stop.mk ?_)) | refine rn1 60 (Go.mk (Stop.mk ?_)) | refine rn1 15 (Go.mk (Stop.mk ?_)) | refine rn1 4 (Go.mk (Stop.mk ?_)) | refine rn1 1 (Go.mk (Stop.mk ?_)) | refine rn1 0 (Go.mk (Stop.mk ?_)))
local macro_rules
  | `(tactic| ktr_unf) => `(tactic| ((first
    | ((with_reducible (first | refine go_v ?_ | refine go_b ?_ | refine go_l ?_ | refine go_o ?_ | refine go_n ?_ | refine go_c ?_)); ktr_room)
    | ((with_reducible (first | refine go_sr ?_ | refine go_e ?_ | refine go_t ?_ | refine go_es ?_ | refine go_s ?_ | refine go_g ?_ | refine go_ts ?_ | refine go_sto ?_ | refine go_x ?_ | refine go_sub ?_ | refine go_cm ?_ | refine go_op ?_ | refine go_att ?_)); ktr_units)
    | ((with_reducible (first | refine go_e0 ?_ | refine go_t0 ?_ | refine go_es0 ?_ | refine go_s0 ?_ | refine go_g0 ?_)); ktr_units)
    | (with_reducible (first | refine seqK_next ?_ | refine forI_next ?_ | refine forI_brk ?_ | refine forI_ret ?_ | refine forK_next ?_ | refine forK_ret ?_ | refine retK_ret ?_ | refine retK_next ?_ | refine and2 callable_b ?_ | refine and2 callable_t ?_ | refine and2 callable_clo ?_))
    | ((with_reducible show ite _ _ _); first | refine ite_t ?_ | refine ite_f ?_ | refine ite_nt ?_ | refine ite_nf ?_)
    | ((with_reducible show wpE _ _ _ _ _ _ _); first | refine E_local (by assumption) rfl ?_ | refine E_cell (by assumption) rfl ?_ | refine E_free (by assumption) rfl ?_ | refine E_DictZip ?_ | refine E_SliceFrom ?_ | refine E_SliceUpto ?_ | refine E_built (by k_is) (by with_reducible first | exact Boot.dict | exact Boot.zip | exact Boot.sorted) rfl ?_)
    | ((fail_if_success (with_reducible show wpX _ _ _ _ _ _ (kO _))); (with_reducible (refine r_x0 ?_)))
    | ((with_reducible show wpX _ _ _ _ _ _ _); first | refine r_Sw2 ?_ | refine r_Sw3 ?_ | refine r_AsgComp ⟨rfl, rfl, rfl, rfl, fun _ => rfl⟩ rfl ?_)
    | ((with_reducible show iterE _ _ _ _ _ _ _ _); first | refine go_i 1000 (Go.mk (Stop.mk ?_)) | refine go_i0 1000 (Go.mk (Stop.mk ?_)) | refine go_i 1 (Go.mk (Stop.mk ?_)) | refine go_i0 1 (Go.mk (Stop.mk ?_)))
    | ((with_reducible show wpSt _ _ _ _ _ _ _ _); refine St_cell rfl rfl (List.mem_of_elem_eq_true rfl) List.not_mem_nil ?_)
    | ((with_reducible show itF _ _ _ _ _ _ _); first | refine it_rangeI (by first | decide | (simp; done)) (by first | decide | (simp; done)) ?_ | refine it_enum_lst ?_ | refine it_enum_tup ?_)
    | ((with_reducible show forL _ _ _ _ _ _ _ _ _); first | refine r_forL rfl ?_ | refine forL_nil rfl ?_)
    | ((with_reducible show compL _ _ _ _ _ _ _ _ _ _ _); first | refine r_compL rfl ?_ | refine compL_nil rfl ?_)
    | ((with_reducible show subT _ _ _ _ _ _ _ _); first | refine sub_mlst (by assumption) (by first | decide | (simp; done)) (by first | decide | (simp; done)) rfl ?_)
    | ((with_reducible show cmpT _ _ _ _ _ _ _); first | refine cmp_lt_int ?_ | refine cmp_gt_int ?_ | refine cmp_ge_int ?_ | refine cmp_in_tup' (b := true) (by decide +kernel) (by decide +kernel) rfl ?_ | refine cmp_in_tup' (b := false) (by decide +kernel) (by decide +kernel) rfl ?_ | refine cmp_in_lst' (b := true) (by decide +kernel) (by decide +kernel) rfl ?_ | refine cmp_in_lst' (b := false) (by decide +kernel) (by decide +kernel) rfl ?_)
    | ((with_reducible show opT _ _ (binaryOp Operator.Add) _ _ _ _); first | refine op_add_tup (Nat.le_of_ble_eq_true rfl) ?_ | refine op_add_lst (by first | (simp [sizeLine_eq]; done) | (simp [sizeLine_eq]; lia)) ?_)
    | ((with_reducible show opT _ _ (binaryOp Operator.Mult) _ _ _ _); refine op_mul_lst (by simp) (by simp) (by simp) (by simp) ?_)
    | ((with_reducible show opT _ _ (binaryOp Operator.Mod) _ _ _ _); refine op_mod (by first | decide | lia) ?_)
    | ((with_reducible show opT _ _ (binaryOp Operator.FloorDiv) _ _ _ _); refine op_fdiv (by first | decide | lia) (PyProof.noPylong_small (by first | decide | lia)) ?_)
    | ((with_reducible show SeqF _ _ _); refine SeqF.frz (by assumption) ?_)
    | ((with_reducible show wpF _ _ _ _ _ _); first | refine F_tuple_lst (Nat.le_of_ble_eq_true rfl) ?_ | refine F_len_tup (by first | decide | (simp; done) | (simp; lia)) ?_ | refine F_len_lst (by first | decide | (simp; done) | (simp; lia)) ?_ | refine F_isint ?_ | refine F_int_int ?_ | refine F_int_bool ?_ | refine F_max2 ?_ | refine F_get ?_)
    | refine Exists.intro _ (Exists.intro _ (and2 (meth_append (by assumption)) ?_))
    | refine Exists.intro _ (Exists.intro _ (and2 (meth_extend (by assumption)) ?_))
    | refine and2 (Eq.refl (V.raw _)) ?_
    | refine and2 (callable_K (by k_is)) ?_
    | refine and2 (Nat.le_of_ble_eq_true rfl) (fun _ => ?_)
    | (refine Exists.intro _ (and2 rfl ?_))
    | (refine Exists.intro _ (Exists.intro _ (and2 rfl ?_)))
    | (refine Exists.intro _ (Exists.intro _ (Exists.intro _ (and2 rfl ?_))))
    ) <;> ktr_unf))
local macro_rules
  | `(tactic| ktr_rel) => `(tactic| ((case ho => k_is); (case hcode => k_is); (case h1 => exact rfl); (case h2 => exact rfl); (case h3 => exact rfl); (case hnd => decide); (case hok => decide); (case hb => first | exact binds1 fun _ _ => BindsTo.of_eq rfl | exact binds2 fun _ _ _ => BindsTo.of_eq rfl | exact binds3 fun _ _ _ _ => BindsTo.of_eq rfl | exact binds4 fun _ _ _ _ _ => BindsTo.of_eq rfl | exact binds2X fun _ X _ _ => binds_K X rfl (by k_is) rfl rfl rfl | exact binds4X fun _ X _ _ _ _ => binds_K X rfl (by k_is) rfl rfl rfl | exact binds3d fun _ X _ _ _ => binds_K X rfl (by k_is) rfl rfl rfl | exact binds6X fun _ X _ _ _ _ _ _ => binds_K X rfl (by k_is) rfl rfl rfl)))
set_option hygiene true
section
section
variable {W : Wd} {n : Nat} {μ : Mem}
theorem parts_of_spec (t : Ty) {K : V → Mem → Prop} (h : K (.tup (partsV t)) μ) : wpF W (n + 1) (.raw (.ref 49)) [tyV t] μ K := by
  refine' F_def ["told"] (ρ₀ := [("told", tyV t)]) ?ho ?hcode ?h1 ?h2 ?h3 rfl ?hnd ?hok ?hb ?_
  ktr_rel
  intro L
  show wpS _ _ ⟨envOfC _ ⟨_, _, _, _, _⟩ _ _ _, cellNames ⟨_, _, _, _, _⟩, _⟩ _ _ (_ :: _) _
  cases t <;> ktr_unf
  all_goals exact h
theorem rebuilt_spec {t t' : Ty} {ps : List V} (hr : Reb t ps t') {K : V → Mem → Prop} (h : K (tyV t') μ) : wpF W (n + 1) (.raw (.ref 56)) [tyV t, .lst ps] μ K := by
  refine' F_def ["told", "parts"] (ρ₀ := [("told", tyV t), ("parts", .lst ps)]) ?ho ?hcode ?h1 ?h2 ?h3 rfl ?hnd ?hok ?hb ?_
  ktr_rel
  intro L
  show wpS _ _ ⟨envOfC _ ⟨_, _, _, _, _⟩ _ _ _, cellNames ⟨_, _, _, _, _⟩, _⟩ _ _ (_ :: _) _
  cases hr <;> ktr_unf
  all_goals exact h
end
end
section
local macro_rules
  | `(tactic| ktr_unf) => `(tactic| (((with_reducible (show wpF _ _ _ _ _ _)); first | refine parts_of_spec _ ?_ | refine rebuilt_spec (by constructor) ?_) <;> ktr_unf))
section
variable {W : Wd}
theorem substituted_spec {es : List (Str × V)} {ψ : Str → Ty} (hψ : ∀ x, (es.lookup x).getD (tyV (.par x)) = tyV (ψ x)) : ∀ (t : Ty) (m : Nat) (K : V → Mem → Prop) (μ : Mem), t.dep + 3 ≤ m → K (tyV (t.sub id ψ)) μ → wpF W m (.raw (.ref 61)) [tyV t, .dct es] μ K := by
  intro t
  induction t with
  | int x =>
    intro m K μ hm h
    obtain ⟨k', rfl⟩ : ∃ k', m = k' + 3 := ⟨m - 3, by lia⟩
    simp only [Ty.dep] at hm
    refine' F_def ["told", "table"] (ρ₀ := [("told", tyV (.int x)), ("table", .dct es)]) ?ho ?hcode ?h1 ?h2 ?h3 rfl ?hnd ?hok ?hb ?_
    ktr_rel
    intro L
    show wpS _ _ ⟨envOfC _ ⟨_, _, _, _, _⟩ _ _ _, cellNames ⟨_, _, _, _, _⟩, _⟩ _ _ (_ :: _) _
    ktr_unf
    exact h
  | par x =>
    intro m K μ hm h
    obtain ⟨k', rfl⟩ : ∃ k', m = k' + 3 := ⟨m - 3, by lia⟩
    simp only [Ty.dep] at hm
    refine' F_def ["told", "table"] (ρ₀ := [("told", tyV (.par x)), ("table", .dct es)]) ?ho ?hcode ?h1 ?h2 ?h3 rfl ?hnd ?hok ?hb ?_
    ktr_rel
    intro L
    show wpS _ _ ⟨envOfC _ ⟨_, _, _, _, _⟩ _ _ _, cellNames ⟨_, _, _, _, _⟩, _⟩ _ _ (_ :: _) _
    ktr_unf
    rw [hψ]
    exact h
  | ref r b t ih =>
    intro m K μ hm h
    obtain ⟨k', rfl⟩ : ∃ k', m = k' + 3 := ⟨m - 3, by lia⟩
    simp only [Ty.dep] at hm
    refine' F_def ["told", "table"] (ρ₀ := [("told", tyV (.ref r b t)), ("table", .dct es)]) ?ho ?hcode ?h1 ?h2 ?h3 rfl ?hnd ?hok ?hb ?_
    ktr_rel
    intro L
    show wpS _ _ ⟨envOfC _ ⟨_, _, _, _, _⟩ _ _ _, cellNames ⟨_, _, _, _, _⟩, _⟩ _ _ (_ :: _) _
    ktr_unf
    refine ih _ _ _ (by lia) ?_
    ktr_unf
    exact h
  | box t ih =>
    intro m K μ hm h
    obtain ⟨k', rfl⟩ : ∃ k', m = k' + 3 := ⟨m - 3, by lia⟩
    simp only [Ty.dep] at hm
    refine' F_def ["told", "table"] (ρ₀ := [("told", tyV (.box t)), ("table", .dct es)]) ?ho ?hcode ?h1 ?h2 ?h3 rfl ?hnd ?hok ?hb ?_
    ktr_rel
    intro L
    show wpS _ _ ⟨envOfC _ ⟨_, _, _, _, _⟩ _ _ _, cellNames ⟨_, _, _, _, _⟩, _⟩ _ _ (_ :: _) _
    ktr_unf
    refine ih _ _ _ (by lia) ?_
    ktr_unf
    exact h
  | arr t k ih =>
    intro m K μ hm h
    obtain ⟨k', rfl⟩ : ∃ k', m = k' + 3 := ⟨m - 3, by lia⟩
    simp only [Ty.dep] at hm
    refine' F_def ["told", "table"] (ρ₀ := [("told", tyV (.arr t k)), ("table", .dct es)]) ?ho ?hcode ?h1 ?h2 ?h3 rfl ?hnd ?hok ?hb ?_
    ktr_rel
    intro L
    show wpS _ _ ⟨envOfC _ ⟨_, _, _, _, _⟩ _ _ _, cellNames ⟨_, _, _, _, _⟩, _⟩ _ _ (_ :: _) _
    ktr_unf
    refine ih _ _ _ (by lia) ?_
    ktr_unf
    exact h
  | pair a b iha ihb =>
    intro m K μ hm h
    obtain ⟨k', rfl⟩ : ∃ k', m = k' + 3 := ⟨m - 3, by lia⟩
    simp only [Ty.dep] at hm
    refine' F_def ["told", "table"] (ρ₀ := [("told", tyV (.pair a b)), ("table", .dct es)]) ?ho ?hcode ?h1 ?h2 ?h3 rfl ?hnd ?hok ?hb ?_
    ktr_rel
    intro L
    show wpS _ _ ⟨envOfC _ ⟨_, _, _, _, _⟩ _ _ _, cellNames ⟨_, _, _, _, _⟩, _⟩ _ _ (_ :: _) _
    ktr_unf
    refine iha _ _ _ (by lia) ?_
    ktr_unf
    refine ihb _ _ _ (by lia) ?_
    ktr_unf
    exact h
  | trip a b c iha ihb ihc =>
    intro m K μ hm h
    obtain ⟨k', rfl⟩ : ∃ k', m = k' + 3 := ⟨m - 3, by lia⟩
    simp only [Ty.dep] at hm
    refine' F_def ["told", "table"] (ρ₀ := [("told", tyV (.trip a b c)), ("table", .dct es)]) ?ho ?hcode ?h1 ?h2 ?h3 rfl ?hnd ?hok ?hb ?_
    ktr_rel
    intro L
    show wpS _ _ ⟨envOfC _ ⟨_, _, _, _, _⟩ _ _ _, cellNames ⟨_, _, _, _, _⟩, _⟩ _ _ (_ :: _) _
    ktr_unf
    refine iha _ _ _ (by lia) ?_
    ktr_unf
    refine ihb _ _ _ (by lia) ?_
    ktr_unf
    refine ihc _ _ _ (by lia) ?_
    ktr_unf
    exact h
  | adt r t ih =>
    intro m K μ hm h
    obtain ⟨k', rfl⟩ : ∃ k', m = k' + 3 := ⟨m - 3, by lia⟩
    simp only [Ty.dep] at hm
    refine' F_def ["told", "table"] (ρ₀ := [("told", tyV (.adt r t)), ("table", .dct es)]) ?ho ?hcode ?h1 ?h2 ?h3 rfl ?hnd ?hok ?hb ?_
    ktr_rel
    intro L
    show wpS _ _ ⟨envOfC _ ⟨_, _, _, _, _⟩ _ _ _, cellNames ⟨_, _, _, _, _⟩, _⟩ _ _ (_ :: _) _
    ktr_unf
    refine ih _ _ _ (by lia) ?_
    ktr_unf
    exact h
/-- a def that is called with regions: n calls of it are left -/
structure Chg (W : Wd) (m : Nat) (f : V) (φ : Rg → Rg) (p : Rg → Prop) (I : Nat → Mem → Prop) : Prop where
  call : Callable W f
  go : ∀ (k : Nat) (r : Rg) (μ : Mem) (K : V → Mem → Prop), p r → I (k + 1) μ → (∀ μ', I k μ' → K (rgV (φ r)) μ') → wpF W m f [rgV r] μ K
theorem Chg.weak {m m' : Nat} {f : V} {φ : Rg → Rg} {p : Rg → Prop} {I : Nat → Mem → Prop} (x : Chg W m f φ p I) (h : m ≤ m') : Chg W m' f φ p I := ⟨x.call, fun k r μ K a b c => wpF_weak h (x.go k r μ K a b c)⟩
noncomputable def Ty.allR (p : Rg → Prop) : Ty → Prop
  | .int _ | .par _ => True
  | .ref r _ t => p r ∧ t.allR p
  | .box t | .arr t _ => t.allR p
  | .pair a b => a.allR p ∧ b.allR p
  | .trip a b c => a.allR p ∧ b.allR p ∧ c.allR p
  | .adt r t => p r ∧ t.allR p
noncomputable def Ty.nreg : Ty → Nat
  | .int _ | .par _ => 0
  | .ref _ _ t => t.nreg + 1
  | .box t | .arr t _ => t.nreg
  | .pair a b => a.nreg + b.nreg
  | .trip a b c => a.nreg + b.nreg + c.nreg
  | .adt _ t => t.nreg + 1
theorem with_regions_spec {f : V} {φ : Rg → Rg} {p : Rg → Prop} {I : Nat → Mem → Prop} {j : Nat} (hf : Chg W j f φ p I) : ∀ (t : Ty) (m : Nat) (K : V → Mem → Prop) (μ : Mem) (k : Nat), t.allR p → t.dep + 3 + j ≤ m → I (t.nreg + k) μ → (∀ μ', I k μ' → K (tyV (t.sub φ .par)) μ') → wpF W m (.raw (.ref 66)) [tyV t, f] μ K := by
  intro t
  induction t with
  | int x =>
    intro m K μ n ht hm hI h
    obtain ⟨k', rfl⟩ : ∃ k', m = k' + 3 := ⟨m - 3, by lia⟩
    simp only [Ty.dep, Ty.nreg] at hm hI
    have hf' := hf.weak (show j ≤ k' + 2 by lia)
    refine' F_def ["told", "change"] (ρ₀ := [("told", tyV (.int x)), ("change", f)]) ?ho ?hcode ?h1 ?h2 ?h3 rfl ?hnd ?hok ?hb ?_
    ktr_rel
    intro L
    show wpS _ _ ⟨envOfC _ ⟨_, _, _, _, _⟩ _ _ _, cellNames ⟨_, _, _, _, _⟩, _⟩ _ _ (_ :: _) _
    ktr_unf
    exact h _ (by simpa using hI)
  | par x =>
    intro m K μ n ht hm hI h
    obtain ⟨k', rfl⟩ : ∃ k', m = k' + 3 := ⟨m - 3, by lia⟩
    simp only [Ty.dep, Ty.nreg] at hm hI
    have hf' := hf.weak (show j ≤ k' + 2 by lia)
    refine' F_def ["told", "change"] (ρ₀ := [("told", tyV (.par x)), ("change", f)]) ?ho ?hcode ?h1 ?h2 ?h3 rfl ?hnd ?hok ?hb ?_
    ktr_rel
    intro L
    show wpS _ _ ⟨envOfC _ ⟨_, _, _, _, _⟩ _ _ _, cellNames ⟨_, _, _, _, _⟩, _⟩ _ _ (_ :: _) _
    ktr_unf
    exact h _ (by simpa using hI)
  | ref r b t ih =>
    intro m K μ n ht hm hI h
    obtain ⟨k', rfl⟩ : ∃ k', m = k' + 3 := ⟨m - 3, by lia⟩
    simp only [Ty.dep, Ty.nreg] at hm hI
    have hf' := hf.weak (show j ≤ k' + 2 by lia)
    refine' F_def ["told", "change"] (ρ₀ := [("told", tyV (.ref r b t)), ("change", f)]) ?ho ?hcode ?h1 ?h2 ?h3 rfl ?hnd ?hok ?hb ?_
    ktr_rel
    intro L
    show wpS _ _ ⟨envOfC _ ⟨_, _, _, _, _⟩ _ _ _, cellNames ⟨_, _, _, _, _⟩, _⟩ _ _ (_ :: _) _
    ktr_unf
    refine and2 hf.call ?_
    ktr_unf
    refine hf'.go (t.nreg + n) r _ _ ht.1 (by rwa [show t.nreg + n + 1 = t.nreg + 1 + n by lia]) fun μ₁ hI₁ => ?_
    ktr_unf
    refine parts_of_spec (.ref (φ r) b t) ?_
    ktr_unf
    refine ih _ _ _ n ht.2 (by lia) hI₁ fun μ₂ hI₂ => ?_
    ktr_unf
    refine rebuilt_spec (t := .ref (φ r) b t) (by constructor) ?_
    ktr_unf
    exact h _ hI₂
  | box t ih =>
    intro m K μ n ht hm hI h
    obtain ⟨k', rfl⟩ : ∃ k', m = k' + 3 := ⟨m - 3, by lia⟩
    simp only [Ty.dep, Ty.nreg] at hm hI
    have hf' := hf.weak (show j ≤ k' + 2 by lia)
    refine' F_def ["told", "change"] (ρ₀ := [("told", tyV (.box t)), ("change", f)]) ?ho ?hcode ?h1 ?h2 ?h3 rfl ?hnd ?hok ?hb ?_
    ktr_rel
    intro L
    show wpS _ _ ⟨envOfC _ ⟨_, _, _, _, _⟩ _ _ _, cellNames ⟨_, _, _, _, _⟩, _⟩ _ _ (_ :: _) _
    ktr_unf
    refine ih _ _ _ n ht (by lia) hI fun μ₂ hI₂ => ?_
    ktr_unf
    exact h _ hI₂
  | arr t k ih =>
    intro m K μ n ht hm hI h
    obtain ⟨k', rfl⟩ : ∃ k', m = k' + 3 := ⟨m - 3, by lia⟩
    simp only [Ty.dep, Ty.nreg] at hm hI
    have hf' := hf.weak (show j ≤ k' + 2 by lia)
    refine' F_def ["told", "change"] (ρ₀ := [("told", tyV (.arr t k)), ("change", f)]) ?ho ?hcode ?h1 ?h2 ?h3 rfl ?hnd ?hok ?hb ?_
    ktr_rel
    intro L
    show wpS _ _ ⟨envOfC _ ⟨_, _, _, _, _⟩ _ _ _, cellNames ⟨_, _, _, _, _⟩, _⟩ _ _ (_ :: _) _
    ktr_unf
    refine ih _ _ _ n ht (by lia) hI fun μ₂ hI₂ => ?_
    ktr_unf
    exact h _ hI₂
  | pair a b iha ihb =>
    intro m K μ n ht hm hI h
    obtain ⟨k', rfl⟩ : ∃ k', m = k' + 3 := ⟨m - 3, by lia⟩
    simp only [Ty.dep, Ty.nreg] at hm hI
    have hf' := hf.weak (show j ≤ k' + 2 by lia)
    refine' F_def ["told", "change"] (ρ₀ := [("told", tyV (.pair a b)), ("change", f)]) ?ho ?hcode ?h1 ?h2 ?h3 rfl ?hnd ?hok ?hb ?_
    ktr_rel
    intro L
    show wpS _ _ ⟨envOfC _ ⟨_, _, _, _, _⟩ _ _ _, cellNames ⟨_, _, _, _, _⟩, _⟩ _ _ (_ :: _) _
    ktr_unf
    refine iha _ _ _ (b.nreg + n) ht.1 (by lia) (by rwa [show a.nreg + (b.nreg + n) = a.nreg + b.nreg + n by lia]) fun μ₁ hI₁ => ?_
    ktr_unf
    refine ihb _ _ _ n ht.2 (by lia) hI₁ fun μ₂ hI₂ => ?_
    ktr_unf
    exact h _ hI₂
  | trip a b c iha ihb ihc =>
    intro m K μ n ht hm hI h
    obtain ⟨k', rfl⟩ : ∃ k', m = k' + 3 := ⟨m - 3, by lia⟩
    simp only [Ty.dep, Ty.nreg] at hm hI
    have hf' := hf.weak (show j ≤ k' + 2 by lia)
    refine' F_def ["told", "change"] (ρ₀ := [("told", tyV (.trip a b c)), ("change", f)]) ?ho ?hcode ?h1 ?h2 ?h3 rfl ?hnd ?hok ?hb ?_
    ktr_rel
    intro L
    show wpS _ _ ⟨envOfC _ ⟨_, _, _, _, _⟩ _ _ _, cellNames ⟨_, _, _, _, _⟩, _⟩ _ _ (_ :: _) _
    ktr_unf
    refine iha _ _ _ (b.nreg + (c.nreg + n)) ht.1 (by lia) (by rwa [show a.nreg + (b.nreg + (c.nreg + n)) = a.nreg + b.nreg + c.nreg + n by lia]) fun μ₁ hI₁ => ?_
    ktr_unf
    refine ihb _ _ _ (c.nreg + n) ht.2.1 (by lia) hI₁ fun μ₂ hI₂ => ?_
    ktr_unf
    refine ihc _ _ _ n ht.2.2 (by lia) hI₂ fun μ₃ hI₃ => ?_
    ktr_unf
    exact h _ hI₃
  | adt r t ih =>
    intro m K μ n ht hm hI h
    obtain ⟨k', rfl⟩ : ∃ k', m = k' + 3 := ⟨m - 3, by lia⟩
    simp only [Ty.dep, Ty.nreg] at hm hI
    have hf' := hf.weak (show j ≤ k' + 2 by lia)
    refine' F_def ["told", "change"] (ρ₀ := [("told", tyV (.adt r t)), ("change", f)]) ?ho ?hcode ?h1 ?h2 ?h3 rfl ?hnd ?hok ?hb ?_
    ktr_rel
    intro L
    show wpS _ _ ⟨envOfC _ ⟨_, _, _, _, _⟩ _ _ _, cellNames ⟨_, _, _, _, _⟩, _⟩ _ _ (_ :: _) _
    ktr_unf
    refine and2 hf.call ?_
    ktr_unf
    refine hf'.go (t.nreg + n) r _ _ ht.1 (by rwa [show t.nreg + n + 1 = t.nreg + 1 + n by lia]) fun μ₁ hI₁ => ?_
    ktr_unf
    refine parts_of_spec (.adt (φ r) t) ?_
    ktr_unf
    refine ih _ _ _ n ht.2 (by lia) hI₁ fun μ₂ hI₂ => ?_
    ktr_unf
    refine rebuilt_spec (t := .adt (φ r) t) (by constructor) ?_
    ktr_unf
    exact h _ hI₂
end
end
section
section
variable {W : Wd}
noncomputable def Rg.num : Rg → Prop
  | .n _ => True
  | .s _ => False
theorem regions_in_spec {t : Ty} {m : Nat} {K : V → Mem → Prop} {μ : Mem} (ht : t.allR Rg.num) (hm : t.dep + 8 ≤ m) (hN : t.nreg ≤ 100000) (hT : μ.lookup 68 = some (.tab "regions_in.<locals>.noted" 45 4)) (h : ∀ rs : List Int, rs.length = t.nreg → K (.lst (rs.map .int)) μ) : wpF W m (.raw (.ref 73)) [tyV t] μ K := by
  obtain ⟨k', rfl⟩ : ∃ k', m = k' + 3 := ⟨m - 3, by lia⟩
  refine wpF_frz ?_
  refine' F_def ["told"] (ρ₀ := [("told", tyV t)]) ?ho ?hcode ?h1 ?h2 ?h3 rfl ?hnd ?hok ?hb ?_
  ktr_rel
  intro L
  show wpS _ _ ⟨envOfC _ ⟨_, _, _, _, _⟩ _ _ _, cellNames ⟨_, _, _, _, _⟩, _⟩ _ _ (_ :: _) _
  refine S_cons (X_AssignName (E_ListM (Es_nil (fun a ha => ?_))))
  refine St_cell rfl rfl (List.mem_of_elem_eq_true rfl) List.not_mem_nil ?_
  refine seqK_next ?_
  refine S_fz (x := "found") rfl rfl (List.mem_of_elem_eq_true rfl) ?_
  have hTa : List.lookup 68 ((a, M.lst []) :: μ) = some (.tab "regions_in.<locals>.noted" 45 4) := by
    have : (68 : Addr) ≠ a := fun e => ha (e ▸ addr_of_mlookup hT)
    rw [List.lookup_cons, beq_eq_false_iff_ne.mpr this]; exact hT
  refine S_cons (X_Def (q := "regions_in.<locals>.noted") (x := "found") (c := 72) (P := 68) rfl rfl rfl rfl (by kernel_rfl) hTa (by first | rfl | kernel_rfl) rfl (fun cx hcx => ?_) (List.mem_of_elem_eq_true rfl) rfl ?_)
  · cases hcx; rfl
  intro cl doc pm c' ctv
  refine St_local rfl ?_
  refine seqK_next ?_
  ktr_unf
  refine with_regions_spec (φ := id) (p := Rg.num) (j := 2) (I := fun k μ' => ∃ rs : List Int, μ' = (a, M.lst (rs.map .int)) :: μ ∧ rs.length + k = t.nreg) ⟨callable_clo, ?_⟩ t _ _ _ 0 ht (by lia) ⟨[], rfl, by simp⟩ ?_
  · rintro k r μ₁ K₁ hr ⟨rs, rfl, hl⟩ hK
    cases r with
    | s x => exact hr.elim
    | n i =>
    refine F_clo (p := "region") rfl rfl rfl (by decide) rfl rfl (fun _ _ => BindsTo.of_eq rfl) fun L a' cells => ?_
    ktr_unf
    have hm0 : List.lookup a ((a, M.lst (rs.map V.int)) :: μ) = some (.lst (rs.map V.int)) := by rw [List.lookup_cons, beq_self_eq_true]
    refine Exists.intro _ (Exists.intro _ (and2 (meth_append hm0) (and2 callable_b ?_)))
    ktr_unf
    refine F_append hm0 (by rw [List.length_map, sizeLine_eq]; lia) ?_
    rw [mset_head ha]
    ktr_unf
    exact hK _ ⟨rs ++ [i], by simp [rgV], by simp; lia⟩
  · rintro μ₁ ⟨rs, rfl, hl⟩
    ktr_unf
    have hm0 : List.lookup a ((a, M.lst (rs.map V.int)) :: μ) = some (.lst (rs.map V.int)) := by rw [List.lookup_cons, beq_self_eq_true]
    refine ⟨_, _, .lst hm0, ?_⟩
    rw [mdel_head ha]
    exact h rs (by lia)
end
end
section
section
variable {W : Wd} {n : Nat} {μ : Mem}
noncomputable def relV (v : V) (p : Addr) : V := .inst 217 [("varied", v), ("pairs", .raw (.ref p))]
theorem inner_way_spec {w v : Wy} (hw : w ≠ .bi) {K : V → Mem → Prop} (h : K (wyV (within w v)) μ) : wpF W (n + 1) (.raw (.ref 228)) [wyV w, wyV v] μ K := by
  refine' F_def ["around", "inner"] (ρ₀ := [("around", wyV w), ("inner", wyV v)]) ?ho ?hcode ?h1 ?h2 ?h3 rfl ?hnd ?hok ?hb ?_
  ktr_rel
  intro L
  show wpS _ _ ⟨envOfC _ ⟨_, _, _, _, _⟩ _ _ _, cellNames ⟨_, _, _, _, _⟩, _⟩ _ _ (_ :: _) _
  cases w <;> cases v <;> first | exact absurd rfl hw | skip
  all_goals ktr_unf
  all_goals exact h
theorem outlives_spec {v : V} {p : Addr} {ps : List Pr} {a b : Int} {K : V → Mem → Prop} (hm : μ.lookup p = some (.lst (ps.map prV))) (hl : ps.length ≤ 1000)
    (h : ∀ ps', Add ps [(a, b)] ps' → K .none (mset μ p (.lst (ps'.map prV)))) : wpF W (n + 1) (.raw (.ref 192)) [relV v p, .int a, .int b] μ K := by
  refine F_nd fun nd => ?_
  refine' F_def ["self", "longer", "shorter"] (ρ₀ := [("self", relV v p), ("longer", .int a), ("shorter", .int b)]) ?ho ?hcode ?h1 ?h2 ?h3 rfl ?hnd ?hok ?hb ?_
  ktr_rel
  intro L
  show wpS _ _ ⟨envOfC _ ⟨_, _, _, _, _⟩ _ _ _, cellNames ⟨_, _, _, _, _⟩, _⟩ _ _ (_ :: _) _
  ktr_unf
  have same : mset μ p (M.lst (List.map prV ps)) = μ := mset_same nd hm
  refine ite_b (fun hc => ?_) (fun hc => ?_)
  · ktr_unf
    refine cmp_notin_pr (p := (a, b)) hm ?_
    refine ite_b (fun hd => ?_) (fun hd => ?_)
    · ktr_unf
      refine F_append hm (by rw [List.length_map, sizeLine_eq]; lia) ?_
      ktr_unf
      have := h (ps ++ [(a, b)]) ⟨fun x => by simp at hc; simp; constructor <;> (intro q; rcases q with q | q) <;> simp_all, by simp⟩
      rw [List.map_append] at this
      exact this
    · ktr_unf
      have := h ps ⟨fun x => by simp at hd; simp; intro e1 e2; subst e1; exact hd, by simp⟩
      rw [same] at this; exact this
  · ktr_unf
    have := h ps ⟨fun x => by simp at hc; simp; intro e1 e2; subst e1; exact absurd hc e2, by simp⟩
    rw [same] at this; exact this
theorem region_spec {v : V} {p : Addr} {ps : List Pr} {a b : Int} {w : Wy} {K : V → Mem → Prop} (hm : μ.lookup p = some (.lst (ps.map prV))) (hl : ps.length ≤ 900)
    (h : ∀ ps', Add ps (rp a b w) ps' → K .none (mset μ p (.lst (ps'.map prV)))) : wpF W (n + 2) (.raw (.ref 199)) [relV v p, .int a, .int b, wyV w] μ K := by
  refine F_nd fun nd => ?_
  refine' F_def ["self", "one", "other", "way"] (ρ₀ := [("self", relV v p), ("one", .int a), ("other", .int b), ("way", wyV w)]) ?ho ?hcode ?h1 ?h2 ?h3 rfl ?hnd ?hok ?hb ?_
  ktr_rel
  intro L
  show wpS _ _ ⟨envOfC _ ⟨_, _, _, _, _⟩ _ _ _, cellNames ⟨_, _, _, _, _⟩, _⟩ _ _ (_ :: _) _
  have same : mset μ p (M.lst (List.map prV ps)) = μ := mset_same nd hm
  cases w
  · ktr_unf
    refine outlives_spec hm (by lia) fun ps' hp => ?_
    ktr_unf
    exact h ps' hp
  · ktr_unf
    refine outlives_spec hm (by lia) fun ps' hp => ?_
    ktr_unf
    have := hp.len
    refine outlives_spec (mlookup_mset hm) (by simp at this; lia) fun ps'' hp' => ?_
    ktr_unf
    rw [mset_mset]
    exact h ps'' (hp.trans hp')
  · ktr_unf
    have := h ps Add.nil
    rw [same] at this; exact this
end
end
section
theorem prs_bi {v0 v1 : Wy} {s t : Ty} (h : Like s t) : prs v0 v1 s t .bi = [] := by
  induction h with
  | int x => rfl
  | ref _ ih => rw [prs_ref]; exact ih
  | box _ ih => exact ih
  | arr _ ih => exact ih
  | pair _ _ ih ik => rw [prs_pair, ih, ik]; rfl
  | adt _ ih => rw [prs_adt]; exact ih
theorem rp_len (a b : Int) (w : Wy) : (rp a b w).length ≤ 2 := by cases w <;> simp [rp]
theorem prs_len {v0 v1 : Wy} {s t : Ty} (w : Wy) (h : Like s t) : (prs v0 v1 s t w).length ≤ 2 * s.nreg := by
  induction h generalizing w with
  | int x => exact Nat.zero_le _
  | @ref a b m s t _ ih =>
    have := ih (within w (mw m))
    have := rp_len a b w
    rw [prs_ref, List.length_append, show (Ty.ref (.n a) m s).nreg = s.nreg + 1 from rfl]; lia
  | box _ ih => exact ih w
  | arr _ ih => exact ih w
  | @pair a b c d _ _ ih ik =>
    have := ih w
    have := ik w
    rw [prs_pair, List.length_append, show (Ty.pair a b).nreg = a.nreg + b.nreg from rfl]; lia
  | @adt a b s t _ ih =>
    have := ih (within w v1)
    have := rp_len a b (within w v0)
    rw [prs_adt, List.length_append, show (Ty.adt (.n a) s).nreg = s.nreg + 1 from rfl]; lia
noncomputable def varV (v0 v1 : Wy) : V := .dct [("P", .tup [wyV v0, wyV v1])]
section
variable {W : Wd} {n : Nat} {μ : Mem}
/-- what below tells of two types -/
noncomputable def BelowT (W : Wd) (v0 v1 : Wy) (p : Addr) (s t : Ty) (m : Nat) : Prop := ∀ (w : Wy) (ps : List Pr) (μ : Mem) (K : V → Mem → Prop), μ.lookup p = some (.lst (ps.map prV)) → ps.length + 2 * s.nreg ≤ 800 →
  (∀ ps', Add ps (prs v0 v1 s t w) ps' → K .none (mset μ p (.lst (ps'.map prV)))) → wpF W m (.raw (.ref 207)) [relV (varV v0 v1) p, tyV s, tyV t, wyV w] μ K
theorem parts_below_spec {v0 v1 : Wy} {p : Addr} {s t : Ty} {a b : Int} {w : Wy} {ps : List Pr} {K : V → Mem → Prop} (hw : w ≠ .bi) (ih : BelowT W v0 v1 p s t (n + 2)) (hm : μ.lookup p = some (.lst (ps.map prV))) (hl : ps.length + 2 * (s.nreg + 1) ≤ 800)
    (h : ∀ ps', Add ps (rp a b (within w v0) ++ prs v0 v1 s t (within w v1)) ps' → K .none (mset μ p (.lst (ps'.map prV)))) : wpF W (n + 3) (.raw (.ref 214)) [relV (varV v0 v1) p, tyV (.adt (.n a) s), tyV (.adt (.n b) t), wyV w] μ K := by
  refine' F_def ["self", "one", "other", "way"] (ρ₀ := [("self", relV (varV v0 v1) p), ("one", tyV (.adt (.n a) s)), ("other", tyV (.adt (.n b) t)), ("way", wyV w)]) ?ho ?hcode ?h1 ?h2 ?h3 rfl ?hnd ?hok ?hb ?_
  ktr_rel
  intro L
  show wpS _ _ ⟨envOfC _ ⟨_, _, _, _, _⟩ _ _ _, cellNames ⟨_, _, _, _, _⟩, _⟩ _ _ (_ :: _) _
  ktr_unf
  refine inner_way_spec hw ?_
  ktr_unf
  refine region_spec hm (by lia) fun ps' hp => ?_
  ktr_unf
  refine inner_way_spec hw ?_
  ktr_unf
  have := hp.len
  have := rp_len a b (within w v0)
  refine ih _ ps' _ _ (mlookup_mset hm) (by lia) fun ps'' hp' => ?_
  ktr_unf
  rw [mset_mset]
  exact h _ (hp.trans hp')
theorem below_spec {v0 v1 : Wy} {p : Addr} : ∀ {s t : Ty}, Like s t → ∀ {m : Nat}, 3 * s.dep + 4 ≤ m → BelowT W v0 v1 p s t m := by
  intro s t hL
  induction hL with
  | int x =>
    intro m hm' w ps μ K hm hl h
    obtain ⟨k', rfl⟩ : ∃ k', m = k' + 4 := ⟨m - 4, by lia⟩
    refine F_nd fun nd => ?_
    have same : mset μ p (M.lst (List.map prV ps)) = μ := mset_same nd hm
    have := h ps Add.nil
    rw [same] at this
    refine' F_def ["self", "one", "other", "way"] (ρ₀ := [("self", relV (varV v0 v1) p), ("one", tyV (.int x)), ("other", tyV (.int x)), ("way", wyV w)]) ?ho ?hcode ?h1 ?h2 ?h3 rfl ?hnd ?hok ?hb ?_
    ktr_rel
    intro L
    show wpS _ _ ⟨envOfC _ ⟨_, _, _, _, _⟩ _ _ _, cellNames ⟨_, _, _, _, _⟩, _⟩ _ _ (_ :: _) _
    cases w <;> ktr_unf
    all_goals exact this
  | @ref a b m s t hs ih =>
    intro m' hm' w ps μ K hm hl h
    obtain ⟨k', rfl⟩ : ∃ k', m' = k' + 4 := ⟨m' - 4, by lia⟩
    simp only [Ty.dep, Ty.nreg] at hm' hl
    refine F_nd fun nd => ?_
    have same : mset μ p (M.lst (List.map prV ps)) = μ := mset_same nd hm
    refine' F_def ["self", "one", "other", "way"] (ρ₀ := [("self", relV (varV v0 v1) p), ("one", tyV (.ref (.n a) m s)), ("other", tyV (.ref (.n b) m t)), ("way", wyV w)]) ?ho ?hcode ?h1 ?h2 ?h3 rfl ?hnd ?hok ?hb ?_
    ktr_rel
    intro L
    show wpS _ _ ⟨envOfC _ ⟨_, _, _, _, _⟩ _ _ _, cellNames ⟨_, _, _, _, _⟩, _⟩ _ _ (_ :: _) _
    cases w
    case bi =>
      have := h ps (by rw [prs_bi (.ref hs)]; exact Add.nil)
      rw [same] at this
      ktr_unf
      exact this
    all_goals
      ktr_unf
      refine region_spec hm (by lia) fun ps' hp => ?_
      have := hp.len
      have := rp_len a b .co
      have := rp_len a b .inn
      cases m
    all_goals
      ktr_unf
      first | refine ih (m := k' + 3) (by lia) .co ps' _ _ (mlookup_mset hm) (by lia) fun ps'' hp' => ?_ | refine ih (m := k' + 3) (by lia) .inn ps' _ _ (mlookup_mset hm) (by lia) fun ps'' hp' => ?_
      ktr_unf
      rw [mset_mset]
      exact h _ (hp.trans hp')
  | @box s t hs ih =>
    intro m' hm' w ps μ K hm hl h
    obtain ⟨k', rfl⟩ : ∃ k', m' = k' + 4 := ⟨m' - 4, by lia⟩
    simp only [Ty.dep, Ty.nreg] at hm' hl
    refine F_nd fun nd => ?_
    have same : mset μ p (M.lst (List.map prV ps)) = μ := mset_same nd hm
    refine' F_def ["self", "one", "other", "way"] (ρ₀ := [("self", relV (varV v0 v1) p), ("one", tyV (.box s)), ("other", tyV (.box t)), ("way", wyV w)]) ?ho ?hcode ?h1 ?h2 ?h3 rfl ?hnd ?hok ?hb ?_
    ktr_rel
    intro L
    show wpS _ _ ⟨envOfC _ ⟨_, _, _, _, _⟩ _ _ _, cellNames ⟨_, _, _, _, _⟩, _⟩ _ _ (_ :: _) _
    cases w
    case bi =>
      have := h ps (by rw [prs_bi (.box hs)]; exact Add.nil)
      rw [same] at this
      ktr_unf
      exact this
    all_goals
      ktr_unf
      first | refine ih (m := k' + 3) (by lia) .co ps _ _ hm (by lia) fun ps'' hp' => ?_ | refine ih (m := k' + 3) (by lia) .inn ps _ _ hm (by lia) fun ps'' hp' => ?_
      ktr_unf
      exact h _ hp'
  | @arr s t k hs ih =>
    intro m' hm' w ps μ K hm hl h
    obtain ⟨k', rfl⟩ : ∃ k', m' = k' + 4 := ⟨m' - 4, by lia⟩
    simp only [Ty.dep, Ty.nreg] at hm' hl
    refine F_nd fun nd => ?_
    have same : mset μ p (M.lst (List.map prV ps)) = μ := mset_same nd hm
    refine' F_def ["self", "one", "other", "way"] (ρ₀ := [("self", relV (varV v0 v1) p), ("one", tyV (.arr s k)), ("other", tyV (.arr t k)), ("way", wyV w)]) ?ho ?hcode ?h1 ?h2 ?h3 rfl ?hnd ?hok ?hb ?_
    ktr_rel
    intro L
    show wpS _ _ ⟨envOfC _ ⟨_, _, _, _, _⟩ _ _ _, cellNames ⟨_, _, _, _, _⟩, _⟩ _ _ (_ :: _) _
    cases w
    case bi =>
      have := h ps (by rw [prs_bi (.arr hs)]; exact Add.nil)
      rw [same] at this
      ktr_unf
      exact this
    all_goals
      ktr_unf
      first | refine ih (m := k' + 3) (by lia) .co ps _ _ hm (by lia) fun ps'' hp' => ?_ | refine ih (m := k' + 3) (by lia) .inn ps _ _ hm (by lia) fun ps'' hp' => ?_
      ktr_unf
      exact h _ hp'
  | @pair a b c d ha hb iha ihb =>
    intro m' hm' w ps μ K hm hl h
    obtain ⟨k', rfl⟩ : ∃ k', m' = k' + 4 := ⟨m' - 4, by lia⟩
    simp only [Ty.dep, Ty.nreg] at hm' hl
    refine F_nd fun nd => ?_
    have same : mset μ p (M.lst (List.map prV ps)) = μ := mset_same nd hm
    refine' F_def ["self", "one", "other", "way"] (ρ₀ := [("self", relV (varV v0 v1) p), ("one", tyV (.pair a b)), ("other", tyV (.pair c d)), ("way", wyV w)]) ?ho ?hcode ?h1 ?h2 ?h3 rfl ?hnd ?hok ?hb ?_
    ktr_rel
    intro L
    show wpS _ _ ⟨envOfC _ ⟨_, _, _, _, _⟩ _ _ _, cellNames ⟨_, _, _, _, _⟩, _⟩ _ _ (_ :: _) _
    cases w
    case bi =>
      have := h ps (by rw [prs_bi (.pair ha hb)]; exact Add.nil)
      rw [same] at this
      ktr_unf
      exact this
    all_goals
      ktr_unf
      first | refine iha (m := k' + 3) (by lia) .co ps _ _ hm (by lia) fun ps' hp => ?_ | refine iha (m := k' + 3) (by lia) .inn ps _ _ hm (by lia) fun ps' hp => ?_
      have := hp.len
      have := prs_len (v0 := v0) (v1 := v1) .co ha
      have := prs_len (v0 := v0) (v1 := v1) .inn ha
      ktr_unf
      first | refine ihb (m := k' + 3) (by lia) .co ps' _ _ (mlookup_mset hm) (by lia) fun ps'' hp' => ?_ | refine ihb (m := k' + 3) (by lia) .inn ps' _ _ (mlookup_mset hm) (by lia) fun ps'' hp' => ?_
      ktr_unf
      rw [mset_mset]
      exact h _ (hp.trans hp')
  | @adt a b s t hs ih =>
    intro m' hm' w ps μ K hm hl h
    obtain ⟨k', rfl⟩ : ∃ k', m' = k' + 7 := ⟨m' - 7, by simp only [Ty.dep] at hm'; lia⟩
    simp only [Ty.dep, Ty.nreg] at hm' hl
    refine F_nd fun nd => ?_
    have same : mset μ p (M.lst (List.map prV ps)) = μ := mset_same nd hm
    refine' F_def ["self", "one", "other", "way"] (ρ₀ := [("self", relV (varV v0 v1) p), ("one", tyV (.adt (.n a) s)), ("other", tyV (.adt (.n b) t)), ("way", wyV w)]) ?ho ?hcode ?h1 ?h2 ?h3 rfl ?hnd ?hok ?hb ?_
    ktr_rel
    intro L
    show wpS _ _ ⟨envOfC _ ⟨_, _, _, _, _⟩ _ _ _, cellNames ⟨_, _, _, _, _⟩, _⟩ _ _ (_ :: _) _
    cases w
    case bi =>
      have := h ps (by rw [prs_bi (.adt hs)]; exact Add.nil)
      rw [same] at this
      ktr_unf
      exact this
    all_goals
      ktr_unf
      first | refine parts_below_spec (w := .co) (by decide) (ih (by lia)) hm (by lia) fun ps' hp => ?_ | refine parts_below_spec (w := .inn) (by decide) (ih (by lia)) hm (by lia) fun ps' hp => ?_
      ktr_unf
      exact h _ hp
end
end
section
section
variable {W : Wd} {n : Nat} {μ : Mem}
theorem Relation_new {v : V} {K : V → Mem → Prop} (h : ∀ p, p ∉ addrs μ → K (relV v p) ((p, .lst []) :: μ)) : wpF W (n + 2) (.raw (.ref 217)) [v] μ K := by
  refine F_class (fI := 185) (by k_is) (by k_is) (by k_is) fun x dx hdx => ?_
  refine' C_def ["self", "varied"] (ρ₀ := [("self", .obj x 217 dx), ("varied", v)]) ?ho ?hcode ?h1 ?h2 ?h3 rfl ?hnd ?hok ?hb ?_
  ktr_rel
  intro L
  show wpS _ _ ⟨envOfC _ ⟨_, _, _, _, _⟩ _ _ _, cellNames ⟨_, _, _, _, _⟩, _⟩ _ _ (_ :: _) _
  ktr_unf
  refine ⟨x, 217, dx, [], rfl, os_Relation_varied, mlookup_head, rfl, by simp, ?_⟩
  rw [mset_head hdx]
  ktr_unf
  refine E_ListM (Es_nil fun p hp => ?_)
  have hpd : p ≠ dx := fun e => hp (by rw [e]; exact List.mem_cons_self)
  ktr_unf
  refine ⟨x, 217, dx, _, rfl, os_Relation_pairs, (mlookup_tail hpd.symm).trans mlookup_head, rfl, by simp, ?_⟩
  rw [mset_ne hpd, mset_head hdx]
  ktr_unf
  refine ⟨rfl, _, (mlookup_tail hpd.symm).trans mlookup_head, ?_⟩
  rw [mdel_ne hpd, mdel_head hdx]
  exact h p fun q => hp (List.mem_cons_of_mem _ q)
set_option maxHeartbeats 20000000 in
theorem below3_spec {v0 v1 : Wy} {p : Addr} {s t : Ty} (hL : Like s t) {mm : Nat} (hm' : 3 * s.dep + 4 ≤ mm) {ps : List Pr} {K : V → Mem → Prop} (hm : μ.lookup p = some (.lst (ps.map prV))) (hl : ps.length + 2 * s.nreg ≤ 800)
    (h : ∀ ps', Add ps (prs v0 v1 s t .co) ps' → K .none (mset μ p (.lst (ps'.map prV)))) : wpF W mm (.raw (.ref 207)) [relV (varV v0 v1) p, tyV s, tyV t] μ K := by
  refine F_nd fun nd => ?_
  have same : mset μ p (M.lst (List.map prV ps)) = μ := mset_same nd hm
  cases hL with
  | int x =>
    obtain ⟨k', rfl⟩ : ∃ k', mm = k' + 4 := ⟨mm - 4, by simp only [Ty.dep] at hm'; lia⟩
    simp only [Ty.dep, Ty.nreg] at hm' hl
    refine' F_def ["self", "one", "other", "way"] (ρ₀ := [("self", relV (varV v0 v1) p), ("one", tyV (.int x)), ("other", tyV (.int x)), ("way", wyV .co)]) ?ho ?hcode ?h1 ?h2 ?h3 rfl ?hnd ?hok ?hb ?_
    ktr_rel
    intro L
    show wpS _ _ ⟨envOfC _ ⟨_, _, _, _, _⟩ _ _ _, cellNames ⟨_, _, _, _, _⟩, _⟩ _ _ (_ :: _) _
    ktr_unf
    have := h ps Add.nil
    rw [same] at this
    exact this
  | @ref a b m s t hs =>
    obtain ⟨k', rfl⟩ : ∃ k', mm = k' + 4 := ⟨mm - 4, by simp only [Ty.dep] at hm'; lia⟩
    simp only [Ty.dep, Ty.nreg] at hm' hl
    refine' F_def ["self", "one", "other", "way"] (ρ₀ := [("self", relV (varV v0 v1) p), ("one", tyV (.ref (.n a) m s)), ("other", tyV (.ref (.n b) m t)), ("way", wyV .co)]) ?ho ?hcode ?h1 ?h2 ?h3 rfl ?hnd ?hok ?hb ?_
    ktr_rel
    intro L
    show wpS _ _ ⟨envOfC _ ⟨_, _, _, _, _⟩ _ _ _, cellNames ⟨_, _, _, _, _⟩, _⟩ _ _ (_ :: _) _
    ktr_unf
    refine region_spec (w := .co) hm (by lia) fun ps' hp => ?_
    have := hp.len
    have := rp_len a b .co
    cases m
    all_goals
      ktr_unf
      first | refine below_spec hs (m := k' + 3) (by lia) .co ps' _ _ (mlookup_mset hm) (by lia) fun ps'' hp' => ?_ | refine below_spec hs (m := k' + 3) (by lia) .inn ps' _ _ (mlookup_mset hm) (by lia) fun ps'' hp' => ?_
      ktr_unf
      rw [mset_mset]
      exact h _ (hp.trans hp')
  | @box s t hs =>
    obtain ⟨k', rfl⟩ : ∃ k', mm = k' + 4 := ⟨mm - 4, by simp only [Ty.dep] at hm'; lia⟩
    simp only [Ty.dep, Ty.nreg] at hm' hl
    refine' F_def ["self", "one", "other", "way"] (ρ₀ := [("self", relV (varV v0 v1) p), ("one", tyV (.box s)), ("other", tyV (.box t)), ("way", wyV .co)]) ?ho ?hcode ?h1 ?h2 ?h3 rfl ?hnd ?hok ?hb ?_
    ktr_rel
    intro L
    show wpS _ _ ⟨envOfC _ ⟨_, _, _, _, _⟩ _ _ _, cellNames ⟨_, _, _, _, _⟩, _⟩ _ _ (_ :: _) _
    ktr_unf
    refine below_spec hs (m := k' + 3) (by lia) .co ps _ _ hm (by lia) fun ps'' hp' => ?_
    ktr_unf
    exact h _ hp' 
  | @arr s t k hs =>
    obtain ⟨k', rfl⟩ : ∃ k', mm = k' + 4 := ⟨mm - 4, by simp only [Ty.dep] at hm'; lia⟩
    simp only [Ty.dep, Ty.nreg] at hm' hl
    refine' F_def ["self", "one", "other", "way"] (ρ₀ := [("self", relV (varV v0 v1) p), ("one", tyV (.arr s k)), ("other", tyV (.arr t k)), ("way", wyV .co)]) ?ho ?hcode ?h1 ?h2 ?h3 rfl ?hnd ?hok ?hb ?_
    ktr_rel
    intro L
    show wpS _ _ ⟨envOfC _ ⟨_, _, _, _, _⟩ _ _ _, cellNames ⟨_, _, _, _, _⟩, _⟩ _ _ (_ :: _) _
    ktr_unf
    refine below_spec hs (m := k' + 3) (by lia) .co ps _ _ hm (by lia) fun ps'' hp' => ?_
    ktr_unf
    exact h _ hp' 
  | @pair a b c d ha hb =>
    obtain ⟨k', rfl⟩ : ∃ k', mm = k' + 4 := ⟨mm - 4, by simp only [Ty.dep] at hm'; lia⟩
    simp only [Ty.dep, Ty.nreg] at hm' hl
    refine' F_def ["self", "one", "other", "way"] (ρ₀ := [("self", relV (varV v0 v1) p), ("one", tyV (.pair a b)), ("other", tyV (.pair c d)), ("way", wyV .co)]) ?ho ?hcode ?h1 ?h2 ?h3 rfl ?hnd ?hok ?hb ?_
    ktr_rel
    intro L
    show wpS _ _ ⟨envOfC _ ⟨_, _, _, _, _⟩ _ _ _, cellNames ⟨_, _, _, _, _⟩, _⟩ _ _ (_ :: _) _
    ktr_unf
    refine below_spec ha (m := k' + 3) (by lia) .co ps _ _ hm (by lia) fun ps' hp => ?_
    have := hp.len
    have := prs_len (v0 := v0) (v1 := v1) .co ha
    ktr_unf
    refine below_spec hb (m := k' + 3) (by lia) .co ps' _ _ (mlookup_mset hm) (by lia) fun ps'' hp' => ?_
    ktr_unf
    rw [mset_mset]
    exact h _ (hp.trans hp')
  | @adt a b s t hs =>
    obtain ⟨k', rfl⟩ : ∃ k', mm = k' + 7 := ⟨mm - 7, by simp only [Ty.dep] at hm'; lia⟩
    simp only [Ty.dep, Ty.nreg] at hm' hl
    refine' F_def ["self", "one", "other", "way"] (ρ₀ := [("self", relV (varV v0 v1) p), ("one", tyV (.adt (.n a) s)), ("other", tyV (.adt (.n b) t)), ("way", wyV .co)]) ?ho ?hcode ?h1 ?h2 ?h3 rfl ?hnd ?hok ?hb ?_
    ktr_rel
    intro L
    show wpS _ _ ⟨envOfC _ ⟨_, _, _, _, _⟩ _ _ _, cellNames ⟨_, _, _, _, _⟩, _⟩ _ _ (_ :: _) _
    ktr_unf
    refine parts_below_spec (w := .co) (by decide) (below_spec hs (by lia)) hm (by lia) fun ps' hp => ?_
    ktr_unf
    exact h _ hp
/-- what related gives of two types: the pairs in some order -/
noncomputable def PairsOf (qs rs : List Pr) : Prop := ∀ x, x ∈ rs ↔ x ∈ qs ∧ x.1 ≠ x.2
theorem related_spec {v0 v1 : Wy} {s t : Ty} (hL : Like s t) (hm : 3 * s.dep + 7 ≤ n) (hz : s.nreg ≤ 100) {K : V → Mem → Prop}
    (h : ∀ rs : List Pr, PairsOf (prs v0 v1 s t .co) rs → rs.length ≤ 2 * s.nreg → K (.lst (rs.map prV)) μ) : wpF W n (.raw (.ref 235)) [tyV s, tyV t, varV v0 v1] μ K := by
  obtain ⟨k', rfl⟩ : ∃ k', n = k' + 3 := ⟨n - 3, by lia⟩
  refine wpF_frz ?_
  refine' F_def ["one", "other", "varied"] (ρ₀ := [("one", tyV s), ("other", tyV t), ("varied", varV v0 v1)]) ?ho ?hcode ?h1 ?h2 ?h3 rfl ?hnd ?hok ?hb ?_
  ktr_rel
  intro L
  show wpS _ _ ⟨envOfC _ ⟨_, _, _, _, _⟩ _ _ _, cellNames ⟨_, _, _, _, _⟩, _⟩ _ _ (_ :: _) _
  ktr_unf
  refine Relation_new fun p hp' => ?_
  ktr_unf
  refine below3_spec (ps := []) hL (by lia) mlookup_head (by simp; lia) fun ps' hp => ?_
  rw [mset_head hp']
  ktr_unf
  refine ⟨_, _, .lst mlookup_head, ?_⟩
  rw [mdel_head hp']
  have := hp.len
  have := prs_len (v0 := v0) (v1 := v1) .co hL
  exact h ps' (fun x => by rw [hp.mem]; simp) (by simp at *; lia)
end
end
section
/-! ## places -/
inductive Pj where
  | fld (k : Nat) | idx | der
noncomputable def pjV : Pj → V
  | .fld k => .tup [.str "field", .int k]
  | .idx => .tup [.str "index", .int 0]
  | .der => .tup [.str "deref"]
inductive Stp : Ty → Pj → Ty → Prop
  | f0 {a b} : Stp (.pair a b) (.fld 0) a
  | f1 {a b} : Stp (.pair a b) (.fld 1) b
  | idx {t k} : Stp (.arr t k) .idx t
  | box {t} : Stp (.box t) .der t
  | ref {r m t} : Stp (.ref (.n r) m t) .der t
noncomputable def refW : Ty → List (Int × Bool) → List (Int × Bool)
  | .ref (.n r) m _, ws => (r, m) :: ws
  | _, ws => ws
/-- from a type along steps: the type there, the references on the way from the last on -/
inductive At (t0 : Ty) : List Pj → Ty → List (Int × Bool) → Prop
  | nil : At t0 [] t0 []
  | step {ps t ws p t'} : At t0 ps t ws → Stp t p t' → At t0 (ps ++ [p]) t' (refW t ws)
inductive Fw : Ty → List Pj → Ty → Prop
  | nil {t} : Fw t [] t
  | cons {t p t' ps u} : Stp t p t' → Fw t' ps u → Fw t (p :: ps) u
theorem Fw.snoc {t ps u p u'} (a : Fw t ps u) (h : Stp u p u') : Fw t (ps ++ [p]) u' := by
  induction a with
  | nil => exact .cons h .nil
  | cons a _ ih => exact .cons a (ih h)
theorem At.fw {t0 ps t ws} (h : At t0 ps t ws) : Fw t0 ps t := by
  induction h with
  | nil => exact .nil
  | step _ h ih => exact ih.snoc h
noncomputable def rowV (t : Ty) : V := .tup [tyV t, .bool true, .none]
noncomputable def bodyV (rows : List Ty) (blk : V) : V := .inst 146 [("name", .str "b"), ("arg_count", .int 0), ("locals", .lst (rows.map rowV)), ("blocks", blk), ("spots", .dct [])]
noncomputable def plV (l : Nat) (ps : List Pj) : V := .tup [.int l, .tup (ps.map pjV)]
section
variable {W : Wd} {n : Nat} {F : Fm} {ρ : Loc} {μ : Mem} {pos : Pos}
theorem type_of_spec {rows : List Ty} {blk : V} {l : Nat} {t : Ty} (hl : rows[l]? = some t) (hz : l < 1000) {K : V → Mem → Prop} (h : K (tyV t) μ) : wpF W (n + 1) (.raw (.ref 107)) [bodyV rows blk, .int l] μ K := by
  refine' F_def ["self", "local"] (ρ₀ := [("self", bodyV rows blk), ("local", .int l)]) ?ho ?hcode ?h1 ?h2 ?h3 rfl ?hnd ?hok ?hb ?_
  ktr_rel
  intro L
  show wpS _ _ ⟨envOfC _ ⟨_, _, _, _, _⟩ _ _ _, cellNames ⟨_, _, _, _, _⟩, _⟩ _ _ (_ :: _) _
  ktr_unf
  refine sub_lst (y := rowV t) (by simp) (Int.lt_trans (by lia) (show (1000 : Int) < 2 ^ 63 by decide)) (by simp [hl]) ?_
  ktr_unf
  exact h
theorem field_type_spec {a b t : Ty} {k : Nat} {wd : V} (hs : Stp (.pair a b) (.fld k) t) {K : V → Mem → Prop} (h : K (tyV t) μ) : wpF W (n + 1) (.raw (.ref 157)) [tyV (.pair a b), .int 0, .int k, wd] μ K := by
  refine' F_def ["told", "variant", "k", "world"] (ρ₀ := [("told", tyV (.pair a b)), ("variant", .int 0), ("k", .int k), ("world", wd)]) ?ho ?hcode ?h1 ?h2 ?h3 rfl ?hnd ?hok ?hb ?_
  ktr_rel
  intro L
  show wpS _ _ ⟨envOfC _ ⟨_, _, _, _, _⟩ _ _ _, cellNames ⟨_, _, _, _, _⟩, _⟩ _ _ (_ :: _) _
  cases hs <;> ktr_unf
  all_goals exact h
theorem projected_spec {t t' : Ty} {p : Pj} {wd : V} (hs : Stp t p t') {K : V → Mem → Prop} (h : K (.tup [tyV t', .int 0]) μ) : wpF W (n + 2) (.raw (.ref 164)) [tyV t, .int 0, pjV p, wd] μ K := by
  refine' F_def ["told", "variant", "projection", "world"] (ρ₀ := [("told", tyV t), ("variant", .int 0), ("projection", pjV p), ("world", wd)]) ?ho ?hcode ?h1 ?h2 ?h3 rfl ?hnd ?hok ?hb ?_
  ktr_rel
  intro L
  show wpS _ _ ⟨envOfC _ ⟨_, _, _, _, _⟩ _ _ _, cellNames ⟨_, _, _, _, _⟩, _⟩ _ _ (_ :: _) _
  cases hs
  case f0 =>
    ktr_unf
    refine field_type_spec .f0 ?_
    ktr_unf
    exact h
  case f1 =>
    ktr_unf
    refine field_type_spec .f1 ?_
    ktr_unf
    exact h
  all_goals ktr_unf
  all_goals exact h
theorem place_type_spec {rows : List Ty} {blk : V} {l : Nat} {ps : List Pj} {t0 t : Ty} {ws : List (Int × Bool)} {wd : V} (hl : rows[l]? = some t0) (hz : l < 1000) (ha : At t0 ps t ws) {K : V → Mem → Prop} (h : K (tyV t) μ) : wpF W (n + 3) (.raw (.ref 171)) [bodyV rows blk, plV l ps, wd] μ K := by
  refine' F_def ["body", "place", "world"] (ρ₀ := [("body", bodyV rows blk), ("place", plV l ps), ("world", wd)]) ?ho ?hcode ?h1 ?h2 ?h3 rfl ?hnd ?hok ?hb ?_
  ktr_rel
  intro L
  show wpS _ _ ⟨envOfC _ ⟨_, _, _, _, _⟩ _ _ _, cellNames ⟨_, _, _, _, _⟩, _⟩ _ _ (_ :: _) _
  ktr_unf
  refine type_of_spec hl hz ?_
  ktr_unf
  refine forL_inv (fun xs ρ μ' => μ' = μ ∧ ∃ ps2 t1, xs = ps2.map pjV ∧ Fw t1 ps2 t ∧ Lk ρ "told" (tyV t1) ∧ Lk ρ "variant" (.int 0) ∧ Lk ρ "world" wd) ?_ ?_ _ _ _ ⟨rfl, ps, t0, rfl, ha.fw, rfl, rfl, rfl⟩
  · rintro ρ μ' ⟨rfl, ps2, t1, e, hfw, h1, h2, h3⟩
    cases ps2 with
    | cons _ _ => cases e
    | nil =>
      cases hfw
      ktr_unf
      exact h
  · rintro I hI y ys ρ μ' ⟨rfl, ps2, t1, e, hfw, h1, h2, h3⟩
    cases ps2 with
    | nil => cases e
    | cons p ps2 =>
      cases e
      cases hfw with
      | cons hs hfw =>
        ktr_unf
        refine projected_spec hs ?_
        ktr_unf
        exact hI _ _ _ ⟨rfl, ps2, _, rfl, hfw, rfl, rfl, h3⟩
end
end
section
/-! ## the found rows -/
noncomputable abbrev Fd := Int × Int × Nat
noncomputable def trV (f : Fd) : V := .tup [.int f.1, .int f.2.1, .tup [.int 0, .int f.2.2]]
noncomputable def tag (i : Nat) (rs : List Pr) : List Fd := rs.map fun p => (p.1, p.2, i)
noncomputable def ptV (i : Nat) : V := .tup [.int 0, .int i]
theorem PairsOf.nil : PairsOf [] [] := fun x => by simp
theorem PairsOf.append {a b c d : List Pr} (h : PairsOf a b) (k : PairsOf c d) : PairsOf (a ++ c) (b ++ d) := fun x => by
  rw [List.mem_append, List.mem_append, h x, k x]
  constructor
  · rintro (⟨q, r⟩ | ⟨q, r⟩)
    · exact ⟨.inl q, r⟩
    · exact ⟨.inr q, r⟩
  · rintro ⟨q | q, r⟩
    · exact .inl ⟨q, r⟩
    · exact .inr ⟨q, r⟩
noncomputable def adtP : V := .inst 391 [("path", .str "P"), ("module", .str ""), ("regions", .tup [.str "'a"]), ("params", .tup [.str "T"]), ("variants", .lst [.tup [.str "P", .str "tuple", .lst [.tup [.str "0", tyV (.ref (.s "'a") false (.par "T"))], .tup [.str "1", tyV (.par "T")]]]]), ("publics", .raw (.ref 380)), ("is_enum", .bool false)]
noncomputable def worldV : V := .inst 420 [("modules", .none), ("adts", .dct [("P", adtP)]), ("variants", .dct []), ("sigs", .dct []), ("traits", .dct []), ("impls", .lst []), ("consts", .dct []), ("bodies", .dct [])]
noncomputable def conV (body : V) (v0 v1 : Wy) (r : Addr) (nx : Int) : V := .inst 344 [("body", body), ("world", worldV), ("varied", varV v0 v1), ("rows", .raw (.ref r)), ("next", .int nx)]
section
variable {W : Wd} {n : Nat} {μ : Mem}
theorem note_spec {body : V} {v0 v1 : Wy} {r : Addr} {nx : Int} {s t : Ty} {i : Nat} {fs : List Fd} (hL : Like s t) (hn : 3 * s.dep + 8 ≤ n) (hz : s.nreg ≤ 100) (hm : μ.lookup r = some (.lst (fs.map trV))) (hl : fs.length ≤ 100000) {K : V → Mem → Prop}
    (h : ∀ rs, PairsOf (prs v0 v1 s t .co) rs → rs.length ≤ 2 * s.nreg → K .none (mset μ r (.lst ((fs ++ tag i rs).map trV)))) : wpF W n (.raw (.ref 294)) [conV body v0 v1 r nx, tyV s, tyV t, ptV i] μ K := by
  obtain ⟨k', rfl⟩ : ∃ k', n = k' + 1 := ⟨n - 1, by lia⟩
  refine F_nd fun nd => ?_
  have same : mset μ r (M.lst (List.map trV fs)) = μ := mset_same nd hm
  refine' F_def ["self", "one", "other", "point"] (ρ₀ := [("self", conV body v0 v1 r nx), ("one", tyV s), ("other", tyV t), ("point", ptV i)]) ?ho ?hcode ?h1 ?h2 ?h3 rfl ?hnd ?hok ?hb ?_
  ktr_rel
  intro L
  show wpS _ _ ⟨envOfC _ ⟨_, _, _, _, _⟩ _ _ _, cellNames ⟨_, _, _, _, _⟩, _⟩ _ _ (_ :: _) _
  ktr_unf
  refine related_spec hL (by lia) hz fun rs hrs hrl => ?_
  ktr_unf
  refine forL_inv (fun xs ρ μ' => Bx (∃ r1 r2, rs = r1 ++ r2 ∧ xs = r2.map prV ∧ μ' = mset μ r (.lst ((fs ++ tag i r1).map trV)) ∧ Lk ρ "self" (conV body v0 v1 r nx) ∧ Lk ρ "point" (ptV i))) ?_ ?_ _ _ _ ⟨⟨[], rs, rfl, rfl, by simp [tag, same], rfl, rfl⟩⟩
  · rintro ρ μ' ⟨⟨r1, r2, rfl, e, rfl, h1, h2⟩⟩
    cases r2 with
    | cons _ _ => cases e
    | nil =>
      ktr_unf
      rw [List.append_nil] at hrs hrl
      exact h r1 hrs hrl
  · rintro I hI y ys ρ μ' ⟨⟨r1, r2, rfl, e, rfl, h1, h2⟩⟩
    cases r2 with
    | nil => cases e
    | cons p r2 =>
      cases e
      have hm' := mlookup_mset (m' := .lst ((fs ++ tag i r1).map trV)) hm
      refine Tg_sub rfl (sub_cons h1 (sub_cons h2 sub_nil)) ?_
      ktr_unf
      refine F_append hm' (by simp [tag] at hrl ⊢; rw [sizeLine_eq]; lia) ?_
      rw [mset_mset]
      ktr_unf
      exact hI _ _ _ ⟨⟨r1 ++ [p], r2, by simp, rfl, by simp [tag, trV, ptV], rfl, rfl⟩⟩
theorem con_type_of_spec {rows : List Ty} {blk : V} {v0 v1 : Wy} {r : Addr} {nx : Int} {l : Nat} {ps : List Pj} {t0 t : Ty} {ws : List (Int × Bool)} (hl : rows[l]? = some t0) (hz : l < 1000) (ha : At t0 ps t ws) {K : V → Mem → Prop} (h : K (tyV t) μ) :
    wpF W (n + 4) (.raw (.ref 301)) [conV (bodyV rows blk) v0 v1 r nx, plV l ps] μ K := by
  refine' F_def ["self", "place"] (ρ₀ := [("self", conV (bodyV rows blk) v0 v1 r nx), ("place", plV l ps)]) ?ho ?hcode ?h1 ?h2 ?h3 rfl ?hnd ?hok ?hb ?_
  ktr_rel
  intro L
  show wpS _ _ ⟨envOfC _ ⟨_, _, _, _, _⟩ _ _ _, cellNames ⟨_, _, _, _, _⟩, _⟩ _ _ (_ :: _) _
  ktr_unf
  refine place_type_spec hl hz ha ?_
  ktr_unf
  exact h
inductive Opn where
  | cp (l : Nat) (ps : List Pj) | mv (l : Nat) (ps : List Pj) | ct (x : Str)
noncomputable def opV : Opn → V
  | .cp l ps => .tup [.str "copy", plV l ps]
  | .mv l ps => .tup [.str "move", plV l ps]
  | .ct x => .tup [.str "const", tyV (.int x), .int 3]
inductive OpT (rows : List Ty) : Opn → Ty → Prop
  | cp {l ps t0 t ws} : rows[l]? = some t0 → l < 1000 → At t0 ps t ws → OpT rows (.cp l ps) t
  | mv {l ps t0 t ws} : rows[l]? = some t0 → l < 1000 → At t0 ps t ws → OpT rows (.mv l ps) t
  | ct {x} : OpT rows (.ct x) (.int x)
theorem operand_type_spec {rows : List Ty} {blk : V} {v0 v1 : Wy} {r : Addr} {nx : Int} {o : Opn} {t : Ty} (ho : OpT rows o t) {K : V → Mem → Prop} (h : K (tyV t) μ) :
    wpF W (n + 5) (.raw (.ref 308)) [conV (bodyV rows blk) v0 v1 r nx, opV o] μ K := by
  refine' F_def ["self", "operand"] (ρ₀ := [("self", conV (bodyV rows blk) v0 v1 r nx), ("operand", opV o)]) ?ho ?hcode ?h1 ?h2 ?h3 rfl ?hnd ?hok ?hb ?_
  ktr_rel
  intro L
  show wpS _ _ ⟨envOfC _ ⟨_, _, _, _, _⟩ _ _ _, cellNames ⟨_, _, _, _, _⟩, _⟩ _ _ (_ :: _) _
  cases ho
  case cp l ps t0 ws hl hz ha =>
    ktr_unf
    refine con_type_of_spec hl hz ha ?_
    ktr_unf
    exact h
  case mv l ps t0 ws hl hz ha =>
    ktr_unf
    refine con_type_of_spec hl hz ha ?_
    ktr_unf
    exact h
  case ct =>
    ktr_unf
    exact h
/-! ## through -/
noncomputable def thr (r : Int) : List (Int × Bool) → List Pr
  | [] => []
  | (o, m) :: ws => (o, r) :: if m then thr r ws else []
theorem At.inv {t0 : Ty} {qs : List Pj} {t : Ty} {ws : List (Int × Bool)} (h : At t0 qs t ws) : ∀ {ps : List Pj} {p : Pj}, qs = ps ++ [p] → ∃ t' ws', At t0 ps t' ws' ∧ Stp t' p t ∧ ws = refW t' ws' := by
  cases h with
  | nil => intro ps p e; simp at e
  | @step ps' t' ws' p' _ h1 h2 =>
    intro ps p e
    have e1 := List.append_inj_left' e rfl
    have e2 := List.append_inj_right' e rfl
    cases e1; cases e2
    exact ⟨t', ws', h1, h2, rfl⟩
theorem refW_len (t : Ty) (ws : List (Int × Bool)) : (refW t ws).length ≤ ws.length + 1 := by
  unfold refW; split <;> simp
theorem At.len {t0 : Ty} {ps : List Pj} {t : Ty} {ws : List (Int × Bool)} (h : At t0 ps t ws) : ws.length ≤ ps.length := by
  induction h with
  | nil => simp
  | step _ _ ih => have := refW_len ‹_› ‹_›; rw [List.length_append]; simp; exact Nat.le_trans (refW_len _ _) (by lia)
theorem At.nil_ws {t0 : Ty} {qs : List Pj} {t : Ty} {ws : List (Int × Bool)} (h : At t0 qs t ws) (e : qs = []) : ws = [] := by
  cases h with
  | nil => rfl
  | step => simp at e
noncomputable def downV : Nat → List V
  | 0 => []
  | k + 1 => .int k :: downV k
theorem downV_eq : ∀ k : Nat, ((List.range k).map fun i : Nat => V.int ((k : Int) - 1 - (i : Int))) = downV k
  | 0 => rfl
  | k + 1 => by
    rw [List.range_succ_eq_map, List.map_cons, List.map_map, downV, ← downV_eq k]
    congr 1
    · simp
    · refine List.map_congr_left fun i _ => ?_
      simp only [Function.comp]
      congr 1
      push_cast
      lia
theorem thr_len (r : Int) : ∀ ws : List (Int × Bool), (thr r ws).length ≤ ws.length
  | [] => Nat.le_refl _
  | (o, m) :: ws => by
    have := thr_len r ws
    unfold thr
    cases m <;> simp <;> lia
theorem seqIndex_nat {k m : Nat} (h : k < m) : seqIndex? (k : Int) m = some k := by
  have h0 : ¬ ((k : Int) < 0) := by lia
  have h1 : (k : Int) < m := by lia
  simp [seqIndex?, h0, h]
theorem through_spec {rows : List Ty} {blk : V} {v0 v1 : Wy} {r : Addr} {nx : Int} {l : Nat} {ps : List Pj} {t0 t : Ty} {ws : List (Int × Bool)} {rg : Int} {i : Nat} {fs : List Fd} (hl : rows[l]? = some t0) (hz : l < 1000) (ha : At t0 ps t ws) (hps : ps.length ≤ 100)
    (hm : μ.lookup r = some (.lst (fs.map trV))) (hfl : fs.length ≤ 100000) {K : V → Mem → Prop} (h : ∀ rs, PairsOf (thr rg ws) rs → rs.length ≤ ws.length → K .none (mset μ r (.lst ((fs ++ tag i rs).map trV)))) :
    wpF W (n + 5) (.raw (.ref 329)) [conV (bodyV rows blk) v0 v1 r nx, .int rg, plV l ps, ptV i] μ K := by
  refine F_nd fun nd => ?_
  have same : mset μ r (M.lst (List.map trV fs)) = μ := mset_same nd hm
  refine' F_def ["self", "region", "place", "point"] (ρ₀ := [("self", conV (bodyV rows blk) v0 v1 r nx), ("region", .int rg), ("place", plV l ps), ("point", ptV i)]) ?ho ?hcode ?h1 ?h2 ?h3 rfl ?hnd ?hok ?hb ?_
  ktr_rel
  intro L
  show wpS _ _ ⟨envOfC _ ⟨_, _, _, _, _⟩ _ _ _, cellNames ⟨_, _, _, _, _⟩, _⟩ _ _ (_ :: _) _
  ktr_unf
  rw [List.length_map]
  refine it_range_down (a := (ps.length : Int) - 1) (by lia) (by lia) ?_
  have e0 : ((ps.length : Int) - 1 + 1).toNat = ps.length := by lia
  rw [e0, downV_eq]
  refine forL_inv (fun xs ρ μ' => Bx (∃ k tk wk ds r1, xs = downV k ∧ k ≤ ps.length ∧ At t0 (ps.take k) tk wk ∧ ds ++ thr rg wk = thr rg ws ∧ PairsOf ds r1 ∧ r1.length + wk.length ≤ ws.length ∧ μ' = mset μ r (.lst ((fs ++ tag i r1).map trV)) ∧
    Lk ρ "self" (conV (bodyV rows blk) v0 v1 r nx) ∧ Lk ρ "region" (.int rg) ∧ Lk ρ "point" (ptV i) ∧ Lk ρ "steps" (.tup (ps.map pjV)) ∧ Lk ρ "local" (.int l))) ?_ ?_ _ _ _
    ⟨⟨ps.length, t, ws, [], [], rfl, Nat.le_refl _, by rw [List.take_length]; exact ha, rfl, PairsOf.nil, by simp, by simp [tag, same], rfl, rfl, rfl, rfl, rfl⟩⟩
  · rintro ρ μ' ⟨⟨k, tk, wk, ds, r1, e, hk, hat, hd, hr1, hlen, rfl, l1, l2, l3, l4, l5⟩⟩
    cases k with
    | succ _ => cases e
    | zero =>
      have hw : wk = [] := by
        rw [List.take_zero] at hat
        exact hat.nil_ws rfl
      subst hw
      ktr_unf
      exact h r1 (by rw [← hd]; simpa [thr] using hr1) (by simpa using hlen)
  · rintro I hI y ys ρ μ' ⟨⟨k, tk, wk, ds, r1, e, hk, hat, hd, hr1, hlen, rfl, l1, l2, l3, l4, l5⟩⟩
    cases k with
    | zero => cases e
    | succ k =>
      cases e
      have hkl : k < ps.length := by lia
      obtain ⟨t', ws', hat', hst, rfl⟩ := hat.inv (List.take_succ_eq_append_getElem hkl)
      refine Tg_sub rfl (sub_cons l1 (sub_cons l2 (sub_cons l3 (sub_cons l4 (sub_cons l5 sub_nil))))) ?_
      ktr_unf
      refine sub_tup (j := k) (y := pjV ps[k]) (by rw [List.length_map]; exact seqIndex_nat hkl) (by simp [hkl]) ?_ (by lia) (by lia)
      generalize ps[k] = p at hst
      have hm' := mlookup_mset (m' := .lst ((fs ++ tag i r1).map trV)) hm
      cases hst
      case f0 =>
        ktr_unf
        exact hI _ _ _ ⟨⟨k, _, ws', ds, r1, rfl, by lia, hat', hd, hr1, hlen, rfl, rfl, rfl, rfl, rfl, rfl⟩⟩
      case f1 =>
        ktr_unf
        exact hI _ _ _ ⟨⟨k, _, ws', ds, r1, rfl, by lia, hat', hd, hr1, hlen, rfl, rfl, rfl, rfl, rfl, rfl⟩⟩
      case idx =>
        ktr_unf
        exact hI _ _ _ ⟨⟨k, _, ws', ds, r1, rfl, by lia, hat', hd, hr1, hlen, rfl, rfl, rfl, rfl, rfl, rfl⟩⟩
      case box =>
        ktr_unf
        refine ⟨by rw [List.length_map]; exact hkl, by rw [List.length_map, sizeLine_eq]; lia, ?_⟩
        ktr_unf
        rw [← List.map_take]
        refine con_type_of_spec hl hz hat' ?_
        ktr_unf
        exact hI _ _ _ ⟨⟨k, _, ws', ds, r1, rfl, by lia, hat', hd, hr1, hlen, rfl, rfl, rfl, rfl, rfl, rfl⟩⟩
      case ref o m =>
        ktr_unf
        refine ⟨by rw [List.length_map]; exact hkl, by rw [List.length_map, sizeLine_eq]; lia, ?_⟩
        ktr_unf
        rw [← List.map_take]
        refine con_type_of_spec hl hz hat' ?_
        ktr_unf
        have := ha.len
        have hlen' : r1.length + (ws'.length + 1) ≤ ws.length := by simpa [refW] using hlen
        refine ite_b (fun hc => ?_) (fun hc => ?_)
        · have hne : o ≠ rg := by simpa using hc
          have h2 : PairsOf (ds ++ [(o, rg)]) (r1 ++ [(o, rg)]) := hr1.append fun x => by
            constructor
            · intro q; rw [List.mem_singleton.mp q]; exact ⟨by simp, hne⟩
            · exact fun q => q.1
          have e3 : (fs ++ tag i r1).map trV ++ [V.tup [V.int o, V.int rg, ptV i]] = (fs ++ tag i (r1 ++ [(o, rg)])).map trV := by simp [tag, trV, ptV]
          cases m
          · ktr_unf
            refine F_append hm' (by simp [tag]; rw [sizeLine_eq]; lia) ?_
            rw [mset_mset]
            ktr_unf
            have := h _ (by rw [← hd]; exact h2) (by simp; lia)
            rw [← e3] at this
            exact this
          · ktr_unf
            refine F_append hm' (by simp [tag]; rw [sizeLine_eq]; lia) ?_
            rw [mset_mset]
            ktr_unf
            refine hI _ _ _ ⟨⟨k, _, ws', ds ++ [(o, rg)], r1 ++ [(o, rg)], rfl, by lia, hat', ?_, h2, by simp; lia, by rw [← e3]; rfl, rfl, rfl, rfl, rfl, rfl⟩⟩
            rw [← hd]; simp [refW, thr]
        · have hne : o = rg := by simpa using hc
          have h2 : PairsOf (ds ++ [(o, rg)]) r1 := by
            have := hr1.append (c := [(o, rg)]) (d := []) fun x => by
              constructor
              · intro q; cases q
              · rintro ⟨q, r⟩; rw [List.mem_singleton.mp q] at r; exact absurd hne r
            rwa [List.append_nil] at this
          cases m
          · ktr_unf
            exact h _ (by rw [← hd]; exact h2) (by lia)
          · ktr_unf
            refine hI _ _ _ ⟨⟨k, _, ws', ds ++ [(o, rg)], r1, rfl, by lia, hat', ?_, h2, by lia, rfl, rfl, rfl, rfl, rfl, rfl⟩⟩
            rw [← hd]; simp [refW, thr]
end
end
section
section
variable {W : Wd} {n : Nat} {μ : Mem}
theorem field_rows_spec {r : Rg} {t : Ty} {K : V → Mem → Prop} (h : K (.lst [.tup [.str "0", tyV (.ref (.s "'a") false (.par "T"))], .tup [.str "1", tyV (.par "T")]]) μ) : wpF W (n + 1) (.raw (.ref 80)) [tyV (.adt r t), .int 0, worldV] μ K := by
  refine' F_def ["told", "variant", "world"] (ρ₀ := [("told", tyV (.adt r t)), ("variant", .int 0), ("world", worldV)]) ?ho ?hcode ?h1 ?h2 ?h3 rfl ?hnd ?hok ?hb ?_
  ktr_rel
  intro L
  show wpS _ _ ⟨envOfC _ ⟨_, _, _, _, _⟩ _ _ _, cellNames ⟨_, _, _, _, _⟩, _⟩ _ _ (_ :: _) _
  ktr_unf
  exact h
theorem fields_of_spec {r : Int} {t : Ty} (hT : μ.lookup 82 = some (.tab "fields_of.<locals>.put_in" 61 4)) (hn : 20 ≤ n) {K : V → Mem → Prop} (h : K (.lst [.tup [.str "0", tyV (.ref (.n r) false t)], .tup [.str "1", tyV t]]) μ) : wpF W n (.raw (.ref 85)) [tyV (.adt (.n r) t), .int 0, worldV] μ K := by
  obtain ⟨k', rfl⟩ : ∃ k', n = k' + 3 := ⟨n - 3, by lia⟩
  have hψ : ∀ x : Str, (List.lookup x [(("T" : Str), tyV t)]).getD (tyV (.par x)) = tyV (if x = "T" then t else .par x) := fun x => by
    by_cases q : x = "T"
    · subst q; simp
    · rw [List.lookup_cons, beq_eq_false_iff_ne.mpr q, if_neg q]; rfl
  refine' F_def ["told", "variant", "world"] (ρ₀ := [("told", tyV (.adt (.n r) t)), ("variant", .int 0), ("world", worldV)]) ?ho ?hcode ?h1 ?h2 ?h3 rfl ?hnd ?hok ?hb ?_
  ktr_rel
  intro L
  show wpS _ _ ⟨envOfC _ ⟨_, _, _, _, _⟩ _ _ _, cellNames ⟨_, _, _, _, _⟩, _⟩ _ _ (_ :: _) _
  ktr_unf
  refine S_fz (x := "regions") rfl rfl (List.mem_of_elem_eq_true rfl) ?_
  refine S_cons (X_Def (q := "fields_of.<locals>.put_in") (x := "regions") (c := 84) (P := 82) rfl rfl rfl rfl (by kernel_rfl) hT (by first | rfl | kernel_rfl) rfl (fun cx hcx => ?_) (List.mem_of_elem_eq_true rfl) rfl ?_)
  · cases hcx; rfl
  intro cl doc pm c' ctv
  ktr_unf
  refine St_cell rfl rfl (List.mem_of_elem_eq_true rfl) (show Str.ofString "put_in" ∉ [Str.ofString "regions"] by decide) ?_
  ktr_unf
  refine field_rows_spec ?_
  ktr_unf
  refine with_regions_spec (φ := fun _ => .n r) (p := fun q => q = .s "'a") (j := 1) (I := fun _ μ' => μ' = μ) ⟨callable_clo, fun k q μ₁ K₁ hq hI hK => ?_⟩ _ _ _ _ 0 ⟨rfl, trivial⟩ (by simp only [Ty.dep]; lia) rfl (fun μ₁ hI => ?_)
  · subst hq
    refine F_clo (p := "region") rfl rfl rfl (by decide) rfl rfl (fun _ _ => BindsTo.of_eq rfl) fun L a' cells => ?_
    ktr_unf
    exact hK _ hI
  rw [hI]
  ktr_unf
  refine substituted_spec (ψ := fun x => if x = "T" then t else .par x) hψ _ _ _ _ (by simp only [Ty.dep, Ty.sub]; lia) ?_
  ktr_unf
  refine with_regions_spec (φ := fun _ => .n r) (p := fun q => q = .s "'a") (j := 1) (I := fun _ μ' => μ' = μ) ⟨callable_clo, fun k q μ₁ K₁ hq hI hK => ?_⟩ _ _ _ _ 0 trivial (by simp only [Ty.dep]; lia) rfl (fun μ₁ hI => ?_)
  · subst hq
    refine F_clo (p := "region") rfl rfl rfl (by decide) rfl rfl (fun _ _ => BindsTo.of_eq rfl) fun L a' cells => ?_
    ktr_unf
    exact hK _ hI
  rw [hI]
  ktr_unf
  refine substituted_spec (ψ := fun x => if x = "T" then t else .par x) hψ _ _ _ _ (by simp only [Ty.dep, Ty.sub]; lia) ?_
  ktr_unf
  exact h
end
end
section
theorem PairsOf.congr {a b rs : List Pr} (h : PairsOf a rs) (k : ∀ x, x ∈ a ↔ x ∈ b) : PairsOf b rs := fun x => by rw [h x, k x]
theorem tag_append (i : Nat) (a b : List Pr) : tag i (a ++ b) = tag i a ++ tag i b := by simp [tag]
theorem tag_len (i : Nat) (a : List Pr) : (tag i a).length = a.length := by simp [tag]
structure Sm (t : Ty) : Prop where
  dep : t.dep ≤ 6
  nreg : t.nreg ≤ 50
inductive Rv where
  | use (l : Nat) (ps : List Pj) | lent (r : Int) (m : Bool) (l : Nat) (ps : List Pj) | box (l : Nat) (ps : List Pj) | trip (l : Nat) (ps : List Pj) | arr (l : Nat) (ps : List Pj) | adt (g : Int) (t : Ty) (j l : Nat) (ps : List Pj)
noncomputable def mutV (m : Bool) : V := .str (if m then "mut" else "shared")
noncomputable def rvV : Rv → V
  | .use l ps => .tup [.str "use", opV (.mv l ps)]
  | .lent r m l ps => .tup [.str "ref", .int r, mutV m, plV l ps]
  | .box l ps => .tup [.str "box", opV (.cp l ps)]
  | .trip l ps => .tup [.str "tuple", .tup [opV (.cp l ps), opV (.ct "u8"), opV (.cp l ps)]]
  | .arr l ps => .tup [.str "array", .tup [opV (.cp l ps), opV (.cp l ps)]]
  | .adt g t j l ps => .tup [.str "adt", tyV (.adt (.n g) t), .int 0, .tup [opV (.cp j []), opV (.cp l ps)]]
/-- an assignment and what it is to tell -/
inductive Asg (v0 v1 : Wy) (rows : List Ty) : Nat → Rv → List Pr → Prop
  | use {k l ps s g} : OpT rows (.mv l ps) s → Sm s → rows[k]? = some g → Like s g → Asg v0 v1 rows k (.use l ps) (prs v0 v1 s g .co)
  | lent {k r m l ps t0 s ws b g} : rows[l]? = some t0 → l < 1000 → At t0 ps s ws → ps.length ≤ 100 → Sm s → rows[k]? = some (.ref (.n b) m g) → Like s g → Asg v0 v1 rows k (.lent r m l ps) ((r, b) :: (prs v0 v1 s g (mw m) ++ thr r ws))
  | box {k l ps s g} : OpT rows (.cp l ps) s → Sm s → rows[k]? = some (.box g) → Like s g → Asg v0 v1 rows k (.box l ps) (prs v0 v1 s g .co)
  | trip {k l ps s a c} : OpT rows (.cp l ps) s → Sm s → rows[k]? = some (.trip a (.int "u8") c) → Like s a → Like s c → Asg v0 v1 rows k (.trip l ps) (prs v0 v1 s a .co ++ prs v0 v1 s c .co)
  | arr {k l ps s g} : OpT rows (.cp l ps) s → Sm s → rows[k]? = some (.arr g 2) → Like s g → Asg v0 v1 rows k (.arr l ps) (prs v0 v1 s g .co)
  | adt {k r t j l ps s1 s b g} : OpT rows (.cp j []) s1 → Sm s1 → OpT rows (.cp l ps) s → Sm s → Sm (.adt (.n r) t) → rows[k]? = some (.adt (.n b) g) → Like s1 (.ref (.n r) false t) → Like s t → Like (.adt (.n r) t) (.adt (.n b) g) →
      Asg v0 v1 rows k (.adt r t j l ps) (prs v0 v1 s1 (.ref (.n r) false t) .co ++ prs v0 v1 s t .co ++ prs v0 v1 (.adt (.n r) t) (.adt (.n b) g) .co)
section
variable {W : Wd} {n : Nat} {μ : Mem} {rows : List Ty} {blk : V} {v0 v1 : Wy} {r : Addr} {nx : Int} {i : Nat} {fs : List Fd} {K : V → Mem → Prop}
theorem ops2_spec {o1 o2 : Opn} {s1 s2 g1 g2 : Ty} (h1 : OpT rows o1 s1) (h2 : OpT rows o2 s2) (z1 : Sm s1) (z2 : Sm s2) (l1 : Like s1 g1) (l2 : Like s2 g2) (hn : 40 ≤ n) (hm : μ.lookup r = some (.lst (fs.map trV))) (hfl : fs.length ≤ 90000)
    (h : ∀ r1 r2, PairsOf (prs v0 v1 s1 g1 .co) r1 → PairsOf (prs v0 v1 s2 g2 .co) r2 → r1.length ≤ 100 → r2.length ≤ 100 → K .none (mset μ r (.lst ((fs ++ tag i (r1 ++ r2)).map trV)))) :
    wpF W n (.raw (.ref 315)) [conV (bodyV rows blk) v0 v1 r nx, .tup [opV o1, opV o2], .lst [tyV g1, tyV g2], ptV i] μ K := by
  obtain ⟨k', rfl⟩ : ∃ k', n = k' + 6 := ⟨n - 6, by lia⟩
  have := z1.dep; have := z1.nreg; have := z2.dep; have := z2.nreg
  refine' F_def ["self", "operands", "types", "point"] (ρ₀ := [("self", conV (bodyV rows blk) v0 v1 r nx), ("operands", .tup [opV o1, opV o2]), ("types", .lst [tyV g1, tyV g2]), ("point", ptV i)]) ?ho ?hcode ?h1 ?h2 ?h3 rfl ?hnd ?hok ?hb ?_
  ktr_rel
  intro L
  show wpS _ _ ⟨envOfC _ ⟨_, _, _, _, _⟩ _ _ _, cellNames ⟨_, _, _, _, _⟩, _⟩ _ _ (_ :: _) _
  ktr_unf
  refine operand_type_spec h1 ?_
  ktr_unf
  refine note_spec l1 (by lia) (by lia) hm (by lia) fun r1 hr1 hl1 => ?_
  ktr_unf
  refine operand_type_spec h2 ?_
  ktr_unf
  refine note_spec l2 (by lia) (by lia) (mlookup_mset hm) (by rw [List.length_append, tag_len]; lia) fun r2 hr2 hl2 => ?_
  ktr_unf
  rw [mset_mset, List.append_assoc, ← tag_append]
  exact h r1 r2 hr1 hr2 (by lia) (by lia)
theorem ops3_spec {o1 o2 o3 : Opn} {s1 s2 s3 g1 g2 g3 : Ty} (h1 : OpT rows o1 s1) (h2 : OpT rows o2 s2) (h3 : OpT rows o3 s3) (z1 : Sm s1) (z2 : Sm s2) (z3 : Sm s3) (l1 : Like s1 g1) (l2 : Like s2 g2) (l3 : Like s3 g3) (hn : 40 ≤ n) (hm : μ.lookup r = some (.lst (fs.map trV))) (hfl : fs.length ≤ 90000)
    (h : ∀ r1 r2 r3, PairsOf (prs v0 v1 s1 g1 .co) r1 → PairsOf (prs v0 v1 s2 g2 .co) r2 → PairsOf (prs v0 v1 s3 g3 .co) r3 → r1.length ≤ 100 → r2.length ≤ 100 → r3.length ≤ 100 → K .none (mset μ r (.lst ((fs ++ tag i (r1 ++ r2 ++ r3)).map trV)))) :
    wpF W n (.raw (.ref 315)) [conV (bodyV rows blk) v0 v1 r nx, .tup [opV o1, opV o2, opV o3], .tup [tyV g1, tyV g2, tyV g3], ptV i] μ K := by
  obtain ⟨k', rfl⟩ : ∃ k', n = k' + 6 := ⟨n - 6, by lia⟩
  have := z1.dep; have := z1.nreg; have := z2.dep; have := z2.nreg; have := z3.dep; have := z3.nreg
  refine' F_def ["self", "operands", "types", "point"] (ρ₀ := [("self", conV (bodyV rows blk) v0 v1 r nx), ("operands", .tup [opV o1, opV o2, opV o3]), ("types", .tup [tyV g1, tyV g2, tyV g3]), ("point", ptV i)]) ?ho ?hcode ?h1 ?h2 ?h3 rfl ?hnd ?hok ?hb ?_
  ktr_rel
  intro L
  show wpS _ _ ⟨envOfC _ ⟨_, _, _, _, _⟩ _ _ _, cellNames ⟨_, _, _, _, _⟩, _⟩ _ _ (_ :: _) _
  ktr_unf
  refine operand_type_spec h1 ?_
  ktr_unf
  refine note_spec l1 (by lia) (by lia) hm (by lia) fun r1 hr1 hl1 => ?_
  ktr_unf
  refine operand_type_spec h2 ?_
  ktr_unf
  refine note_spec l2 (by lia) (by lia) (mlookup_mset hm) (by rw [List.length_append, tag_len]; lia) fun r2 hr2 hl2 => ?_
  ktr_unf
  refine operand_type_spec h3 ?_
  ktr_unf
  rw [mset_mset, List.append_assoc, ← tag_append]
  refine note_spec l3 (by lia) (by lia) (mlookup_mset hm) (by rw [List.length_append, tag_len, List.length_append]; lia) fun r3 hr3 hl3 => ?_
  ktr_unf
  rw [mset_mset, List.append_assoc, ← tag_append]
  exact h r1 r2 r3 hr1 hr2 hr3 (by lia) (by lia) (by lia)
theorem borrow_spec {rg : Int} {m : Bool} {l : Nat} {ps : List Pj} {t0 s g : Ty} {ws : List (Int × Bool)} {b : Int} (hl : rows[l]? = some t0) (hz : l < 1000) (ha : At t0 ps s ws) (hps : ps.length ≤ 100) (z : Sm s) (hL : Like s g) (hn : 45 ≤ n) (hm : μ.lookup r = some (.lst (fs.map trV))) (hfl : fs.length ≤ 90000)
    (h : ∀ rs, PairsOf ((rg, b) :: (prs v0 v1 s g (mw m) ++ thr rg ws)) rs → rs.length ≤ 500 → K .none (mset μ r (.lst ((fs ++ tag i rs).map trV)))) :
    wpF W n (.raw (.ref 322)) [conV (bodyV rows blk) v0 v1 r nx, rvV (.lent rg m l ps), tyV (.ref (.n b) m g), ptV i] μ K := by
  obtain ⟨k', rfl⟩ : ∃ k', n = k' + 6 := ⟨n - 6, by lia⟩
  have := z.dep; have := z.nreg; have := ha.len
  refine' F_def ["self", "rvalue", "wanted", "point"] (ρ₀ := [("self", conV (bodyV rows blk) v0 v1 r nx), ("rvalue", rvV (.lent rg m l ps)), ("wanted", tyV (.ref (.n b) m g)), ("point", ptV i)]) ?ho ?hcode ?h1 ?h2 ?h3 rfl ?hnd ?hok ?hb ?_
  ktr_rel
  intro L
  show wpS _ _ ⟨envOfC _ ⟨_, _, _, _, _⟩ _ _ _, cellNames ⟨_, _, _, _, _⟩, _⟩ _ _ (_ :: _) _
  ktr_unf
  refine con_type_of_spec hl hz ha ?_
  ktr_unf
  refine note_spec (s := .ref (.n rg) m s) (.ref hL) (by simp only [Ty.dep]; lia) (by simp only [Ty.nreg]; lia) hm (by lia) fun r1 hr1 hl1 => ?_
  simp only [Ty.nreg] at hl1
  ktr_unf
  refine through_spec hl hz ha hps (mlookup_mset hm) (by rw [List.length_append, tag_len]; lia) fun r2 hr2 hl2 => ?_
  ktr_unf
  rw [mset_mset, List.append_assoc, ← tag_append]
  refine h _ ((hr1.append hr2).congr fun x => ?_) (by rw [List.length_append]; lia)
  have e : within .co (mw m) = mw m := by cases m <;> rfl
  simp [prs_int, prs_ref, prs_box, prs_arr, prs_pair, prs_adt, rp, e]
end
end
section
section
variable {W : Wd} {n : Nat} {μ : Mem} {rows : List Ty} {blk : V} {v0 v1 : Wy} {r : Addr} {nx : Int} {i : Nat} {fs : List Fd} {K : V → Mem → Prop}
theorem assign_spec {k : Nat} {rv : Rv} {ds : List Pr} (ha : Asg v0 v1 rows k rv ds) (hk : k < 1000) (hn : 50 ≤ n) (hT : μ.lookup 82 = some (.tab "fields_of.<locals>.put_in" 61 4)) (hm : μ.lookup r = some (.lst (fs.map trV))) (hfl : fs.length ≤ 80000)
    (h : ∀ rs, PairsOf ds rs → rs.length ≤ 1000 → K .none (mset μ r (.lst ((fs ++ tag i rs).map trV)))) :
    wpF W n (.raw (.ref 334)) [conV (bodyV rows blk) v0 v1 r nx, plV k [], rvV rv, ptV i] μ K := by
  obtain ⟨k', rfl⟩ : ∃ k', n = k' + 10 := ⟨n - 10, by lia⟩
  have r82 : (82 : Addr) ≠ r := fun e => by rw [e, hm] at hT; cases hT
  refine' F_def ["self", "place", "rvalue", "point"] (ρ₀ := [("self", conV (bodyV rows blk) v0 v1 r nx), ("place", plV k []), ("rvalue", rvV rv), ("point", ptV i)]) ?ho ?hcode ?h1 ?h2 ?h3 rfl ?hnd ?hok ?hb ?_
  ktr_rel
  intro L
  show wpS _ _ ⟨envOfC _ ⟨_, _, _, _, _⟩ _ _ _, cellNames ⟨_, _, _, _, _⟩, _⟩ _ _ (_ :: _) _
  cases ha
  case use l ps s g ho z hg hL =>
    have := z.dep; have := z.nreg
    ktr_unf
    refine con_type_of_spec hg hk .nil ?_
    ktr_unf
    refine operand_type_spec ho ?_
    ktr_unf
    refine note_spec hL (by lia) (by lia) hm (by lia) fun r1 hr1 hl1 => ?_
    ktr_unf
    exact h _ hr1 (by lia)
  case lent rg m l ps t0 s ws b g hl hz hat hps z hg hL =>
    ktr_unf
    refine con_type_of_spec hg hk .nil ?_
    ktr_unf
    refine borrow_spec hl hz hat hps z hL (by lia) hm (by lia) fun rs hr hl => ?_
    ktr_unf
    exact h _ hr (by lia)
  case box l ps s g ho z hg hL =>
    have := z.dep; have := z.nreg
    ktr_unf
    refine con_type_of_spec hg hk .nil ?_
    ktr_unf
    refine operand_type_spec ho ?_
    ktr_unf
    refine note_spec hL (by lia) (by lia) hm (by lia) fun r1 hr1 hl1 => ?_
    ktr_unf
    exact h _ hr1 (by lia)
  case trip l ps s a c ho z hg hL1 hL2 =>
    ktr_unf
    refine con_type_of_spec hg hk .nil ?_
    ktr_unf
    refine ops3_spec ho .ct ho z ⟨by simp [Ty.dep], by simp [Ty.nreg]⟩ z hL1 (.int "u8") hL2 (by lia) hm (by lia) fun r1 r2 r3 h1 h2 h3 l1 l2 l3 => ?_
    ktr_unf
    refine h _ (((h1.append h2).append h3).congr fun x => ?_) (by simp only [List.length_append]; lia)
    simp [prs_int, prs_ref, prs_box, prs_arr, prs_pair, prs_adt]
  case arr l ps s g ho z hg hL =>
    ktr_unf
    refine con_type_of_spec hg hk .nil ?_
    ktr_unf
    refine E_List ?_
    ktr_unf
    refine ops2_spec ho ho z z hL hL (by lia) hm (by lia) fun r1 r2 h1 h2 l1 l2 => ?_
    ktr_unf
    refine h _ ((h1.append h2).congr fun x => ?_) (by simp only [List.length_append]; lia)
    simp
  case adt rg t j l ps s1 s b g ho1 z1 ho2 z2 z3 hg hL1 hL2 hL3 =>
    ktr_unf
    refine con_type_of_spec hg hk .nil ?_
    ktr_unf
    refine fields_of_spec (n := k' + 9) hT (by lia) ?_
    ktr_unf
    have := z3.dep; have := z3.nreg
    refine ops2_spec (g1 := .ref (.n rg) false t) ho1 ho2 z1 z2 hL1 hL2 (by lia) hm (by lia) fun r1 r2 h1 h2 l1 l2 => ?_
    ktr_unf
    refine note_spec hL3 (by lia) (by lia) (mlookup_mset hm) (by rw [List.length_append, tag_len, List.length_append]; lia) fun r3 h3 l3 => ?_
    ktr_unf
    rw [mset_mset, List.append_assoc, ← tag_append]
    exact h _ ((h1.append h2).append h3) (by simp only [List.length_append]; lia)
theorem Like.num : ∀ {s t : Ty}, Like s t → s.allR Rg.num
  | _, _, .int x => trivial
  | _, _, .ref h => ⟨trivial, h.num⟩
  | _, _, .box h => h.num
  | _, _, .arr h => h.num
  | _, _, .pair h k => ⟨h.num, k.num⟩
  | _, _, .adt h => ⟨trivial, h.num⟩
theorem rvalue_regions_spec {k : Nat} {rv : Rv} {ds : List Pr} (ha : Asg v0 v1 rows k rv ds) (hn : 30 ≤ n) (hT : μ.lookup 68 = some (.tab "regions_in.<locals>.noted" 45 4)) (h : ∀ rs : List Int, rs.length ≤ 60 → K (.lst (rs.map .int)) μ) : wpF W n (.raw (.ref 355)) [rvV rv] μ K := by
  obtain ⟨k', rfl⟩ : ∃ k', n = k' + 1 := ⟨n - 1, by lia⟩
  refine' F_def ["rvalue"] (ρ₀ := [("rvalue", rvV rv)]) ?ho ?hcode ?h1 ?h2 ?h3 rfl ?hnd ?hok ?hb ?_
  ktr_rel
  intro L
  show wpS _ _ ⟨envOfC _ ⟨_, _, _, _, _⟩ _ _ _, cellNames ⟨_, _, _, _, _⟩, _⟩ _ _ (_ :: _) _
  cases ha
  case lent rg m l ps t0 s ws b g hl hz hat hps z hg hL =>
    ktr_unf
    refine E_List ?_
    ktr_unf
    exact h [rg] (by simp)
  case adt rg t j l ps s1 s b g ho1 z1 ho2 z2 z3 hg hL1 hL2 hL3 =>
    have := z3.dep; have := z3.nreg
    ktr_unf
    refine regions_in_spec hL3.num (by lia) (by lia) hT fun rs hrs => ?_
    ktr_unf
    exact h rs (by lia)
  all_goals
    ktr_unf
    refine E_List ?_
    ktr_unf
    exact h [] (by simp)
end
end
section
/-! ## bodies -/
inductive Sx where
  | nop | live (k : Int) | asg (k : Nat) (rv : Rv)
noncomputable def stV : Sx → V
  | .nop => .tup [.str "nop"]
  | .live k => .tup [.str "live", .int k]
  | .asg k rv => .tup [.str "assign", plV k [], rvV rv]
inductive StOk (v0 v1 : Wy) (rows : List Ty) : Sx → List Pr → Prop
  | nop : StOk v0 v1 rows .nop []
  | live {k} : StOk v0 v1 rows (.live k) []
  | asg {k rv ds} : k < 1000 → Asg v0 v1 rows k rv ds → StOk v0 v1 rows (.asg k rv) ds
inductive Prog (v0 v1 : Wy) (rows : List Ty) : List Sx → List (List Pr) → Prop
  | nil : Prog v0 v1 rows [] []
  | cons {s ds ss dss} : StOk v0 v1 rows s ds → Prog v0 v1 rows ss dss → Prog v0 v1 rows (s :: ss) (ds :: dss)
theorem Prog.length {v0 v1 : Wy} {rows : List Ty} : ∀ {ss dss}, Prog v0 v1 rows ss dss → ss.length = dss.length
  | _, _, .nil => rfl
  | _, _, .cons _ h => congrArg (· + 1) h.length
noncomputable def blkV (sts : List Sx) : V := .lst [.lst [.lst (sts.map stV), .tup [.str "return"]]]
structure RowOk (t : Ty) : Prop where
  num : t.allR Rg.num
  dep : t.dep ≤ 7
  nreg : t.nreg ≤ 60
noncomputable def FoundOk (dss : List (List Pr)) (fs : List Fd) : Prop := ∀ a b i, (a, b, i) ∈ fs ↔ ∃ ds, dss[i]? = some ds ∧ (a, b) ∈ ds ∧ a ≠ b
theorem FoundOk.nil : FoundOk [] [] := fun a b i => by simp
theorem FoundOk.snoc {dss : List (List Pr)} {fs : List Fd} {ds rs : List Pr} (h : FoundOk dss fs) (k : PairsOf ds rs) : FoundOk (dss ++ [ds]) (fs ++ tag dss.length rs) := fun a b i => by
  rw [List.mem_append, h a b i]
  constructor
  · rintro (⟨d, e, q⟩ | q)
    · exact ⟨d, by rw [List.getElem?_append_left (List.getElem?_eq_some_iff.mp e).1]; exact e, q⟩
    · obtain ⟨p, hp, e⟩ := List.mem_map.mp q
      cases e
      have := (k p).mp hp
      exact ⟨ds, by simp, this.1, this.2⟩
  · rintro ⟨d, e, q1, q2⟩
    by_cases hi : i < dss.length
    · rw [List.getElem?_append_left hi] at e
      exact .inl ⟨d, e, q1, q2⟩
    · have hi' : i = dss.length := by
        have := (List.getElem?_eq_some_iff.mp e).1
        simp at this; lia
      subst hi'
      simp at e
      subst e
      exact .inr (List.mem_map.mpr ⟨(a, b), (k (a, b)).mpr ⟨q1, q2⟩, rfl⟩)
noncomputable def enF : Nat → List V → List V
  | _, [] => []
  | k, y :: ys => .tup [.int k, y] :: enF (k + 1) ys
theorem enF_eq : ∀ (ys : List V) (k : Nat), (ys.zipIdx k).map (fun p => V.tup [.int p.2, p.1]) = enF k ys
  | [], k => rfl
  | y :: ys, k => by rw [List.zipIdx_cons, List.map_cons, enF, enF_eq ys (k + 1)]
theorem enumV_eq (ys : List V) : enumV ys = enF 0 ys := enF_eq ys 0
section
variable {W : Wd} {n : Nat} {μ : Mem} {rows : List Ty} {v0 v1 : Wy} {sts : List Sx} {dss : List (List Pr)} {K : V → Mem → Prop}
theorem greatest_region_spec (hr : ∀ t ∈ rows, RowOk t) (hP : Prog v0 v1 rows sts dss) (hn : 50 ≤ n) (hz1 : rows.length ≤ 100) (hz2 : sts.length ≤ 100) (hT : μ.lookup 68 = some (.tab "regions_in.<locals>.noted" 45 4)) (h : ∀ i : Int, K (.int i) μ) :
    wpF W n (.raw (.ref 365)) [bodyV rows (blkV sts)] μ K := by
  obtain ⟨k', rfl⟩ : ∃ k', n = k' + 10 := ⟨n - 10, by lia⟩
  refine' F_def ["body"] (ρ₀ := [("body", bodyV rows (blkV sts))]) ?ho ?hcode ?h1 ?h2 ?h3 rfl ?hnd ?hok ?hb ?_
  ktr_rel
  intro L
  show wpS _ _ ⟨envOfC _ ⟨_, _, _, _, _⟩ _ _ _, cellNames ⟨_, _, _, _, _⟩, _⟩ _ _ (_ :: _) _
  ktr_unf
  refine E_ListM ?_
  ktr_unf
  intro a ha
  have ha68 : (68 : Addr) ≠ a := fun e => ha (by rw [← e]; exact addr_of_mlookup hT)
  ktr_unf
  refine forL_inv (fun xs ρ μ' => Bx (∃ (r2 : List Ty) (is : List Int), xs = r2.map rowV ∧ (∀ t ∈ r2, RowOk t) ∧ is ≠ [] ∧ is.length + 60 * r2.length ≤ 6001 ∧ μ' = (a, .lst (is.map .int)) :: μ ∧ Lk ρ "found" (.raw (.ref a)) ∧ Lk ρ "body" (bodyV rows (blkV sts)))) ?_ ?_ _ _ _
    ⟨⟨rows, [0], rfl, hr, by simp, by simp; lia, rfl, rfl, rfl⟩⟩
  rotate_left
  · rintro I hI y ys ρ μ' ⟨⟨r2, is, e, hr2, hne, hlen, rfl, l1, l2⟩⟩
    cases r2 with
    | nil => cases e
    | cons t r2 =>
      cases e
      have ht := hr2 t List.mem_cons_self
      have := ht.dep; have := ht.nreg
      have hm := mlookup_head (a := a) (m := .lst (is.map V.int)) (μ := μ)
      rw [List.length_cons] at hlen
      ktr_unf
      refine regions_in_spec ht.num (by lia) (by lia) ((mlookup_tail ha68).trans hT) fun rs hrs => ?_
      ktr_unf
      refine F_extend hm (by simp; lia) ?_
      rw [mset_head ha, ← List.map_append]
      ktr_unf
      exact hI _ _ _ ⟨⟨r2, is ++ rs, rfl, fun t h => hr2 t (List.mem_cons_of_mem _ h), by simp [hne], by simp; lia, rfl, l1, l2⟩⟩
  · rintro ρ μ' ⟨⟨r2, is, e, hr2, hne, hlen, rfl, l1, l2⟩⟩
    have hlen' : is.length ≤ 6001 := by lia
    clear hlen e hr2 r2
    ktr_unf
    refine forL_inv (fun xs ρ μ' => Bx (∃ (s2 : List Sx) (d2 : List (List Pr)) (is : List Int), xs = s2.map stV ∧ Prog v0 v1 rows s2 d2 ∧ is ≠ [] ∧ is.length + 60 * s2.length ≤ 12001 ∧ μ' = (a, .lst (is.map .int)) :: μ ∧ Lk ρ "found" (.raw (.ref a)) ∧ Lk ρ "terminator" (.tup [.str "return"]))) ?_ ?_ _ _ _
      ⟨⟨sts, dss, is, rfl, hP, hne, by lia, rfl, l1, rfl⟩⟩
    rotate_left
    · rintro I hI y ys ρ μ' ⟨⟨s2, d2, is, e, hP2, hne, hlen, rfl, l1, l2⟩⟩
      cases hP2 with
      | nil => cases e
      | cons hs hP2 =>
        cases e
        rw [List.length_cons] at hlen
        have hm := mlookup_head (a := a) (m := .lst (is.map V.int)) (μ := μ)
        cases hs with
        | nop =>
          ktr_unf
          exact hI _ _ _ ⟨⟨_, _, is, rfl, hP2, hne, by lia, rfl, l1, l2⟩⟩
        | live =>
          ktr_unf
          exact hI _ _ _ ⟨⟨_, _, is, rfl, hP2, hne, by lia, rfl, l1, l2⟩⟩
        | asg hk ha' =>
          ktr_unf
          refine rvalue_regions_spec ha' (by lia) ((mlookup_tail ha68).trans hT) fun rs hrs => ?_
          ktr_unf
          refine F_extend hm (by simp; lia) ?_
          rw [mset_head ha, ← List.map_append]
          ktr_unf
          exact hI _ _ _ ⟨⟨_, _, is ++ rs, rfl, hP2, by simp [hne], by simp; lia, rfl, l1, l2⟩⟩
    · rintro ρ μ' ⟨⟨s2, d2, is, e, hP2, hne, hlen, rfl, l1, l2⟩⟩
      have hlen' : is.length ≤ 12001 := by lia
      have hm := mlookup_head (a := a) (m := .lst (is.map V.int)) (μ := μ)
      ktr_unf
      refine ⟨by rw [List.length_map, sizeLine_eq]; lia, fun C => ?_⟩
      rw [mdel_head ha]
      refine compL_inv1 (fun xs acc ρ μ' => Bx (∃ (i1 i2 : List Int), is = i1 ++ i2 ∧ xs = i2.map .int ∧ acc = i1.map .int ∧ μ' = μ)) ?_ ?_ _ _ _ _ ⟨⟨[], is, rfl, rfl, rfl, rfl⟩⟩
      · rintro acc ρ μ' ⟨⟨i1, i2, rfl, e, rfl, rfl⟩⟩
        cases i2 with
        | cons _ _ => cases e
        | nil =>
          rw [List.append_nil] at hne
          ktr_unf
          refine F_max hne fun i => ?_
          ktr_unf
          exact h i
      · rintro I hI y ys acc ρ μ' ⟨⟨i1, i2, rfl, e, rfl, rfl⟩⟩
        cases i2 with
        | nil => cases e
        | cons i i2 =>
          cases e
          ktr_unf
          exact hI _ _ _ _ ⟨⟨i1 ++ [i], i2, by simp, rfl, by simp, rfl⟩⟩
theorem Constraints_new (hr : ∀ t ∈ rows, RowOk t) (hP : Prog v0 v1 rows sts dss) (hn : 55 ≤ n) (hz1 : rows.length ≤ 100) (hz2 : sts.length ≤ 100) (hT : μ.lookup 68 = some (.tab "regions_in.<locals>.noted" 45 4))
    (h : ∀ r nx, r ∉ addrs μ → K (conV (bodyV rows (blkV sts)) v0 v1 r nx) ((r, .lst []) :: μ)) : wpF W n (.raw (.ref 344)) [bodyV rows (blkV sts), worldV, varV v0 v1] μ K := by
  obtain ⟨k', rfl⟩ : ∃ k', n = k' + 2 := ⟨n - 2, by lia⟩
  refine F_class (fI := 287) (by k_is) (by k_is) (by k_is) fun x dx hdx => ?_
  refine' C_def ["self", "body", "world", "varied"] (ρ₀ := [("self", .obj x 344 dx), ("body", bodyV rows (blkV sts)), ("world", worldV), ("varied", varV v0 v1)]) ?ho ?hcode ?h1 ?h2 ?h3 rfl ?hnd ?hok ?hb ?_
  ktr_rel
  intro L
  show wpS _ _ ⟨envOfC _ ⟨_, _, _, _, _⟩ _ _ _, cellNames ⟨_, _, _, _, _⟩, _⟩ _ _ (_ :: _) _
  ktr_unf
  refine ⟨x, 344, dx, [], rfl, os_Constraints_body, mlookup_head, rfl, by simp, ?_⟩
  rw [mset_head hdx]
  ktr_unf
  refine ⟨x, 344, dx, _, rfl, os_Constraints_world, mlookup_head, rfl, by simp, ?_⟩
  rw [mset_head hdx]
  ktr_unf
  refine ⟨x, 344, dx, _, rfl, os_Constraints_varied, mlookup_head, rfl, by simp, ?_⟩
  rw [mset_head hdx]
  ktr_unf
  refine E_ListM (Es_nil fun p hp => ?_)
  have hpd : p ≠ dx := fun e => hp (by rw [e]; exact List.mem_cons_self)
  have hpm : p ∉ addrs μ := fun q => hp (List.mem_cons_of_mem _ q)
  have hp68 : (68 : Addr) ≠ p := fun e => hpm (by rw [← e]; exact addr_of_mlookup hT)
  have hd68 : (68 : Addr) ≠ dx := fun e => hdx (by rw [← e]; exact addr_of_mlookup hT)
  ktr_unf
  refine ⟨x, 344, dx, _, rfl, os_Constraints_rows, (mlookup_tail hpd.symm).trans mlookup_head, rfl, by simp, ?_⟩
  rw [mset_ne hpd, mset_head hdx]
  ktr_unf
  refine greatest_region_spec hr hP (by lia) hz1 hz2 ((mlookup_tail hp68).trans ((mlookup_tail hd68).trans hT)) fun i => ?_
  ktr_unf
  refine ⟨x, 344, dx, _, rfl, os_Constraints_next, (mlookup_tail hpd.symm).trans mlookup_head, rfl, by simp, ?_⟩
  rw [mset_ne hpd, mset_head hdx]
  ktr_unf
  refine ⟨rfl, _, (mlookup_tail hpd.symm).trans mlookup_head, ?_⟩
  rw [mdel_ne hpd, mdel_head hdx]
  exact h p (i + 1) hpm
end
end
section
section
variable {W : Wd} {n : Nat} {μ : Mem} {rows : List Ty} {v0 v1 : Wy} {sts : List Sx} {dss : List (List Pr)} {K : V → Mem → Prop}
theorem constraints_of_spec (hr : ∀ t ∈ rows, RowOk t) (hP : Prog v0 v1 rows sts dss) (hn : 70 ≤ n) (hz1 : rows.length ≤ 100) (hz2 : sts.length ≤ 60) (hT : μ.lookup 68 = some (.tab "regions_in.<locals>.noted" 45 4)) (hT2 : μ.lookup 82 = some (.tab "fields_of.<locals>.put_in" 61 4))
    (h : ∀ fs, FoundOk dss fs → fs.length ≤ 60000 → K (.lst (fs.map trV)) μ) : wpF W n (.raw (.ref 372)) [bodyV rows (blkV sts), worldV, varV v0 v1] μ K := by
  obtain ⟨k', rfl⟩ : ∃ k', n = k' + 1 := ⟨n - 1, by lia⟩
  refine wpF_frz ?_
  refine' F_def ["body", "world", "varied"] (ρ₀ := [("body", bodyV rows (blkV sts)), ("world", worldV), ("varied", varV v0 v1)]) ?ho ?hcode ?h1 ?h2 ?h3 rfl ?hnd ?hok ?hb ?_
  ktr_rel
  intro L
  show wpS _ _ ⟨envOfC _ ⟨_, _, _, _, _⟩ _ _ _, cellNames ⟨_, _, _, _, _⟩, _⟩ _ _ (_ :: _) _
  ktr_unf
  refine Constraints_new hr hP (by lia) hz1 (by lia) hT fun r nx hr' => ?_
  have r82 : (82 : Addr) ≠ r := fun e => hr' (by rw [← e]; exact addr_of_mlookup hT2)
  ktr_unf
  rw [enumV_eq]
  refine forL_inv (fun xs ρ μ' => Bx (∃ (s2 : List Sx) (d1 d2 : List (List Pr)) (f : List Fd), dss = d1 ++ d2 ∧ Prog v0 v1 rows s2 d2 ∧ xs = enF d1.length (s2.map stV) ∧ μ' = (r, .lst (f.map trV)) :: μ ∧ FoundOk d1 f ∧ f.length ≤ 1000 * d1.length ∧ d1.length + s2.length ≤ 60 ∧ Lk ρ "found" (conV (bodyV rows (blkV sts)) v0 v1 r nx) ∧ Lk ρ "block" (.int 0) ∧ Lk ρ "terminator" (.tup [.str "return"]))) ?_ ?_ _ _ _
    ⟨⟨sts, [], dss, [], rfl, hP, rfl, rfl, FoundOk.nil, by simp, by simp; lia, rfl, rfl, rfl⟩⟩
  rotate_left
  · rintro I hI y ys ρ μ' ⟨⟨s2, d1, d2, f, rfl, hP2, e, rfl, hf, hlen, hd, l1, l2, l3⟩⟩
    cases hP2 with
    | nil => cases e
    | @cons s ds ss dss hs hP2 =>
      cases e
      rw [List.length_cons] at hd
      have hm := mlookup_head (a := r) (m := .lst (f.map trV)) (μ := μ)
      have none : StOk v0 v1 rows s [] → FoundOk (d1 ++ [[]]) f := fun _ => by simpa [tag] using hf.snoc PairsOf.nil
      cases hs with
      | nop =>
        ktr_unf
        exact hI _ _ _ ⟨⟨_, d1 ++ [[]], _, f, by simp, hP2, by simp, rfl, none .nop, by simp; lia, by simp; lia, l1, l2, l3⟩⟩
      | live =>
        ktr_unf
        exact hI _ _ _ ⟨⟨_, d1 ++ [[]], _, f, by simp, hP2, by simp, rfl, none .live, by simp; lia, by simp; lia, l1, l2, l3⟩⟩
      | asg hk ha' =>
        ktr_unf
        refine assign_spec (i := d1.length) ha' hk (by lia) ((mlookup_tail r82).trans hT2) hm (by lia) fun rs hrs hrl => ?_
        rw [mset_head hr']
        ktr_unf
        exact hI _ _ _ ⟨⟨_, d1 ++ [ds], _, f ++ tag d1.length rs, by simp, hP2, by simp, rfl, hf.snoc hrs, by simp [tag]; lia, by simp; lia, l1, l2, l3⟩⟩
  · rintro ρ μ' ⟨⟨s2, d1, d2, f, rfl, hP2, e, rfl, hf, hlen, hd, l1, l2, l3⟩⟩
    cases hP2 with
    | cons _ _ => cases e
    | nil =>
      ktr_unf
      refine ⟨_, _, .lst mlookup_head, ?_⟩
      rw [mdel_head hr']
      rw [List.append_nil] at h
      exact h f hf (by lia)
end
end
section
/-! ## the law's own functions -/
noncomputable abbrev srcM (a b : Int) : M := .lst [.int a, .int b]
/-- the pool that is drawn from -/
structure SrcAt (μ : Mem) (src : Addr) : Prop where
  at' : ∃ a b, μ.lookup src = some (srcM a b) ∧ 0 ≤ b ∧ b < 2147483648
section
variable {W : Wd} {n : Nat} {μ : Mem} {K : V → Mem → Prop} {src : Addr}
theorem fmod_range {a m : Int} (hm : 0 < m) : 0 ≤ a.fmod m ∧ a.fmod m < m := ⟨Int.fmod_nonneg_of_pos a hm, Int.fmod_lt_of_pos a hm⟩
theorem take_spec {top : Int} (hs : SrcAt μ src) (h0 : 0 < top) (h1 : top ≤ 100) (h : ∀ d a b, 0 ≤ d → d < top → 0 ≤ b → b < 2147483648 → K (.int d) (mset μ src (srcM a b))) :
    wpF W (n + 1) (.raw (.ref 438)) [.raw (.ref src), .int top] μ K := by
  obtain ⟨a, b, hm, hb0, hb1⟩ := hs.at'
  refine' F_def ["source", "top"] (ρ₀ := [("source", .raw (.ref src)), ("top", .int top)]) ?ho ?hcode ?h1 ?h2 ?h3 rfl ?hnd ?hok ?hb ?_
  ktr_rel
  intro L
  show wpS _ _ ⟨envOfC _ ⟨_, _, _, _, _⟩ _ _ _, cellNames ⟨_, _, _, _, _⟩, _⟩ _ _ (_ :: _) _
  ktr_unf
  refine ite_b (fun hc => ?_) (fun hc => ?_)
  · ktr_unf
    refine X_AssignSubL ?_
    ktr_unf
    refine ⟨src, _, 0, rfl, rfl, hm, by simp, by decide, ?_⟩
    ktr_unf
    obtain ⟨h2, h3⟩ := fmod_range (a := a) h0
    exact h _ (a.fdiv top) b h2 h3 hb0 hb1
  · ktr_unf
    refine X_AssignSubL ?_
    ktr_unf
    refine op_mul (IntMulOk.of_right (intBits_le_64 (by decide) (by decide))) ?_
    ktr_unf
    refine ⟨src, _, 1, rfl, rfl, hm, by simp, by decide, ?_⟩
    obtain ⟨c0, c1⟩ := fmod_range (a := b * 39373 + 7) (m := 2147483647) (by decide)
    generalize (b * 39373 + 7).fmod 2147483647 = c at c0 c1
    have hm' : List.lookup src (mset μ src (srcM a c)) = some (srcM a c) := mlookup_mset hm
    ktr_unf
    refine op_mul (IntMulOk.of_right (intBits_le_64 (by lia) (by lia))) ?_
    ktr_unf
    obtain ⟨h2, h3⟩ := fmod_range (a := ((c * c).fmod 2147483629).fdiv 32) h0
    exact h _ a c h2 h3 c0 (by lia)
theorem bits01 (b : Bool) : Builtin.Int.intBits (if b = true then 1 else 0) ≤ 64 := by cases b <;> decide
theorem pool_spec {ns : List Int} (hlen : ns.length < 1000) (h : ∀ p a b, p ∉ addrs μ → 0 ≤ b → b < 2147483648 → K (.raw (.ref p)) ((p, srcM a b) :: μ)) : wpF W (n + 1) (.raw (.ref 431)) [.lst (ns.map .int), .int 0] μ K := by
  refine' F_def ["script", "k"] (ρ₀ := [("script", .lst (ns.map .int)), ("k", .int 0)]) ?ho ?hcode ?h1 ?h2 ?h3 rfl ?hnd ?hok ?hb ?_
  ktr_rel
  intro L
  show wpS _ _ ⟨envOfC _ ⟨_, _, _, _, _⟩ _ _ _, cellNames ⟨_, _, _, _, _⟩, _⟩ _ _ (_ :: _) _
  ktr_unf
  refine ite_b (fun hc => ?_) (fun hc => ?_)
  · cases ns with
    | nil => simp at hc
    | cons c ns =>
      ktr_unf
      refine op_mul (IntMulOk.of_right (by decide)) ?_
      ktr_unf
      refine op_mul (IntMulOk.of_right (by decide)) ?_
      ktr_unf
      refine op_mul (IntMulOk.of_right (by decide)) ?_
      ktr_unf
      refine op_mul (IntMulOk.of_right (by decide)) ?_
      ktr_unf
      refine E_ListM ?_
      ktr_unf
      refine op_pow (by decide) (by decide +kernel) ?_
      ktr_unf
      refine op_mul (IntMulOk.of_right (bits01 _)) ?_
      ktr_unf
      intro p hp
      ktr_unf
      exact h p _ _ hp (fmod_range (by decide)).1 (Int.lt_trans (fmod_range (by decide)).2 (by decide))
  · ktr_unf
    refine op_mul (IntMulOk.of_right (by decide)) ?_
    ktr_unf
    refine op_mul (IntMulOk.of_right (by decide)) ?_
    ktr_unf
    refine op_mul (IntMulOk.of_right (by decide)) ?_
    ktr_unf
    refine op_mul (IntMulOk.of_right (by decide)) ?_
    ktr_unf
    refine E_ListM ?_
    ktr_unf
    refine op_pow (by decide) (by decide +kernel) ?_
    ktr_unf
    refine op_mul (IntMulOk.of_right (bits01 _)) ?_
    ktr_unf
    intro p hp
    ktr_unf
    exact h p _ _ hp (fmod_range (by decide)).1 (Int.lt_trans (fmod_range (by decide)).2 (by decide))
theorem within_spec {w v : Wy} (h : K (wyV (within w v)) μ) : wpF W (n + 1) (.raw (.ref 470)) [wyV w, wyV v] μ K := by
  refine' F_def ["around", "inner"] (ρ₀ := [("around", wyV w), ("inner", wyV v)]) ?ho ?hcode ?h1 ?h2 ?h3 rfl ?hnd ?hok ?hb ?_
  ktr_rel
  intro L
  show wpS _ _ ⟨envOfC _ ⟨_, _, _, _, _⟩ _ _ _, cellNames ⟨_, _, _, _, _⟩, _⟩ _ _ (_ :: _) _
  cases w <;> cases v
  all_goals
    ktr_unf
    refine E_List ?_
    ktr_unf
    first | exact h | (refine E_List ?_; ktr_unf; exact h)
theorem one_spec {a b c : Str} (hs : SrcAt μ src) (h : ∀ y ∈ [a, b, c], ∀ p q, 0 ≤ q → q < 2147483648 → K (.str y) (mset μ src (srcM p q))) : wpF W (n + 2) (.raw (.ref 445)) [.raw (.ref src), .lst [.str a, .str b, .str c]] μ K := by
  refine' F_def ["source", "things"] (ρ₀ := [("source", .raw (.ref src)), ("things", .lst [.str a, .str b, .str c])]) ?ho ?hcode ?h1 ?h2 ?h3 rfl ?hnd ?hok ?hb ?_
  ktr_rel
  intro L
  show wpS _ _ ⟨envOfC _ ⟨_, _, _, _, _⟩ _ _ _, cellNames ⟨_, _, _, _, _⟩, _⟩ _ _ (_ :: _) _
  ktr_unf
  refine take_spec hs (by simp) (by simp) fun d p q h0 h1 q0 q1 => ?_
  have h1' : d < 3 := by simpa using h1
  obtain rfl | rfl | rfl : d = 0 ∨ d = 1 ∨ d = 2 := by lia
  all_goals
    ktr_unf
    exact h _ (by simp) p q q0 q1
theorem E_U8 {F : Fm} {ρ : Loc} {pos : Pos} {K : V → Mem → Prop} (h2 : F.env.kindOf "_law_U8" = some .globalImplicit) (h : K (tyV (.int "u8")) μ) : wpE W n F ρ μ (.Name "_law_U8" pos) K :=
  E_globR (v := .ref 446) (by k_is) h2 (fun g hg => .tup (hg _ _ (W.X 446 _ (by k_is))) rfl rfl (.cons (.str _ _) (.cons (.str _ _) .nil))) h
end
end
section
local macro_rules
  | `(tactic| ktr_unf) => `(tactic| (((with_reducible (show wpE _ _ _ _ _ _ _)); first | refine r_List ?_ | refine E_U8 rfl ?_) <;> ktr_unf))
/-- the memory behind draws -/
structure Drew (src : Addr) (μ μ' : Mem) : Prop where
  at' : ∃ a b, μ' = mset μ src (srcM a b) ∧ 0 ≤ b ∧ b < 2147483648
theorem Drew.src {src : Addr} {μ μ' : Mem} (h : Drew src μ μ') (k : SrcAt μ src) : SrcAt μ' src := by
  obtain ⟨a, b, rfl, h1, h2⟩ := h.at'
  obtain ⟨c, d, e, _⟩ := k.at'
  exact ⟨a, b, mlookup_mset e, h1, h2⟩
theorem Drew.trans {src : Addr} {μ μ' μ'' : Mem} (h : Drew src μ μ') (k : Drew src μ' μ'') : Drew src μ μ'' := by
  obtain ⟨a, b, rfl, h1, h2⟩ := h.at'
  obtain ⟨c, d, rfl, h3, h4⟩ := k.at'
  exact ⟨c, d, by rw [mset_mset], h3, h4⟩
theorem Drew.same {src : Addr} {μ : Mem} (nd : (addrs μ).Nodup) (k : SrcAt μ src) : Drew src μ μ := by
  obtain ⟨a, b, e, h1, h2⟩ := k.at'
  exact ⟨a, b, (mset_same nd e).symm, h1, h2⟩
theorem ite_y {c : Bool} {A B : Prop} (h : c = true) (hA : A) : if c = true then A else B := by rw [if_pos h]; exact hA
theorem ite_n {c : Bool} {A B : Prop} (h : c = false) (hB : B) : if c = true then A else B := by subst h; exact ite_f hB
section
variable {W : Wd} {n : Nat} {μ : Mem} {K : V → Mem → Prop} {src : Addr}
theorem take_drew {top : Int} (hs : SrcAt μ src) (h0 : 0 < top) (h1 : top ≤ 100) (h : ∀ d μ', 0 ≤ d → d < top → Drew src μ μ' → K (.int d) μ') : wpF W (n + 1) (.raw (.ref 438)) [.raw (.ref src), .int top] μ K :=
  take_spec hs h0 h1 fun d a b h2 h3 h4 h5 => h d _ h2 h3 ⟨a, b, rfl, h4, h5⟩
theorem type_spec : ∀ (d : Nat) (dp : Int) (m : Nat) (μ : Mem) (K : V → Mem → Prop), dp = d → d + 3 ≤ m → SrcAt μ src → (∀ t μ', Pl d t → Drew src μ μ' → K (tyV t) μ') → wpF W m (.raw (.ref 453)) [.raw (.ref src), .int dp] μ K := by
  intro d
  induction d with
  | zero =>
    intro dp m μ K hd hm hs h
    subst hd
    obtain ⟨k', rfl⟩ : ∃ k', m = k' + 3 := ⟨m - 3, by lia⟩
    refine F_nd fun nd => ?_
    refine' F_def ["source", "deep"] (ρ₀ := [("source", .raw (.ref src)), ("deep", .int (0 : Nat))]) ?ho ?hcode ?h1 ?h2 ?h3 rfl ?hnd ?hok ?hb ?_
    ktr_rel
    intro L
    show wpS _ _ ⟨envOfC _ ⟨_, _, _, _, _⟩ _ _ _, cellNames ⟨_, _, _, _, _⟩, _⟩ _ _ (_ :: _) _
    ktr_unf
    exact h _ _ .int (Drew.same nd hs)
  | succ d ih =>
    intro dp m μ K hd hm hs h
    subst hd
    obtain ⟨k', rfl⟩ : ∃ k', m = k' + 3 := ⟨m - 3, by lia⟩
    refine F_nd fun nd => ?_
    refine' F_def ["source", "deep"] (ρ₀ := [("source", .raw (.ref src)), ("deep", .int (d + 1 : Nat))]) ?ho ?hcode ?h1 ?h2 ?h3 rfl ?hnd ?hok ?hb ?_
    ktr_rel
    intro L
    show wpS _ _ ⟨envOfC _ ⟨_, _, _, _, _⟩ _ _ _, cellNames ⟨_, _, _, _, _⟩, _⟩ _ _ (_ :: _) _
    ktr_unf
    refine ite_y (by simp) ?_
    ktr_unf
    refine take_drew hs (by decide) (by decide) fun w μ₁ w0 w1 d1 => ?_
    ktr_unf
    refine ite_b (fun c1 => ?_) (fun c1 => ?_)
    · ktr_unf
      exact h _ _ .int d1
    ktr_unf
    refine ite_b (fun c2 => ?_) (fun c2 => ?_)
    · ktr_unf
      refine take_drew (d1.src hs) (by decide) (by decide) fun r μ₂ r0 r1 d2 => ?_
      ktr_unf
      refine ih _ _ _ _ (by lia) (by lia) (d2.src (d1.src hs)) fun t μ₃ ht d3 => ?_
      ktr_unf
      exact h _ _ (.ref (a := 1 + r) (m := decide (w < 3)) ht) ((d1.trans d2).trans d3)
    ktr_unf
    refine ite_b (fun c3 => ?_) (fun c3 => ?_)
    · ktr_unf
      refine ih _ _ _ _ (by lia) (by lia) (d1.src hs) fun t μ₃ ht d3 => ?_
      ktr_unf
      exact h _ _ (.box ht) (d1.trans d3)
    ktr_unf
    refine ite_b (fun c4 => ?_) (fun c4 => ?_)
    · ktr_unf
      refine ih _ _ _ _ (by lia) (by lia) (d1.src hs) fun t μ₂ ht d2 => ?_
      ktr_unf
      refine ih _ _ _ _ (by lia) (by lia) (d2.src (d1.src hs)) fun u μ₃ hu d3 => ?_
      ktr_unf
      exact h _ _ (.pair ht hu) ((d1.trans d2).trans d3)
    ktr_unf
    refine ih _ _ _ _ (by lia) (by lia) (d1.src hs) fun t μ₃ ht d3 => ?_
    ktr_unf
    exact h _ _ (.arr ht) (d1.trans d3)
theorem like_spec : ∀ {t : Ty}, Like t t → ∀ (m : Nat) (μ : Mem) (K : V → Mem → Prop), t.dep + 3 ≤ m → SrcAt μ src → (∀ t' μ', Like t t' → Drew src μ μ' → K (tyV t') μ') → wpF W m (.raw (.ref 458)) [.raw (.ref src), tyV t] μ K := by
  intro t
  induction t with
  | int x =>
    intro hL m μ K hm hs h
    obtain ⟨k', rfl⟩ : ∃ k', m = k' + 3 := ⟨m - 3, by simp only [Ty.dep] at hm; lia⟩
    refine F_nd fun nd => ?_
    refine' F_def ["source", "one"] (ρ₀ := [("source", .raw (.ref src)), ("one", tyV (.int x))]) ?ho ?hcode ?h1 ?h2 ?h3 rfl ?hnd ?hok ?hb ?_
    ktr_rel
    intro L
    show wpS _ _ ⟨envOfC _ ⟨_, _, _, _, _⟩ _ _ _, cellNames ⟨_, _, _, _, _⟩, _⟩ _ _ (_ :: _) _
    ktr_unf
    exact h _ _ (.int x) (Drew.same nd hs)
  | par x => intro hL; cases hL
  | trip a b c => intro hL; cases hL
  | ref r b t ih =>
    intro hL m μ K hm hs h
    obtain ⟨k', rfl⟩ : ∃ k', m = k' + 3 := ⟨m - 3, by lia⟩
    simp only [Ty.dep] at hm
    cases hL with
    | @ref r _ _ _ _ hL =>
    refine' F_def ["source", "one"] (ρ₀ := [("source", .raw (.ref src)), ("one", tyV (.ref (.n r) b t))]) ?ho ?hcode ?h1 ?h2 ?h3 rfl ?hnd ?hok ?hb ?_
    ktr_rel
    intro L
    show wpS _ _ ⟨envOfC _ ⟨_, _, _, _, _⟩ _ _ _, cellNames ⟨_, _, _, _, _⟩, _⟩ _ _ (_ :: _) _
    ktr_unf
    refine take_drew hs (by decide) (by decide) fun r' μ₂ r0 r1 d2 => ?_
    ktr_unf
    refine ih hL _ _ _ (by lia) (d2.src hs) fun t' μ₃ ht d3 => ?_
    ktr_unf
    exact h (.ref (.n (1 + r')) b t') _ (.ref ht) (d2.trans d3)
  | box t ih =>
    intro hL m μ K hm hs h
    obtain ⟨k', rfl⟩ : ∃ k', m = k' + 3 := ⟨m - 3, by lia⟩
    simp only [Ty.dep] at hm
    cases hL with
    | box hL =>
    refine' F_def ["source", "one"] (ρ₀ := [("source", .raw (.ref src)), ("one", tyV (.box t))]) ?ho ?hcode ?h1 ?h2 ?h3 rfl ?hnd ?hok ?hb ?_
    ktr_rel
    intro L
    show wpS _ _ ⟨envOfC _ ⟨_, _, _, _, _⟩ _ _ _, cellNames ⟨_, _, _, _, _⟩, _⟩ _ _ (_ :: _) _
    ktr_unf
    refine ih hL _ _ _ (by lia) hs fun t' μ₃ ht d3 => ?_
    ktr_unf
    refine ⟨by simp, by simp, Nat.le_of_ble_eq_true rfl, ?_⟩
    ktr_unf
    exact h (.box t') _ (.box ht) d3
  | arr t k ih =>
    intro hL m μ K hm hs h
    obtain ⟨k', rfl⟩ : ∃ k', m = k' + 3 := ⟨m - 3, by lia⟩
    simp only [Ty.dep] at hm
    cases hL with
    | arr hL =>
    refine' F_def ["source", "one"] (ρ₀ := [("source", .raw (.ref src)), ("one", tyV (.arr t k))]) ?ho ?hcode ?h1 ?h2 ?h3 rfl ?hnd ?hok ?hb ?_
    ktr_rel
    intro L
    show wpS _ _ ⟨envOfC _ ⟨_, _, _, _, _⟩ _ _ _, cellNames ⟨_, _, _, _, _⟩, _⟩ _ _ (_ :: _) _
    ktr_unf
    refine ih hL _ _ _ (by lia) hs fun t' μ₃ ht d3 => ?_
    ktr_unf
    refine ⟨by simp, by simp, Nat.le_of_ble_eq_true rfl, ?_⟩
    ktr_unf
    exact h (.arr t' k) _ (.arr ht) d3
  | pair a b iha ihb =>
    intro hL m μ K hm hs h
    obtain ⟨k', rfl⟩ : ∃ k', m = k' + 3 := ⟨m - 3, by lia⟩
    simp only [Ty.dep] at hm
    cases hL with
    | pair hL1 hL2 =>
    refine' F_def ["source", "one"] (ρ₀ := [("source", .raw (.ref src)), ("one", tyV (.pair a b))]) ?ho ?hcode ?h1 ?h2 ?h3 rfl ?hnd ?hok ?hb ?_
    ktr_rel
    intro L
    show wpS _ _ ⟨envOfC _ ⟨_, _, _, _, _⟩ _ _ _, cellNames ⟨_, _, _, _, _⟩, _⟩ _ _ (_ :: _) _
    ktr_unf
    refine iha hL1 _ _ _ (by lia) hs fun t' μ₂ ht d2 => ?_
    ktr_unf
    refine ihb hL2 _ _ _ (by lia) (d2.src hs) fun u' μ₃ hu d3 => ?_
    ktr_unf
    exact h (.pair t' u') _ (.pair ht hu) (d2.trans d3)
  | adt r t ih =>
    intro hL m μ K hm hs h
    obtain ⟨k', rfl⟩ : ∃ k', m = k' + 3 := ⟨m - 3, by lia⟩
    simp only [Ty.dep] at hm
    cases hL with
    | @adt r _ _ _ hL =>
    refine' F_def ["source", "one"] (ρ₀ := [("source", .raw (.ref src)), ("one", tyV (.adt (.n r) t))]) ?ho ?hcode ?h1 ?h2 ?h3 rfl ?hnd ?hok ?hb ?_
    ktr_rel
    intro L
    show wpS _ _ ⟨envOfC _ ⟨_, _, _, _, _⟩ _ _ _, cellNames ⟨_, _, _, _, _⟩, _⟩ _ _ (_ :: _) _
    ktr_unf
    refine take_drew hs (by decide) (by decide) fun r' μ₂ r0 r1 d2 => ?_
    ktr_unf
    refine ih hL _ _ _ (by lia) (d2.src hs) fun t' μ₃ ht d3 => ?_
    ktr_unf
    exact h (.adt (.n (1 + r')) t') _ (.adt ht) (d2.trans d3)
end
end
section
local macro_rules
  | `(tactic| ktr_unf) => `(tactic| (((with_reducible (show wpE _ _ _ _ _ _ _)); first | refine r_List ?_ | refine E_U8 rfl ?_ | refine E_ListComp2 ⟨rfl, rfl, rfl, rfl, fun _ => rfl⟩ ?_) <;> ktr_unf))
local macro_rules
  | `(tactic| ktr_unf) => `(tactic| (((with_reducible (show wpF _ _ _ _ _ _)); refine within_spec ?_) <;> ktr_unf))
section
variable {W : Wd} {n : Nat} {F : Fm} {ρ : Loc} {μ : Mem} {pos : Pos}
theorem compO_cons {t1 t2 i2 elt : Expr} {K : List V → Mem → Prop} {y : V} {xs ys acc : List V} (e : xs = y :: ys) (h : wpTg W n F ρ μ t1 y fun ρ' μ' => iterE W n F ρ' μ' t2 i2 fun xs μ₂ => acc.length + xs.length ≤ sizeLine ∧ compI W n F t2 elt (fun acc' ρ'' μ'' => compO W n F t1 t2 i2 elt K ys acc' ρ'' μ'') xs acc ρ' μ₂) : compO W n F t1 t2 i2 elt K xs acc ρ μ := by subst e; exact h
theorem compO_nil {t1 t2 i2 elt : Expr} {K : List V → Mem → Prop} {xs acc : List V} (e : xs = []) (h : K acc μ) : compO W n F t1 t2 i2 elt K xs acc ρ μ := by subst e; exact h
theorem compI_inv {target elt : Expr} {K : List V → Loc → Mem → Prop} (I0 : List V → List V → Loc → Mem → Prop) (hnil : ∀ acc ρ μ, I0 [] acc ρ μ → K acc ρ μ)
    (hcons : ∀ I : List V → List V → Loc → Mem → Prop, (∀ xs acc ρ μ, I0 xs acc ρ μ → I xs acc ρ μ) → ∀ y ys acc ρ μ, I0 (y :: ys) acc ρ μ → wpTg W n F ρ μ target y fun ρ' μ' => wpE W n F ρ' μ' elt fun z μ₃ => I ys (acc ++ [z]) ρ' μ₃) (xs acc : List V) : ∀ (ρ : Loc) (μ : Mem), I0 xs acc ρ μ → compI W n F target elt K xs acc ρ μ := by
  induction xs generalizing acc with
  | nil => exact fun ρ μ h => hnil _ _ _ h
  | cons y ys ih => exact fun ρ μ h => wpTg_mono (hcons I0 (fun _ _ _ _ h => h) y ys acc ρ μ h) fun ρ' μ' hb => wpE_mono hb fun z μ₃ hz => ih _ _ _ hz
end
theorem add_ok {A : List V} {ps : List Pr} (hA : A.length ≤ 10000) (hp : ps.length ≤ 10000) : A.length + (ps.map prV).length ≤ sizeLine := by rw [List.length_map, sizeLine_eq]; lia
section
variable {W : Wd}
theorem pairs_spec {v0 v1 : Wy} : ∀ {s t : Ty}, Like s t → ∀ (w : Wy) (m : Nat) (K : V → Mem → Prop) (μ : Mem), s.dep + 3 ≤ m → s.nreg ≤ 1000 → K (.lst ((prs v0 v1 s t w).map prV)) μ → wpF W m (.raw (.ref 463)) [tyV s, tyV t, wyV w, .lst [wyV v0, wyV v1]] μ K := by
  intro s t hL
  induction hL with
  | int x =>
    intro w m K μ hm hz h
    obtain ⟨k', rfl⟩ : ∃ k', m = k' + 3 := ⟨m - 3, by lia⟩
    refine' F_def ["one", "other", "way", "varied"] (ρ₀ := [("one", tyV (.int x)), ("other", tyV (.int x)), ("way", wyV w), ("varied", .lst [wyV v0, wyV v1])]) ?ho ?hcode ?h1 ?h2 ?h3 rfl ?hnd ?hok ?hb ?_
    ktr_rel
    intro L
    show wpS _ _ ⟨envOfC _ ⟨_, _, _, _, _⟩ _ _ _, cellNames ⟨_, _, _, _, _⟩, _⟩ _ _ (_ :: _) _
    ktr_unf
    exact h
  | @ref a b r s t hs ih =>
    intro w m K μ hm hz h
    obtain ⟨k', rfl⟩ : ∃ k', m = k' + 3 := ⟨m - 3, by lia⟩
    simp only [Ty.dep, Ty.nreg] at hm hz
    refine' F_def ["one", "other", "way", "varied"] (ρ₀ := [("one", tyV (.ref (.n a) r s)), ("other", tyV (.ref (.n b) r t)), ("way", wyV w), ("varied", .lst [wyV v0, wyV v1])]) ?ho ?hcode ?h1 ?h2 ?h3 rfl ?hnd ?hok ?hb ?_
    ktr_rel
    intro L
    show wpS _ _ ⟨envOfC _ ⟨_, _, _, _, _⟩ _ _ _, cellNames ⟨_, _, _, _, _⟩, _⟩ _ _ (_ :: _) _
    have l1 : ∀ x, (prs v0 v1 s t x).length ≤ 10000 := fun x => by have := prs_len (v0 := v0) (v1 := v1) x hs; lia
    cases w <;> cases r
    all_goals
      ktr_unf
      first | refine within_spec (v := .co) ?_ | refine within_spec (v := .inn) ?_
      ktr_unf
      refine ih _ _ _ _ (by lia) (by lia) ?_
      ktr_unf
      refine op_add_lst (add_ok (by simp) (l1 _)) ?_
      ktr_unf
      simp only [prs_int, prs_ref, prs_box, prs_arr, prs_pair, prs_adt, rp, List.map_append, List.map_cons, List.map_nil] at h
      exact h
  | @box s t hs ih =>
    intro w m K μ hm hz h
    obtain ⟨k', rfl⟩ : ∃ k', m = k' + 3 := ⟨m - 3, by lia⟩
    simp only [Ty.dep, Ty.nreg] at hm hz
    refine' F_def ["one", "other", "way", "varied"] (ρ₀ := [("one", tyV (.box s)), ("other", tyV (.box t)), ("way", wyV w), ("varied", .lst [wyV v0, wyV v1])]) ?ho ?hcode ?h1 ?h2 ?h3 rfl ?hnd ?hok ?hb ?_
    ktr_rel
    intro L
    show wpS _ _ ⟨envOfC _ ⟨_, _, _, _, _⟩ _ _ _, cellNames ⟨_, _, _, _, _⟩, _⟩ _ _ (_ :: _) _
    ktr_unf
    refine ih _ _ _ _ (by lia) (by lia) ?_
    ktr_unf
    exact h
  | @arr s t k hs ih =>
    intro w m K μ hm hz h
    obtain ⟨k', rfl⟩ : ∃ k', m = k' + 3 := ⟨m - 3, by lia⟩
    simp only [Ty.dep, Ty.nreg] at hm hz
    refine' F_def ["one", "other", "way", "varied"] (ρ₀ := [("one", tyV (.arr s k)), ("other", tyV (.arr t k)), ("way", wyV w), ("varied", .lst [wyV v0, wyV v1])]) ?ho ?hcode ?h1 ?h2 ?h3 rfl ?hnd ?hok ?hb ?_
    ktr_rel
    intro L
    show wpS _ _ ⟨envOfC _ ⟨_, _, _, _, _⟩ _ _ _, cellNames ⟨_, _, _, _, _⟩, _⟩ _ _ (_ :: _) _
    ktr_unf
    refine ih _ _ _ _ (by lia) (by lia) ?_
    ktr_unf
    exact h
  | @pair a b c d ha hb iha ihb =>
    intro w m K μ hm hz h
    obtain ⟨k', rfl⟩ : ∃ k', m = k' + 3 := ⟨m - 3, by lia⟩
    simp only [Ty.dep, Ty.nreg] at hm hz
    refine' F_def ["one", "other", "way", "varied"] (ρ₀ := [("one", tyV (.pair a b)), ("other", tyV (.pair c d)), ("way", wyV w), ("varied", .lst [wyV v0, wyV v1])]) ?ho ?hcode ?h1 ?h2 ?h3 rfl ?hnd ?hok ?hb ?_
    ktr_rel
    intro L
    show wpS _ _ ⟨envOfC _ ⟨_, _, _, _, _⟩ _ _ _, cellNames ⟨_, _, _, _, _⟩, _⟩ _ _ (_ :: _) _
    ktr_unf
    intro C
    refine compO_cons rfl ?_
    have l1 : ∀ x, (prs v0 v1 a c x).length ≤ 10000 := fun x => by have := prs_len (v0 := v0) (v1 := v1) x ha; lia
    have l2 : ∀ x, (prs v0 v1 b d x).length ≤ 10000 := fun x => by have := prs_len (v0 := v0) (v1 := v1) x hb; lia
    ktr_unf
    refine iha _ _ _ _ (by lia) (by lia) ?_
    ktr_unf
    refine ⟨add_ok (by simp) (l1 _), ?_⟩
    refine compI_inv (fun xs acc ρ μ' => Bx (∃ p1 p2 : List Pr, prs v0 v1 a c w = p1 ++ p2 ∧ xs = p2.map prV ∧ acc = p1.map prV ∧ μ' = μ ∧ Lk ρ "one" (tyV (.pair a b)) ∧ Lk ρ "other" (tyV (.pair c d)) ∧ Lk ρ "way" (wyV w) ∧ Lk ρ "varied" (.lst [wyV v0, wyV v1]))) ?_ ?_ _ _ _ _ ⟨⟨[], _, rfl, rfl, rfl, rfl, rfl, rfl, rfl, rfl⟩⟩
    rotate_left
    · rintro I hI y ys acc ρ μ' ⟨⟨p1, p2, e0, e, rfl, rfl, k1, k2, k3, k4⟩⟩
      cases p2 with
      | nil => cases e
      | cons p p2 =>
        cases e
        ktr_unf
        exact hI _ _ _ _ ⟨⟨p1 ++ [p], p2, by rw [e0]; simp, rfl, by simp, rfl, k1, k2, k3, k4⟩⟩
    · rintro acc ρ μ' ⟨⟨p1, p2, e0, e, rfl, rfl, k1, k2, k3, k4⟩⟩
      cases p2 with
      | cons _ _ => cases e
      | nil =>
        rw [List.append_nil] at e0
        refine compO_cons rfl ?_
        ktr_unf
        refine ihb _ _ _ _ (by lia) (by lia) ?_
        ktr_unf
        refine ⟨add_ok (by rw [List.length_map, ← e0]; exact l1 _) (l2 _), ?_⟩
        refine compI_inv (fun xs acc ρ μ'' => Bx (∃ q1 q2 : List Pr, prs v0 v1 b d w = q1 ++ q2 ∧ xs = q2.map prV ∧ acc = p1.map prV ++ q1.map prV ∧ μ'' = μ')) ?_ ?_ _ _ _ _ ⟨⟨[], _, rfl, rfl, by simp, rfl⟩⟩
        rotate_left
        · rintro I hI y ys acc ρ μ'' ⟨⟨q1, q2, e1, e, rfl, rfl⟩⟩
          cases q2 with
          | nil => cases e
          | cons p q2 =>
            cases e
            ktr_unf
            exact hI _ _ _ _ ⟨⟨q1 ++ [p], q2, by rw [e1]; simp, rfl, by simp, rfl⟩⟩
        · rintro acc ρ μ'' ⟨⟨q1, q2, e1, e, rfl, rfl⟩⟩
          cases q2 with
          | cons _ _ => cases e
          | nil =>
            rw [List.append_nil] at e1
            refine compO_nil rfl ?_
            ktr_unf
            rw [← List.map_append, ← e0, ← e1]
            exact h
  | @adt a b s t hs ih =>
    intro w m K μ hm hz h
    obtain ⟨k', rfl⟩ : ∃ k', m = k' + 3 := ⟨m - 3, by lia⟩
    simp only [Ty.dep, Ty.nreg] at hm hz
    refine' F_def ["one", "other", "way", "varied"] (ρ₀ := [("one", tyV (.adt (.n a) s)), ("other", tyV (.adt (.n b) t)), ("way", wyV w), ("varied", .lst [wyV v0, wyV v1])]) ?ho ?hcode ?h1 ?h2 ?h3 rfl ?hnd ?hok ?hb ?_
    ktr_rel
    intro L
    show wpS _ _ ⟨envOfC _ ⟨_, _, _, _, _⟩ _ _ _, cellNames ⟨_, _, _, _, _⟩, _⟩ _ _ (_ :: _) _
    ktr_unf
    have l1 : ∀ x, (prs v0 v1 s t x).length ≤ 10000 := fun x => by have := prs_len (v0 := v0) (v1 := v1) x hs; lia
    simp only [prs_int, prs_ref, prs_box, prs_arr, prs_pair, prs_adt, List.map_append] at h
    generalize within w v1 = w1 at *
    generalize within w v0 = w0 at *
    cases w0
    all_goals
      ktr_unf
      refine ih _ _ _ _ (by lia) (by lia) ?_
      ktr_unf
      refine op_add_lst (add_ok (by simp) (l1 _)) ?_
      ktr_unf
      simp only [rp, List.map_cons, List.map_nil] at h
      exact h
end
end
section
local macro_rules
  | `(tactic| ktr_unf) => `(tactic| (((with_reducible (show wpE _ _ _ _ _ _ _)); first | refine r_List ?_ | refine E_U8 rfl ?_ | refine E_ListComp2 ⟨rfl, rfl, rfl, rfl, fun _ => rfl⟩ ?_) <;> ktr_unf))
theorem Pl.up : ∀ {d : Nat} {t : Ty}, Pl d t → Pl (d + 1) t
  | _, _, .int => .int
  | _, _, .ref h => .ref h.up
  | _, _, .box h => .box h.up
  | _, _, .arr h => .arr h.up
  | _, _, .pair h k => .pair h.up k.up
noncomputable def wayV (p : Int × Bool) : V := .tup [.int p.1, .bool p.2]
section
variable {W : Wd} {n : Nat} {F : Fm} {ρ : Loc} {μ : Mem} {pos : Pos}
theorem iterE_mono {target iter : Expr} {K K' : List V → Mem → Prop} (h : iterE W n F ρ μ target iter K) (k : ∀ xs μ', K xs μ' → K' xs μ') : iterE W n F ρ μ target iter K' :=
  ⟨fun A g s hA hg hf Q hQ => h.go A g s hA hg hf Q fun g' μ' I fp wr St h' tk' xs hK => hQ g' μ' I fp wr St h' tk' xs (k _ _ hK)⟩
theorem X_ForI {target iter : Expr} {body : List Stmt} {K : Out → Mem → Prop} (I0 : List V → Loc → Mem → Prop) (h : iterE W n F ρ μ target iter fun xs μ₁ => Bx (I0 xs ρ μ₁)) (hnil : ∀ ρ μ, I0 [] ρ μ → K (.next ρ) μ)
    (hcons : ∀ I : List V → Loc → Mem → Prop, (∀ xs ρ μ, I0 xs ρ μ → I xs ρ μ) → ∀ y ys ρ μ, I0 (y :: ys) ρ μ → wpTg W n F ρ μ target y (kU (C W n F [.bdy body, .ko (forI I K ys)]))) (hs : ∀ x, foldedSetIterable iter F.env x = pure x := by intro _; rfl) : wpX W n F ρ μ (.For target iter body [] pos) K :=
  X_For (iterE_mono h fun xs μ₁ hb => forL_inv I0 hnil hcons xs ρ μ₁ hb.out) hs
theorem wpX_mono {st : Stmt} {K K' : Out → Mem → Prop} (h : wpX W n F ρ μ st K) (k : ∀ o μ', K o μ' → K' o μ') : wpX W n F ρ μ st K' :=
  ⟨fun A g s hA hg hf Q hQ => h.go A g s hA hg hf Q fun f o g' μ' h' tk' hK => hQ f o g' μ' h' tk' (k _ _ hK)⟩
/-- what is said of the frame between two statements -/
theorem S_cut {st : Stmt} {rest : List Stmt} {K : Out → Mem → Prop} (I : Loc → Mem → Prop) (h1 : wpX W n F ρ μ st fun o μ' => ∃ ρ', o = .next ρ' ∧ Bx (I ρ' μ')) (h2 : ∀ ρ' μ', I ρ' μ' → wpS W n F ρ' μ' rest K) : wpS W n F ρ μ (st :: rest) K :=
  S_cons (wpX_mono h1 fun o μ' ⟨ρ', e, hb⟩ => by subst e; exact seqK_next (h2 ρ' μ' hb.out))
end
section
variable {W : Wd} {n : Nat} {μ : Mem} {K : V → Mem → Prop} {src ra : Addr}
theorem place_spec {rows : List Ty} {l : Nat} {t0 : Ty} (hl : rows[l]? = some t0) (hz : l < 1000) (hp : Pl 3 t0) (hr : μ.lookup ra = some (.lst (rows.map tyV))) (hs : SrcAt μ src)
    (h : ∀ ps t ws μ', At t0 ps t ws → Pl 3 t → ps.length ≤ 4 → Drew src μ μ' → K (.tup [plV l ps, tyV t, .lst (ws.map wayV)]) μ') : wpF W (n + 2) (.raw (.ref 477)) [.raw (.ref src), .raw (.ref ra), .int l] μ K := by
  refine F_nd fun nd => ?_
  refine' F_def ["source", "rows", "local"] (ρ₀ := [("source", .raw (.ref src)), ("rows", .raw (.ref ra)), ("local", .int l)]) ?ho ?hcode ?h1 ?h2 ?h3 rfl ?hnd ?hok ?hb ?_
  ktr_rel
  intro L
  show wpS _ _ ⟨envOfC _ ⟨_, _, _, _, _⟩ _ _ _, cellNames ⟨_, _, _, _, _⟩, _⟩ _ _ (_ :: _) _
  refine S_cut (fun ρ μ' => μ = μ' ∧ Lk ρ "steps" (.tup ([].map pjV)) ∧ Lk ρ "kind" (tyV t0) ∧ Lk ρ "ways" (.lst ([].map wayV)) ∧ Lk ρ "source" (.raw (.ref src)) ∧ Lk ρ "local" (.int l)) ?_ ?_
  · ktr_unf
    refine sub_mlst (y := tyV t0) hr (by simp) (Int.lt_trans (by lia) (show (1000 : Int) < 2 ^ 63 by decide)) (by simp [hl]) ?_
    ktr_unf
    exact ⟨rfl, rfl, rfl, rfl, rfl, rfl⟩
  rintro ρ μ' ⟨rfl, k1, k2, k3, k4, k5⟩
  refine S_cons (X_ForI (fun xs ρ μ' => Bx (∃ ps t ws, At t0 ps t ws ∧ Pl 3 t ∧ ps.length + xs.length ≤ 4 ∧ Drew src μ μ' ∧ Lk ρ "steps" (.tup (ps.map pjV)) ∧ Lk ρ "kind" (tyV t) ∧ Lk ρ "ways" (.lst (ws.map wayV)) ∧ Lk ρ "source" (.raw (.ref src)) ∧ Lk ρ "local" (.int l))) ?_ ?_ ?_)
  · ktr_unf
    exact ⟨⟨[], t0, [], .nil, hp, by simp, Drew.same nd hs, k1, k2, k3, k4, k5⟩⟩
  · rintro ρ μ' ⟨⟨ps, t, ws, hat, hpl, hlen, hdr, k1, k2, k3, k4, k5⟩⟩
    ktr_unf
    exact h ps t ws μ' hat hpl (by simpa using hlen) hdr
  · rintro I hI y ys ρ μ' ⟨⟨ps, t, ws, hat, hpl, hlen, hdr, k1, k2, k3, k4, k5⟩⟩
    rw [List.length_cons] at hlen
    have hs' := hdr.src hs
    have szp : ∀ q : Pj, (ps.map pjV).length + [pjV q].length ≤ sizeLine := fun q => by rw [List.length_map, List.length_singleton, sizeLine_eq]; lia
    have wl := hat.len
    have fin : ∀ (q : Pj) (t' : Ty) (ws' : List (Int × Bool)) (ρ' : Loc) (μ₂ : Mem), At t0 (ps ++ [q]) t' ws' → Pl 2 t' → Drew src μ' μ₂ → Lk ρ' "steps" (.tup (ps.map pjV ++ [pjV q])) → Lk ρ' "kind" (tyV t') → Lk ρ' "ways" (.lst (ws'.map wayV)) → Lk ρ' "source" (.raw (.ref src)) → Lk ρ' "local" (.int l) →
        Bx (∃ ps t ws, At t0 ps t ws ∧ Pl 3 t ∧ ps.length + ys.length ≤ 4 ∧ Drew src μ μ₂ ∧ Lk ρ' "steps" (.tup (ps.map pjV)) ∧ Lk ρ' "kind" (tyV t) ∧ Lk ρ' "ways" (.lst (ws.map wayV)) ∧ Lk ρ' "source" (.raw (.ref src)) ∧ Lk ρ' "local" (.int l)) :=
      fun q t' ws' ρ' μ₂ ha hp' hd' e1 e2 e3 e4 e5 => ⟨⟨ps ++ [q], t', ws', ha, hp'.up, by simp; lia, hdr.trans hd', by rw [List.map_append]; exact e1, e2, e3, e4, e5⟩⟩
    cases hpl with
    | int =>
      ktr_unf
      exact h ps _ ws μ' hat .int (by lia) hdr
    | @ref _ r m t hpl =>
      ktr_unf
      refine take_drew hs' (by decide) (by decide) fun d μ₁ d0 d1 dr => ?_
      ktr_unf
      refine ite_b (fun c => ?_) (fun c => ?_)
      · ktr_unf
        exact h ps _ ws μ₁ hat (.ref hpl) (by lia) (hdr.trans dr)
      ktr_unf
      refine op_add_tup (szp .der) ?_
      ktr_unf
      exact hI _ _ _ (fin .der t ((r, m) :: ws) _ _ (hat.step .ref) hpl dr rfl rfl rfl k4 k5)
    | @box _ t hpl =>
      ktr_unf
      refine take_drew hs' (by decide) (by decide) fun d μ₁ d0 d1 dr => ?_
      ktr_unf
      refine ite_b (fun c => ?_) (fun c => ?_)
      · ktr_unf
        exact h ps _ ws μ₁ hat (.box hpl) (by lia) (hdr.trans dr)
      ktr_unf
      refine op_add_tup (szp .der) ?_
      ktr_unf
      exact hI _ _ _ (fin .der t ws _ _ (hat.step .box) hpl dr rfl rfl k3 k4 k5)
    | @arr _ t k hpl =>
      ktr_unf
      refine take_drew hs' (by decide) (by decide) fun d μ₁ d0 d1 dr => ?_
      ktr_unf
      refine ite_b (fun c => ?_) (fun c => ?_)
      · ktr_unf
        exact h ps _ ws μ₁ hat (.arr hpl) (by lia) (hdr.trans dr)
      ktr_unf
      refine op_add_tup (szp .idx) ?_
      ktr_unf
      exact hI _ _ _ (fin .idx t ws _ _ (hat.step .idx) hpl dr rfl rfl k3 k4 k5)
    | @pair _ a b hpa hpb =>
      ktr_unf
      refine take_drew hs' (by decide) (by decide) fun d μ₁ d0 d1 dr => ?_
      ktr_unf
      refine ite_b (fun c => ?_) (fun c => ?_)
      · ktr_unf
        exact h ps _ ws μ₁ hat (.pair hpa hpb) (by lia) (hdr.trans dr)
      ktr_unf
      refine take_drew (dr.src hs') (by decide) (by decide) fun e μ₂ e0 e1 dr2 => ?_
      obtain rfl | rfl : e = 0 ∨ e = 1 := by lia
      · ktr_unf
        refine op_add_tup (szp (.fld 0)) ?_
        ktr_unf
        exact hI _ _ _ (fin (.fld 0) a ws _ _ (hat.step .f0) hpa (dr.trans dr2) rfl rfl k3 k4 k5)
      · ktr_unf
        refine op_add_tup (szp (.fld 1)) ?_
        ktr_unf
        exact hI _ _ _ (fin (.fld 1) b ws _ _ (hat.step .f1) hpb (dr.trans dr2) rfl rfl k3 k4 k5)
end
end
section
local macro_rules
  | `(tactic| ktr_unf) => `(tactic| (((with_reducible (show wpE _ _ _ _ _ _ _)); first | refine r_List ?_ | refine E_U8 rfl ?_ | refine E_ListComp2 ⟨rfl, rfl, rfl, rfl, fun _ => rfl⟩ ?_) <;> ktr_unf))
theorem Pl.self {d : Nat} {t : Ty} (h : Pl d t) : Like t t := by
  induction h with
  | int => exact .int _
  | ref _ ih => exact .ref ih
  | box _ ih => exact .box ih
  | arr _ ih => exact .arr ih
  | pair _ _ ih ik => exact .pair ih ik
theorem Pl.dep {d : Nat} {t : Ty} (h : Pl d t) : t.dep ≤ d := by
  induction h with
  | int => exact Nat.zero_le _
  | ref _ ih => exact Nat.succ_le_succ ih
  | box _ ih => exact Nat.succ_le_succ ih
  | arr _ ih => exact Nat.succ_le_succ ih
  | pair _ _ ih ik => exact Nat.succ_le_succ (Nat.max_le.mpr ⟨ih, ik⟩)
noncomputable def mxr : Nat → Nat
  | 0 => 0
  | d + 1 => 1 + 2 * mxr d
theorem Pl.nreg : ∀ {d : Nat} {t : Ty}, Pl d t → t.nreg ≤ mxr d
  | _, _, .int => Nat.zero_le _
  | _, _, .ref h => by have := h.nreg; simp only [Ty.nreg, mxr]; lia
  | _, _, .box h => by have := h.nreg; simp only [Ty.nreg, mxr]; lia
  | _, _, .arr h => by have := h.nreg; simp only [Ty.nreg, mxr]; lia
  | _, _, .pair h k => by have := h.nreg; have := k.nreg; simp only [Ty.nreg, mxr]; lia
theorem Pl.prs {v0 v1 u0 u1 : Wy} {d : Nat} {s t : Ty} (w : Wy) (h : Pl d s) (k : Like s t) : Mine.prs v0 v1 s t w = Mine.prs u0 u1 s t w := by
  induction k generalizing d w with
  | int x => rfl
  | ref _ ih => cases h with | ref h => rw [prs_ref, prs_ref, ih _ h]
  | box _ ih => cases h with | box h => exact ih _ h
  | arr _ ih => cases h with | arr h => exact ih _ h
  | pair _ _ ih ik => cases h with | pair h h' => rw [prs_pair, prs_pair, ih _ h, ik _ h']
  | adt _ _ => cases h
theorem Like.dep {s t : Ty} (h : Like s t) : t.dep = s.dep := by
  induction h with
  | int x => rfl
  | pair _ _ ih ik => exact (congrArg (fun x => max x _ + 1) ih).trans (congrArg (fun x => max _ x + 1) ik)
  | _ _ ih => exact congrArg (· + 1) ih
theorem Like.nreg {s t : Ty} (h : Like s t) : t.nreg = s.nreg := by
  induction h with
  | int x => rfl
  | pair _ _ ih ik => exact (congrArg (fun x => x + _) ih).trans (congrArg (fun x => _ + x) ik)
  | box _ ih => exact ih
  | arr _ ih => exact ih
  | _ _ ih => exact congrArg (· + 1) ih
theorem Like.symm : ∀ {s t : Ty}, Like s t → Like t s
  | _, _, .int x => .int x
  | _, _, .ref h => .ref h.symm
  | _, _, .box h => .box h.symm
  | _, _, .arr h => .arr h.symm
  | _, _, .pair h k => .pair h.symm k.symm
  | _, _, .adt h => .adt h.symm
section
variable {W : Wd} {n : Nat} {F : Fm} {ρ : Loc} {μ : Mem} {pos : Pos}
noncomputable def forJ (I : List V → Loc → Mem → Prop) (J : Loc → Mem → Prop) (K : Out → Mem → Prop) (ys : List V) : Out → Mem → Prop := fun o μ => match o with
  | .next ρ => I ys ρ μ
  | .cont ρ => I ys ρ μ
  | .brk ρ => Bx (J ρ μ)
  | .ret z => K (.ret z) μ
theorem forJ_next {I : List V → Loc → Mem → Prop} {J : Loc → Mem → Prop} {K : Out → Mem → Prop} {ys : List V} (h : I ys ρ μ) : forJ I J K ys (.next ρ) μ := h
theorem forJ_brk {I : List V → Loc → Mem → Prop} {J : Loc → Mem → Prop} {K : Out → Mem → Prop} {ys : List V} (h : Bx (J ρ μ)) : forJ I J K ys (.brk ρ) μ := h
theorem forL_invJ {target : Expr} {body : List Stmt} {K : Out → Mem → Prop} (I : List V → Loc → Mem → Prop) (J : Loc → Mem → Prop) (hend : ∀ ρ μ, J ρ μ → K (.next ρ) μ) (hnil : ∀ ρ μ, I [] ρ μ → J ρ μ)
    (hcons : ∀ y ys ρ μ, I (y :: ys) ρ μ → wpTg W n F ρ μ target y fun ρ' μ' => wpS W n F ρ' μ' body (forJ I J K ys)) : ∀ (xs : List V) (ρ : Loc) (μ : Mem), I xs ρ μ → forL W n F target body K xs ρ μ
  | [], ρ, μ, h => hend _ _ (hnil _ _ h)
  | y :: ys, ρ, μ, h => wpTg_mono (hcons y ys ρ μ h) fun ρ' μ' hb => wpS_mono hb fun o μ'' ho => by
    cases o with
    | next ρ'' => exact forL_invJ I J hend hnil hcons ys _ _ ho
    | cont ρ'' => exact forL_invJ I J hend hnil hcons ys _ _ ho
    | brk ρ'' => exact hend _ _ (show Bx (J ρ'' μ'') from ho).out
    | ret z => exact ho
end
local macro_rules
  | `(tactic| ktr_unf) => `(tactic| ((first | refine forJ_next ?_ | refine forJ_brk ?_) <;> ktr_unf))
section
variable {W : Wd} {n : Nat} {μ : Mem} {K : V → Mem → Prop} {src : Addr}
theorem lent_spec {v0 v1 : Wy} {l : Nat} {ps : List Pj} {t : Ty} {ws : List (Int × Bool)} (hp : Pl 3 t) (hwl : ws.length ≤ 10) (hs : SrcAt μ src)
    (h : ∀ r b m g μ', Like t g → Drew src μ μ' → K (.tup [rvV (.lent r m l ps), tyV (.ref (.n b) m g), .lst (((r, b) :: (prs v0 v1 t g (mw m) ++ thr r ws)).map prV)]) μ') :
    wpF W (n + 10) (.raw (.ref 484)) [.raw (.ref src), plV l ps, tyV t, .lst (ws.map wayV)] μ K := by
  have hd := hp.dep
  have hr := hp.nreg
  simp only [mxr] at hr
  refine' F_def ["source", "place", "kind", "ways"] (ρ₀ := [("source", .raw (.ref src)), ("place", plV l ps), ("kind", tyV t), ("ways", .lst (ws.map wayV))]) ?ho ?hcode ?h1 ?h2 ?h3 rfl ?hnd ?hok ?hb ?_
  ktr_rel
  intro L
  show wpS _ _ ⟨envOfC _ ⟨_, _, _, _, _⟩ _ _ _, cellNames ⟨_, _, _, _, _⟩, _⟩ _ _ (_ :: _) _
  ktr_unf
  refine take_drew hs (by decide) (by decide) fun r μ₁ r0 r1 d1 => ?_
  ktr_unf
  refine take_drew (d1.src hs) (by decide) (by decide) fun e μ₂ e0 e1 d2 => ?_
  have dr := d1.trans d2
  ktr_unf
  generalize (e == 0) = m
  refine take_drew (dr.src hs) (by decide) (by decide) fun b μ₃ b0 b1 d3 => ?_
  have dr' := dr.trans d3
  ktr_unf
  refine like_spec hp.self _ _ _ (by lia) (dr'.src hs) fun g μ₄ hg d4 => ?_
  have dr4 := dr'.trans d4
  have pl : ∀ w, (prs .co .co t g w).length ≤ 10000 := fun w => by have := prs_len (v0 := .co) (v1 := .co) w hg; lia
  have key := h (10 + r) (1 + b) m g μ₄ hg dr4
  rw [Pl.prs (u0 := .co) (u1 := .co) (mw m) hp hg] at key
  have tl : ∀ q, (thr q ws).length ≤ 10 := fun q => Nat.le_trans (thr_len q ws) hwl
  cases m
  all_goals
    ktr_unf
    first | refine pairs_spec (v0 := .co) (v1 := .co) hg .co _ _ _ (by lia) (by lia) ?_ | refine pairs_spec (v0 := .co) (v1 := .co) hg .inn _ _ _ (by lia) (by lia) ?_
    refine op_add_lstM (add_ok (by simp) (pl _)) fun a ha => ?_
    ktr_unf
  · refine forL_invJ (fun xs ρ μ' => Bx (∃ w2 ds, xs = w2.map wayV ∧ ds ++ thr (10 + r) w2 = (10 + r, 1 + b) :: (prs .co .co t g .co ++ thr (10 + r) ws) ∧ ds.length + w2.length ≤ 10020 ∧ μ' = (a, .lst (ds.map prV)) :: μ₄ ∧ Lk ρ "pairs" (.raw (.ref a)) ∧ Lk ρ "region" (.int (10 + r)) ∧ Lk ρ "is_mut" (.bool false) ∧ Lk ρ "place" (plV l ps) ∧ Lk ρ "goal" (tyV (.ref (.n (1 + b)) false g))))
      (fun ρ μ' => ∃ ds, ds = (10 + r, 1 + b) :: (prs .co .co t g .co ++ thr (10 + r) ws) ∧ μ' = (a, .lst (ds.map prV)) :: μ₄ ∧ Lk ρ "pairs" (.raw (.ref a)) ∧ Lk ρ "region" (.int (10 + r)) ∧ Lk ρ "is_mut" (.bool false) ∧ Lk ρ "place" (plV l ps) ∧ Lk ρ "goal" (tyV (.ref (.n (1 + b)) false g))) ?_ ?_ ?_ _ _ _
      ⟨⟨ws, (10 + r, 1 + b) :: prs .co .co t g .co, rfl, rfl, by have := pl .co; rw [List.length_cons]; lia, rfl, rfl, rfl, rfl, rfl, rfl⟩⟩
    · rintro ρ μ' ⟨ds, rfl, rfl, k1, k2, k3, k4, k5⟩
      refine seqK_next ?_
      refine S_frz (z := "pairs") k1 (.lst mlookup_head) ?_
      rw [mdel_head ha]
      ktr_unf
      exact key
    · rintro ρ μ' ⟨⟨w2, ds, e, hd', hl, rfl, k1, k2, k3, k4, k5⟩⟩
      cases w2 with
      | cons _ _ => cases e
      | nil =>
      rw [thr, List.append_nil] at hd'
      exact ⟨ds, hd', rfl, k1, k2, k3, k4, k5⟩
    · rintro y ys ρ μ' ⟨⟨w2, ds, e, hd', hl, rfl, k1, k2, k3, k4, k5⟩⟩
      cases w2 with
      | nil => cases e
      | cons q w2 =>
      obtain ⟨o, op⟩ := q
      cases e
      rw [List.length_cons] at hl
      have hmm := mlookup_head (a := a) (m := .lst (ds.map prV)) (μ := μ₄)
      cases op
      · ktr_unf
        refine F_append hmm (by rw [List.length_map, sizeLine_eq]; lia) ?_
        rw [mset_head ha]
        ktr_unf
        exact ⟨⟨ds ++ [(o, 10 + r)], by rw [← hd']; simp [thr], by simp [prV], k1, k2, k3, k4, k5⟩⟩
      · ktr_unf
        refine F_append hmm (by rw [List.length_map, sizeLine_eq]; lia) ?_
        rw [mset_head ha]
        ktr_unf
        exact ⟨⟨w2, ds ++ [(o, 10 + r)], rfl, by rw [← hd']; simp [thr], by simp; lia, by simp [prV], k1, k2, k3, k4, k5⟩⟩
  · refine forL_invJ (fun xs ρ μ' => Bx (∃ w2 ds, xs = w2.map wayV ∧ ds ++ thr (10 + r) w2 = (10 + r, 1 + b) :: (prs .co .co t g .inn ++ thr (10 + r) ws) ∧ ds.length + w2.length ≤ 10020 ∧ μ' = (a, .lst (ds.map prV)) :: μ₄ ∧ Lk ρ "pairs" (.raw (.ref a)) ∧ Lk ρ "region" (.int (10 + r)) ∧ Lk ρ "is_mut" (.bool true) ∧ Lk ρ "place" (plV l ps) ∧ Lk ρ "goal" (tyV (.ref (.n (1 + b)) true g))))
      (fun ρ μ' => ∃ ds, ds = (10 + r, 1 + b) :: (prs .co .co t g .inn ++ thr (10 + r) ws) ∧ μ' = (a, .lst (ds.map prV)) :: μ₄ ∧ Lk ρ "pairs" (.raw (.ref a)) ∧ Lk ρ "region" (.int (10 + r)) ∧ Lk ρ "is_mut" (.bool true) ∧ Lk ρ "place" (plV l ps) ∧ Lk ρ "goal" (tyV (.ref (.n (1 + b)) true g))) ?_ ?_ ?_ _ _ _
      ⟨⟨ws, (10 + r, 1 + b) :: prs .co .co t g .inn, rfl, rfl, by have := pl .inn; rw [List.length_cons]; lia, rfl, rfl, rfl, rfl, rfl, rfl⟩⟩
    · rintro ρ μ' ⟨ds, rfl, rfl, k1, k2, k3, k4, k5⟩
      refine seqK_next ?_
      refine S_frz (z := "pairs") k1 (.lst mlookup_head) ?_
      rw [mdel_head ha]
      ktr_unf
      exact key
    · rintro ρ μ' ⟨⟨w2, ds, e, hd', hl, rfl, k1, k2, k3, k4, k5⟩⟩
      cases w2 with
      | cons _ _ => cases e
      | nil =>
      rw [thr, List.append_nil] at hd'
      exact ⟨ds, hd', rfl, k1, k2, k3, k4, k5⟩
    · rintro y ys ρ μ' ⟨⟨w2, ds, e, hd', hl, rfl, k1, k2, k3, k4, k5⟩⟩
      cases w2 with
      | nil => cases e
      | cons q w2 =>
      obtain ⟨o, op⟩ := q
      cases e
      rw [List.length_cons] at hl
      have hmm := mlookup_head (a := a) (m := .lst (ds.map prV)) (μ := μ₄)
      cases op
      · ktr_unf
        refine F_append hmm (by rw [List.length_map, sizeLine_eq]; lia) ?_
        rw [mset_head ha]
        ktr_unf
        exact ⟨⟨ds ++ [(o, 10 + r)], by rw [← hd']; simp [thr], by simp [prV], k1, k2, k3, k4, k5⟩⟩
      · ktr_unf
        refine F_append hmm (by rw [List.length_map, sizeLine_eq]; lia) ?_
        rw [mset_head ha]
        ktr_unf
        exact ⟨⟨w2, ds ++ [(o, 10 + r)], rfl, by rw [← hd']; simp [thr], by simp; lia, by simp [prV], k1, k2, k3, k4, k5⟩⟩
end
end
section
local macro_rules
  | `(tactic| ktr_unf) => `(tactic| (((with_reducible (show wpE _ _ _ _ _ _ _)); first | refine r_List ?_ | refine E_U8 rfl ?_ | refine E_ListComp2 ⟨rfl, rfl, rfl, rfl, fun _ => rfl⟩ ?_) <;> ktr_unf))
/-- the memory behind draws and new rows -/
structure Mv (src ra : Addr) (rows : List Ty) (μ μ' : Mem) : Prop where
  sa : SrcAt μ' src
  rw : μ'.lookup ra = some (.lst (rows.map tyV))
  adr : addrs μ' = addrs μ
  old : ∀ a, a ≠ src → a ≠ ra → μ'.lookup a = μ.lookup a
theorem Drew.lookup {src : Addr} {μ μ' : Mem} (h : Drew src μ μ') {a : Addr} (ha : a ≠ src) : μ'.lookup a = μ.lookup a := by
  obtain ⟨x, y, rfl, _⟩ := h.at'
  exact mlookup_mset_ne ha
theorem Drew.mv {src ra : Addr} {rows : List Ty} {μ μ' : Mem} (h : Drew src μ μ') (hs : SrcAt μ src) (hr : μ.lookup ra = some (.lst (rows.map tyV))) (hne : ra ≠ src) : Mv src ra rows μ μ' :=
  ⟨h.src hs, by rw [h.lookup hne]; exact hr, by obtain ⟨x, y, rfl, _⟩ := h.at'; exact addrs_mset _ _ _, fun a h1 _ => h.lookup h1⟩
theorem Mv.trans {src ra : Addr} {rows rows' : List Ty} {μ μ' μ'' : Mem} (h : Mv src ra rows μ μ') (k : Mv src ra rows' μ' μ'') : Mv src ra rows' μ μ'' :=
  ⟨k.sa, k.rw, k.adr.trans h.adr, fun a h1 h2 => (k.old a h1 h2).trans (h.old a h1 h2)⟩
theorem Mv.push {src ra : Addr} {rows : List Ty} {μ : Mem} {t : Ty} (hs : SrcAt μ src) (hr : μ.lookup ra = some (.lst (rows.map tyV))) (hne : ra ≠ src) : Mv src ra (rows ++ [t]) μ (mset μ ra (.lst ((rows ++ [t]).map tyV))) :=
  ⟨by obtain ⟨a, b, e, h⟩ := hs.at'; exact ⟨a, b, (mlookup_mset_ne hne.symm).trans e, h⟩, mlookup_mset hr, addrs_mset _ _ _, fun a _ h2 => mlookup_mset_ne h2⟩
theorem OpT.grow {rows more : List Ty} {o : Opn} {t : Ty} (h : OpT rows o t) : OpT (rows ++ more) o t := by
  have g : ∀ {l : Nat} {x : Ty}, rows[l]? = some x → (rows ++ more)[l]? = some x := fun e => by rw [List.getElem?_append_left (List.getElem?_eq_some_iff.mp e).1]; exact e
  cases h with
  | cp a b c => exact .cp (g a) b c
  | mv a b c => exact .mv (g a) b c
  | ct => exact .ct
theorem Asg.grow {v0 v1 : Wy} {rows more : List Ty} {k : Nat} {rv : Rv} {ds : List Pr} (h : Asg v0 v1 rows k rv ds) : Asg v0 v1 (rows ++ more) k rv ds := by
  have g : ∀ {l : Nat} {x : Ty}, rows[l]? = some x → (rows ++ more)[l]? = some x := fun e => by rw [List.getElem?_append_left (List.getElem?_eq_some_iff.mp e).1]; exact e
  cases h with
  | use a b c d => exact .use a.grow b (g c) d
  | lent a b c d e f i => exact .lent (g a) b c d e (g f) i
  | box a b c d => exact .box a.grow b (g c) d
  | trip a b c d e => exact .trip a.grow b (g c) d e
  | arr a b c d => exact .arr a.grow b (g c) d
  | adt a b c d e f i j k => exact .adt a.grow b c.grow d e (g f) i j k
theorem Like.trans {s t u : Ty} (h : Like s t) (k : Like t u) : Like s u := by
  induction h generalizing u with
  | int x => exact k
  | ref _ ih => cases k with | ref k => exact .ref (ih k)
  | box _ ih => cases k with | box k => exact .box (ih k)
  | arr _ ih => cases k with | arr k => exact .arr (ih k)
  | pair _ _ ih ik => cases k with | pair k k' => exact .pair (ih k) (ik k')
  | adt _ ih => cases k with | adt k => exact .adt (ih k)
theorem Like.right {s t : Ty} (h : Like s t) : Like t t := h.symm.trans h
section
variable {W : Wd} {n : Nat} {μ : Mem} {K : V → Mem → Prop} {src ra : Addr} {v0 v1 : Wy} {rows : List Ty}
theorem made_spec (hs : SrcAt μ src) (hr : μ.lookup ra = some (.lst (rows.map tyV))) (hne : ra ≠ src) (hrows : ∀ l, 1 ≤ l → l ≤ 3 → ∃ t, rows[l]? = some t ∧ Pl 3 t) (hlen : rows.length ≤ 500)
    (h : ∀ ex rv g ds μ', (∀ t ∈ ex, RowOk t) → ex.length ≤ 1 → RowOk g → Asg v0 v1 (rows ++ ex ++ [g]) (rows.length + ex.length) rv ds → ds.length ≤ 60 → Mv src ra (rows ++ ex) μ μ' → K (.tup [rvV rv, tyV g, .lst (ds.map prV)]) μ') :
    wpF W (n + 20) (.raw (.ref 491)) [.raw (.ref src), .raw (.ref ra), .lst [wyV v0, wyV v1]] μ K := by
  refine' F_def ["source", "rows", "varied"] (ρ₀ := [("source", .raw (.ref src)), ("rows", .raw (.ref ra)), ("varied", .lst [wyV v0, wyV v1])]) ?ho ?hcode ?h1 ?h2 ?h3 rfl ?hnd ?hok ?hb ?_
  ktr_rel
  intro L
  show wpS _ _ ⟨envOfC _ ⟨_, _, _, _, _⟩ _ _ _, cellNames ⟨_, _, _, _, _⟩, _⟩ _ _ (_ :: _) _
  ktr_unf
  refine take_drew hs (by decide) (by decide) fun d μ₁ d0 d1 dr1 => ?_
  ktr_unf
  obtain ⟨l, hl, hl1, hl3⟩ : ∃ l : Nat, 1 + d = (l : Int) ∧ 1 ≤ l ∧ l ≤ 3 := ⟨(1 + d).toNat, by lia, by lia, by lia⟩
  rw [hl]
  obtain ⟨t0, ht0, hp0⟩ := hrows l hl1 hl3
  have hs1 := dr1.src hs
  refine place_spec ht0 (by lia) hp0 ((dr1.lookup hne).trans hr) hs1 fun ps t ws μ₂ hat hp hps dr2 => ?_
  ktr_unf
  have dr12 := dr1.trans dr2
  have hs2 := dr12.src hs
  refine take_drew hs2 (by decide) (by decide) fun w μ₃ w0 w1 dr3 => ?_
  have dr := dr12.trans dr3
  have hs3 := dr.src hs
  have hd := hp.dep
  have hn := hp.nreg
  simp only [mxr] at hn
  have sm : Sm t := ⟨by lia, by lia⟩
  have wl := hat.len
  have last : ∀ (ex : List Ty) (g : Ty), (rows ++ ex ++ [g])[rows.length + ex.length]? = some g := fun ex g => by
    rw [List.getElem?_append_right (by simp), List.length_append, Nat.sub_self]; rfl
  have ht0' : ∀ more : List Ty, (rows ++ more)[l]? = some t0 := fun more => by rw [List.getElem?_append_left (List.getElem?_eq_some_iff.mp ht0).1]; exact ht0
  have pl : ∀ {g : Ty} (w : Wy), Like t g → (prs v0 v1 t g w).length ≤ 14 := fun w hL => by have := prs_len (v0 := v0) (v1 := v1) w hL; lia
  have mv := dr.mv hs hr hne
  have rok : ∀ {g : Ty}, Like t g → g.allR Rg.num ∧ g.dep ≤ 3 ∧ g.nreg ≤ 7 := fun hL => ⟨hL.symm.num, by rw [hL.dep]; exact hd, by rw [hL.nreg]; lia⟩
  ktr_unf
  refine ite_b (fun c => ?_) (fun c => ?_)
  · ktr_unf
    refine lent_spec (v0 := v0) (v1 := v1) hp (by lia) hs3 fun r b m g μ₄ hg dr4 => ?_
    ktr_unf
    have k := rok hg
    have := pl (mw m) hg
    have := thr_len r ws
    exact h [] (.lent r m l ps) (.ref (.n b) m g) _ μ₄ (fun _ h => nomatch h) (by simp) ⟨⟨trivial, k.1⟩, Nat.succ_le_succ (Nat.le_trans k.2.1 (by decide)), Nat.le_trans (Nat.succ_le_succ k.2.2) (by decide)⟩
      (.lent (by rw [List.append_assoc]; exact ht0' _) (by lia) hat (by lia) sm (last [] _) hg) (by simp only [List.length_cons, List.length_append]; lia) (by rw [List.append_nil]; exact (dr.trans dr4).mv hs hr hne)
  ktr_unf
  have e0 : ∀ a, a ∈ ([] : List Ty) → RowOk a := fun _ h => nomatch h
  have cpo : ∀ more : List Ty, OpT (rows ++ more) (.cp l ps) t := fun more => .cp (ht0' more) (by lia) hat
  refine ite_b (fun c => ?_) (fun c => ?_)
  · ktr_unf
    refine like_spec hp.self _ _ _ (by lia) hs3 fun g μ₄ hg dr4 => ?_
    ktr_unf
    refine pairs_spec hg .co _ _ _ (by lia) (by lia) ?_
    ktr_unf
    have k := rok hg
    have := pl .co hg
    exact h [] (.use l ps) g _ μ₄ e0 (by simp) ⟨k.1, by lia, by lia⟩ (.use (.mv (by rw [List.append_assoc]; exact ht0' _) (by lia) hat) sm (last [] _) hg) (by lia) (by rw [List.append_nil]; exact (dr.trans dr4).mv hs hr hne)
  ktr_unf
  refine ite_b (fun c => ?_) (fun c => ?_)
  · ktr_unf
    refine like_spec hp.self _ _ _ (by lia) hs3 fun g μ₄ hg dr4 => ?_
    ktr_unf
    refine like_spec hp.self _ _ _ (by lia) (dr4.src hs3) fun g' μ₅ hg' dr5 => ?_
    ktr_unf
    refine pairs_spec hg .co _ _ _ (by lia) (by lia) ?_
    ktr_unf
    refine pairs_spec hg' .co _ _ _ (by lia) (by lia) ?_
    have := pl .co hg
    have := pl .co hg'
    refine op_add_lst (add_ok (by rw [List.length_map]; lia) (by lia)) ?_
    ktr_unf
    have k := rok hg
    have k' := rok hg'
    have key := h [] (.trip l ps) (.trip g (.int "u8") g') _ μ₅ e0 (by simp) ⟨⟨k.1, trivial, k'.1⟩, by simp only [Ty.dep]; lia, by simp only [Ty.nreg]; lia⟩ (.trip (by rw [List.append_assoc]; exact cpo _) sm (last [] _) hg hg') (by rw [List.length_append]; lia) (by rw [List.append_nil]; exact ((dr.trans dr4).trans dr5).mv hs hr hne)
    rw [List.map_append] at key
    exact key
  ktr_unf
  refine ite_b (fun c => ?_) (fun c => ?_)
  · ktr_unf
    refine like_spec hp.self _ _ _ (by lia) hs3 fun g μ₄ hg dr4 => ?_
    ktr_unf
    refine pairs_spec hg .co _ _ _ (by lia) (by lia) ?_
    ktr_unf
    have k := rok hg
    have := pl .co hg
    exact h [] (.arr l ps) (.arr g 2) _ μ₄ e0 (by simp) ⟨k.1, by simp only [Ty.dep]; lia, by simp only [Ty.nreg]; lia⟩ (.arr (by rw [List.append_assoc]; exact cpo _) sm (last [] _) hg) (by lia) (by rw [List.append_nil]; exact (dr.trans dr4).mv hs hr hne)
  ktr_unf
  refine ite_b (fun c => ?_) (fun c => ?_)
  · ktr_unf
    refine like_spec hp.self _ _ _ (by lia) hs3 fun g μ₄ hg dr4 => ?_
    ktr_unf
    refine pairs_spec hg .co _ _ _ (by lia) (by lia) ?_
    ktr_unf
    have k := rok hg
    have := pl .co hg
    exact h [] (.box l ps) (.box g) _ μ₄ e0 (by simp) ⟨k.1, by simp only [Ty.dep]; lia, by simp only [Ty.nreg]; lia⟩ (.box (by rw [List.append_assoc]; exact cpo _) sm (last [] _) hg) (by lia) (by rw [List.append_nil]; exact (dr.trans dr4).mv hs hr hne)
  have hr3 : List.lookup ra μ₃ = some (.lst (rows.map tyV)) := (dr.lookup hne).trans hr
  ktr_unf
  refine take_drew hs3 (by decide) (by decide) fun b1 μ₄ _ _ dr4 => ?_
  ktr_unf
  refine like_spec hp.self _ _ _ (by lia) (dr4.src hs3) fun s1 μ₅ hs1' dr5 => ?_
  have hs5 := dr5.src (dr4.src hs3)
  have hr5 : List.lookup ra μ₅ = some (.lst (rows.map tyV)) := ((dr4.trans dr5).lookup hne).trans hr3
  ktr_unf
  refine F_append hr5 (by rw [List.length_map, sizeLine_eq]; lia) ?_
  have em : rows.map tyV ++ [V.tup [V.str "ref", V.int (1 + b1), V.bool false, tyV s1]] = (rows ++ [Ty.ref (.n (1 + b1)) false s1]).map tyV := by rw [List.map_append]; rfl
  rw [em]
  have mv6 := Mv.push (t := .ref (.n (1 + b1)) false s1) hs5 hr5 hne
  generalize mset μ₅ ra (.lst ((rows ++ [Ty.ref (.n (1 + b1)) false s1]).map tyV)) = μ₆ at mv6
  ktr_unf
  have hs6 := mv6.sa
  refine take_drew hs6 (by decide) (by decide) fun b2 μ₇ _ _ dr7 => ?_
  ktr_unf
  refine like_spec hp.self _ _ _ (by lia) (dr7.src hs6) fun s2 μ₈ hs2' dr8 => ?_
  ktr_unf
  have hh : Like (.adt (.n (1 + b2)) s2) (.adt (.n (1 + b2)) s2) := .adt hs2'.right
  have hd2 := hs2'.dep
  have hd1 := hs1'.dep
  have hn2 := hs2'.nreg
  have hn1 := hs1'.nreg
  refine like_spec hh _ _ _ (by simp only [Ty.dep]; lia) (dr8.src (dr7.src hs6)) fun gg μ₉ hgg dr9 => ?_
  have dr79 := (dr7.trans dr8).trans dr9
  have mv9 := mv6.trans (dr79.mv hs6 mv6.rw hne)
  cases hgg with
  | @adt _ bg _ g hg =>
  ktr_unf
  refine sub_mlst_neg (j := rows.length) (y := tyV (.ref (.n (1 + b1)) false s1)) mv9.rw (by decide) (by decide) (by simp [seqIndex?]; lia) (by simp) ?_
  ktr_unf
  have h12 : Like s1 s2 := hs1'.symm.trans hs2'
  refine pairs_spec (s := .ref (.n (1 + b1)) false s1) (t := .ref (.n (1 + b2)) false s2) (.ref h12) .co _ _ _ (by simp only [Ty.dep]; lia) (by simp only [Ty.nreg]; lia) ?_
  ktr_unf
  refine pairs_spec hs2' .co _ _ _ (by lia) (by lia) ?_
  have l1 := prs_len (v0 := v0) (v1 := v1) .co (Like.ref (a := 1 + b1) (b := 1 + b2) (m := false) h12)
  have l2 := pl .co hs2'
  have l3 := prs_len (v0 := v0) (v1 := v1) .co (Like.adt (a := 1 + b2) (b := bg) hg)
  simp only [Ty.nreg] at l1 l3
  refine op_add_lst (add_ok (by rw [List.length_map]; lia) (by lia)) ?_
  ktr_unf
  refine pairs_spec (s := .adt (.n (1 + b2)) s2) (t := .adt (.n bg) g) (.adt hg) .co _ _ _ (by simp only [Ty.dep]; lia) (by simp only [Ty.nreg]; lia) ?_
  refine op_add_lst (add_ok (by rw [List.length_append, List.length_map, List.length_map]; lia) (by lia)) ?_
  ktr_unf
  refine F_len_mlst mv9.rw (by simp; lia) ?_
  ktr_unf
  have eln : (((rows ++ [Ty.ref (.n (1 + b1)) false s1]).map tyV).length : Int) - 1 = (rows.length : Nat) := by simp
  rw [eln]
  have k2 := rok hs2'
  have rx : RowOk (.ref (.n (1 + b1)) false s1) := ⟨⟨trivial, (rok hs1').1⟩, by simp only [Ty.dep]; lia, by simp only [Ty.nreg]; lia⟩
  have dg := hg.dep
  have ng := hg.nreg
  have rg : RowOk (.adt (.n bg) g) := ⟨⟨trivial, hg.symm.num⟩, by simp only [Ty.dep]; lia, by simp only [Ty.nreg]; lia⟩
  have key := h [.ref (.n (1 + b1)) false s1] (.adt (1 + b2) s2 rows.length l ps) (.adt (.n bg) g) _ μ₉ (fun a ha => by rw [List.mem_singleton.mp ha]; exact rx) (by simp) rg
    (.adt (s1 := .ref (.n (1 + b1)) false s1) (.cp (t0 := .ref (.n (1 + b1)) false s1) (by rw [List.append_assoc, List.getElem?_append_right (Nat.le_refl _), Nat.sub_self]; rfl) (by lia) .nil) ⟨by simp only [Ty.dep]; lia, by simp only [Ty.nreg]; lia⟩ (by rw [List.append_assoc]; exact cpo _) sm ⟨by simp only [Ty.dep]; lia, by simp only [Ty.nreg]; lia⟩ (last _ _) (.ref h12) hs2' (.adt hg))
    (by simp only [List.length_append]; lia) ((dr.trans (dr4.trans dr5)).mv hs hr hne |>.trans mv9)
  rw [List.map_append, List.map_append] at key
  exact key
end
end
section
local macro_rules
  | `(tactic| ktr_unf) => `(tactic| (((with_reducible (show wpE _ _ _ _ _ _ _)); first | refine r_List ?_ | refine E_U8 rfl ?_ | refine E_ListComp2 ⟨rfl, rfl, rfl, rfl, fun _ => rfl⟩ ?_) <;> ktr_unf))
section
variable {W : Wd}
/-- six given, a default text and a default thing -/
theorem binds6dd {fd : FuncData} {a b c d e f i j : Str} {x y z z4 z5 z6 : V} {q : Str} {t : Tok} {p : Addr} (h : ∀ s, (Mine.hd.heap_39 W.w.params).In s.heap → ∀ v u w w4 w5 w6, BindsTo s fd ⟨[v, u, w, w4, w5, w6], []⟩ [(a, v), (b, u), (c, w), (d, w4), (e, w5), (f, w6), (i, .str q t), (j, .ref p)]) : Binds W fd [x, y, z, z4, z5, z6] [(a, x), (b, y), (c, z), (d, z4), (e, z5), (f, z6), (i, .str q), (j, .raw (.ref p))] := fun g vs hv s X => by
  apply hv.cons_elim; intro _ _ r1 hv
  apply hv.cons_elim; intro _ _ r2 hv
  apply hv.cons_elim; intro _ _ r3 hv
  apply hv.cons_elim; intro _ _ r4 hv
  apply hv.cons_elim; intro _ _ r5 hv
  apply hv.cons_elim; intro _ _ r6 hv
  apply hv.nil_elim
  exact ⟨_, h s X _ _ _ _ _ _, .cons r1 (.cons r2 (.cons r3 (.cons r4 (.cons r5 (.cons r6 (.cons (.str q t) (.cons (.raw _) .nil)))))))⟩
end
section
variable {W : Wd} {n : Nat} {μ : Mem} {K : V → Mem → Prop}
/-- a world whose adts may still grow -/
noncomputable def worldW (a : Addr) : V := .inst 420 [("modules", .none), ("adts", .raw (.ref a)), ("variants", .dct []), ("sigs", .dct []), ("traits", .dct []), ("impls", .lst []), ("consts", .dct []), ("bodies", .dct [])]
theorem World_new (h : ∀ a, a ∉ addrs μ → (a == sysModules) = false → K (worldW a) ((a, .dct []) :: μ)) : wpF W (n + 2) (.raw (.ref 420)) [.none] μ K := by
  refine F_class (fI := 410) (by k_is) (by k_is) (by k_is) fun x dx hdx => ?_
  refine' C_def ["self", "modules"] (ρ₀ := [("self", .obj x 420 dx), ("modules", .none)]) ?ho ?hcode ?h1 ?h2 ?h3 rfl ?hnd ?hok ?hb ?_
  ktr_rel
  intro L
  show wpS _ _ ⟨envOfC _ ⟨_, _, _, _, _⟩ _ _ _, cellNames ⟨_, _, _, _, _⟩, _⟩ _ _ (_ :: _) _
  ktr_unf
  refine ⟨x, 420, dx, _, rfl, os_World_modules, mlookup_head, rfl, by simp, ?_⟩
  rw [mset_head hdx]
  ktr_unf
  refine E_DictM fun p hp hps => ?_
  have hpd : p ≠ dx := fun e => hp (by rw [e]; exact List.mem_cons_self)
  have hpm : p ∉ addrs μ := fun q => hp (List.mem_cons_of_mem _ q)
  ktr_unf
  refine ⟨x, 420, dx, _, rfl, os_World_adts, (mlookup_tail hpd.symm).trans mlookup_head, rfl, by simp, ?_⟩
  rw [mset_ne hpd, mset_head hdx]
  ktr_unf
  refine E_Dict0 ?_
  ktr_unf
  refine ⟨x, 420, dx, _, rfl, os_World_variants, (mlookup_tail hpd.symm).trans mlookup_head, rfl, by simp, ?_⟩
  rw [mset_ne hpd, mset_head hdx]
  ktr_unf
  refine E_Dict0 ?_
  ktr_unf
  refine ⟨x, 420, dx, _, rfl, os_World_sigs, (mlookup_tail hpd.symm).trans mlookup_head, rfl, by simp, ?_⟩
  rw [mset_ne hpd, mset_head hdx]
  ktr_unf
  refine E_Dict0 ?_
  ktr_unf
  refine ⟨x, 420, dx, _, rfl, os_World_traits, (mlookup_tail hpd.symm).trans mlookup_head, rfl, by simp, ?_⟩
  rw [mset_ne hpd, mset_head hdx]
  ktr_unf
  refine ⟨x, 420, dx, _, rfl, os_World_impls, (mlookup_tail hpd.symm).trans mlookup_head, rfl, by simp, ?_⟩
  rw [mset_ne hpd, mset_head hdx]
  ktr_unf
  refine E_Dict0 ?_
  ktr_unf
  refine ⟨x, 420, dx, _, rfl, os_World_consts, (mlookup_tail hpd.symm).trans mlookup_head, rfl, by simp, ?_⟩
  rw [mset_ne hpd, mset_head hdx]
  ktr_unf
  refine E_Dict0 ?_
  ktr_unf
  refine ⟨x, 420, dx, _, rfl, os_World_bodies, (mlookup_tail hpd.symm).trans mlookup_head, rfl, by simp, ?_⟩
  rw [mset_ne hpd, mset_head hdx]
  ktr_unf
  refine ⟨rfl, _, (mlookup_tail hpd.symm).trans mlookup_head, ?_⟩
  rw [mdel_ne hpd, mdel_head hdx]
  exact h p hpm hps
noncomputable def fieldsV : V := .lst [.tup [.str "0", tyV (.ref (.s "'a") false (.par "T"))], .tup [.str "1", tyV (.par "T")]]
theorem Adt_new (h : K adtP μ) : wpF W (n + 2) (.raw (.ref 391)) [.str "P", .tup [.str "'a"], .tup [.str "T"], .lst [.tup [.str "P", .str "tuple", fieldsV]], .bool false] μ K := by
  refine F_class (fI := 388) (by k_is) (by k_is) (by k_is) fun x dx hdx => ?_
  refine' C_def ["self", "path", "regions", "params", "variants", "is_enum", "module", "publics"] (ρ₀ := [("self", .obj x 391 dx), ("path", .str "P"), ("regions", .tup [.str "'a"]), ("params", .tup [.str "T"]), ("variants", .lst [.tup [.str "P", .str "tuple", fieldsV]]), ("is_enum", .bool false), ("module", .str ""), ("publics", .raw (.ref 380))]) ?ho ?hcode ?h1 ?h2 ?h3 rfl ?hnd ?hok ?hb ?_
  case ho => k_is
  case hcode => k_is
  case h1 => exact rfl
  case h2 => exact rfl
  case h3 => exact rfl
  case hnd => decide
  case hok => decide
  case hb => exact binds6dd fun _ X _ _ _ _ _ _ => binds_K X rfl (by k_is) rfl rfl rfl
  intro L
  show wpS _ _ ⟨envOfC _ ⟨_, _, _, _, _⟩ _ _ _, cellNames ⟨_, _, _, _, _⟩, _⟩ _ _ (_ :: _) _
  ktr_unf
  refine ⟨x, 391, dx, _, rfl, os_Adt_path, mlookup_head, rfl, by simp, ?_⟩
  rw [mset_head hdx]
  ktr_unf
  refine ⟨x, 391, dx, _, rfl, os_Adt_module, mlookup_head, rfl, by simp, ?_⟩
  rw [mset_head hdx]
  ktr_unf
  refine ⟨x, 391, dx, _, rfl, os_Adt_regions, mlookup_head, rfl, by simp, ?_⟩
  rw [mset_head hdx]
  ktr_unf
  refine ⟨x, 391, dx, _, rfl, os_Adt_params, mlookup_head, rfl, by simp, ?_⟩
  rw [mset_head hdx]
  ktr_unf
  refine ⟨x, 391, dx, _, rfl, os_Adt_variants, mlookup_head, rfl, by simp, ?_⟩
  rw [mset_head hdx]
  ktr_unf
  refine ⟨x, 391, dx, _, rfl, os_Adt_publics, mlookup_head, rfl, by simp, ?_⟩
  rw [mset_head hdx]
  ktr_unf
  refine ⟨x, 391, dx, _, rfl, os_Adt_is_enum, mlookup_head, rfl, by simp, ?_⟩
  rw [mset_head hdx]
  ktr_unf
  refine ⟨rfl, _, mlookup_head, ?_⟩
  rw [mdel_head hdx]
  exact h
theorem Body_new {rows : List Ty} {sts : List Sx} (hz : rows.length ≤ 1000) (h : K (bodyV rows (blkV sts)) μ) : wpF W (n + 2) (.raw (.ref 146)) [.str "b", .int 0, .lst (rows.map rowV), blkV sts, .dct []] μ K := by
  refine F_class (fI := 100) (by k_is) (by k_is) (by k_is) fun x dx hdx => ?_
  refine' C_def ["self", "name", "arg_count", "locals_told", "blocks", "spots"] (ρ₀ := [("self", .obj x 146 dx), ("name", .str "b"), ("arg_count", .int 0), ("locals_told", .lst (rows.map rowV)), ("blocks", blkV sts), ("spots", .dct [])]) ?ho ?hcode ?h1 ?h2 ?h3 rfl ?hnd ?hok ?hb ?_
  ktr_rel
  intro L
  show wpS _ _ ⟨envOfC _ ⟨_, _, _, _, _⟩ _ _ _, cellNames ⟨_, _, _, _, _⟩, _⟩ _ _ (_ :: _) _
  ktr_unf
  refine ⟨x, 146, dx, _, rfl, os_Body_name, mlookup_head, rfl, by simp, ?_⟩
  rw [mset_head hdx]
  ktr_unf
  refine ⟨x, 146, dx, _, rfl, os_Body_arg_count, mlookup_head, rfl, by simp, ?_⟩
  rw [mset_head hdx]
  ktr_unf
  refine F_list_lst (by rw [List.length_map, sizeLine_eq]; lia) ?_
  ktr_unf
  refine ⟨x, 146, dx, _, rfl, os_Body_locals, mlookup_head, rfl, by simp, ?_⟩
  rw [mset_head hdx]
  ktr_unf
  refine cmp_is_none (.lst _) ?_
  ktr_unf
  refine ⟨x, 146, dx, _, rfl, os_Body_blocks, mlookup_head, rfl, by simp, ?_⟩
  rw [mset_head hdx]
  ktr_unf
  refine cmp_is_none (.dct _) ?_
  ktr_unf
  refine ⟨x, 146, dx, _, rfl, os_Body_spots, mlookup_head, rfl, by simp, ?_⟩
  rw [mset_head hdx]
  ktr_unf
  refine ⟨rfl, _, mlookup_head, ?_⟩
  rw [mdel_head hdx]
  exact h
end
end
section
local macro_rules
  | `(tactic| ktr_unf) => `(tactic| (((with_reducible (show wpE _ _ _ _ _ _ _)); first | refine r_List ?_ | refine E_U8 rfl ?_ | refine E_ListComp2 ⟨rfl, rfl, rfl, rfl, fun _ => rfl⟩ ?_) <;> ktr_unf))
local macro_rules
  | `(tactic| ktr_unf) => `(tactic| (((with_reducible (show wpE _ _ _ _ _ (Expr.Call (Expr.Name "sorted" _) _ _ _) _)); refine E_SortedDict ?_) <;> ktr_unf))
local macro_rules
  | `(tactic| ktr_unf) => `(tactic| (((with_reducible (show itF _ _ (V.raw (Value.type "range")) [_] _ _ _)); refine it_rangeI (by first | decide | (simp; done) | lia) (by first | decide | (simp; lia) | lia) ?_) <;> ktr_unf))
/-- the pairs of one point -/
noncomputable def sel (k : Nat) (fs : List Fd) : List Pr := (fs.filter fun f => f.2.2 == k).map fun f => (f.1, f.2.1)
theorem mem_sel {k : Nat} {fs : List Fd} {z : Pr} : z ∈ sel k fs ↔ (z.1, z.2, k) ∈ fs := by
  unfold sel
  rw [List.mem_map]
  constructor
  · rintro ⟨f, hf, rfl⟩
    obtain ⟨h1, h2⟩ := List.mem_filter.mp hf
    obtain ⟨a, b, c⟩ := f
    have : c = k := by simpa using h2
    subst this
    exact h1
  · intro h
    exact ⟨(z.1, z.2, k), List.mem_filter.mpr ⟨h, by simp⟩, rfl⟩
theorem sel_app (k : Nat) (a b : List Fd) : sel k (a ++ b) = sel k a ++ sel k b := by unfold sel; rw [List.filter_append, List.map_append]
theorem sel_len (k : Nat) (fs : List Fd) : (sel k fs).length ≤ fs.length := by unfold sel; rw [List.length_map]; exact List.length_filter_le _ _
/-- the pairs that say something -/
noncomputable def ndp (ds : List Pr) : List Pr := ds.filter fun p => !decide (p.1 = p.2)
theorem mem_ndp {ds : List Pr} {z : Pr} : z ∈ ndp ds ↔ z ∈ ds ∧ z.1 ≠ z.2 := by
  unfold ndp
  rw [List.mem_filter]
  simp
theorem ndp_len (ds : List Pr) : (ndp ds).length ≤ ds.length := List.length_filter_le _ _
theorem mlookup_str {x n : Str} {z : V} {r : Loc} (q : x ≠ n) : List.lookup x ((n, z) :: r) = List.lookup x r := by rw [List.lookup_cons, beq_eq_false_iff_ne.mpr q]
theorem subLoc_some {ρ : Loc} {x : Str} {y : V} (e : ρ.lookup x = some y) : ∀ {names : List Str}, x ∈ names → (subLoc ρ names).lookup x = some y
  | [], h => nomatch h
  | n :: ns, h => by
    unfold subLoc
    by_cases q : x = n
    · subst q
      rw [List.filterMap_cons, e]
      exact List.lookup_cons_self
    · have k := subLoc_some e (names := ns) ((List.mem_cons.mp h).resolve_left q)
      rw [List.filterMap_cons]
      cases ρ.lookup n with
      | none => exact k
      | some z => exact (mlookup_str q).trans k
section
variable {W : Wd} {n : Nat} {μ μr : Mem} {K : V → Mem → Prop}
theorem seqF_or {rv : V} {ys : List V} {K : List V → Mem → Prop} (hseq : rv = .lst ys ∧ μr = μ ∨ ∃ ra, rv = .raw (.ref ra) ∧ μ.lookup ra = some (.lst ys) ∧ μr = mdel μ ra) (h : K ys μr) : SeqF K rv μ := by
  rcases hseq with ⟨rfl, rfl⟩ | ⟨ra, rfl, hm, rfl⟩
  · exact .lst h
  · exact .frz hm h
theorem right_spec {v0 v1 : Wy} {rows : List Ty} {sts : List Sx} {dss : List (List Pr)} {rv : V} (hr : ∀ t ∈ rows, RowOk t) (hP : Prog v0 v1 rows sts dss) (hn : 90 ≤ n) (hz1 : rows.length ≤ 100) (hz2 : sts.length ≤ 60) (hds : ∀ ds ∈ dss, ds.length ≤ 60)
    (hseq : rv = .lst (rows.map tyV) ∧ μr = μ ∨ ∃ ra, rv = .raw (.ref ra) ∧ μ.lookup ra = some (.lst (rows.map tyV)) ∧ μr = mdel μ ra)
    (hT : μr.lookup 68 = some (.tab "regions_in.<locals>.noted" 45 4)) (hT2 : μr.lookup 82 = some (.tab "fields_of.<locals>.put_in" 61 4))
    (h : K (.bool true) μr) : wpF W n (.raw (.ref 496)) [rv, .lst (sts.map stV), .lst (dss.map fun ds => .lst (ds.map prV)), .lst [wyV v0, wyV v1]] μ K := by
  obtain ⟨k', rfl⟩ : ∃ k', n = k' + 90 := ⟨n - 90, by lia⟩
  refine' F_def ["rows", "statements", "dues", "varied"] (ρ₀ := [("rows", rv), ("statements", .lst (sts.map stV)), ("dues", .lst (dss.map fun ds => .lst (ds.map prV))), ("varied", .lst [wyV v0, wyV v1])]) ?ho ?hcode ?h1 ?h2 ?h3 rfl ?hnd ?hok ?hb ?_
  ktr_rel
  intro L
  show wpS _ _ ⟨envOfC _ ⟨_, _, _, _, _⟩ _ _ _, cellNames ⟨_, _, _, _, _⟩, _⟩ _ _ (_ :: _) _
  ktr_unf
  refine World_new fun a ha has => ?_
  ktr_unf
  refine X_AssignSubM ?_
  ktr_unf
  refine Adt_new ?_
  ktr_unf
  refine ⟨a, [], "P", rfl, rfl, mlookup_head, rfl, by simp, ?_⟩
  rw [mset_head ha]
  refine seqK_next ?_
  refine S_frz (z := "world") (y' := worldV) rfl (Frz.fld (pre := [("modules", .none)]) (.dct mlookup_head has)) ?_
  rw [mdel_head ha]
  ktr_unf
  refine seqF_or hseq ?_
  refine ⟨by rw [List.length_map, sizeLine_eq]; lia, fun C => ?_⟩
  refine compL_inv0 (fun xs acc ρ μ' => Bx (∃ r1 r2, rows = r1 ++ r2 ∧ xs = r2.map tyV ∧ acc = r1.map rowV ∧ μ' = μr)) ?_ ?_ _ _ _ _ ⟨⟨[], rows, rfl, rfl, rfl, rfl⟩⟩
  rotate_left
  · rintro I hI y ys acc ρ μ' ⟨⟨r1, r2, rfl, e, rfl, rfl⟩⟩
    cases r2 with
    | nil => cases e
    | cons t r2 =>
      cases e
      ktr_unf
      exact hI _ _ _ _ ⟨⟨r1 ++ [t], r2, by simp, rfl, by simp [rowV], rfl⟩⟩
  rintro acc ρ μ' ⟨⟨r1, r2, e0, e, rfl, rfl⟩⟩
  cases r2 with
  | cons _ _ => cases e
  | nil =>
  rw [List.append_nil] at e0
  subst e0
  ktr_unf
  refine E_Dict0 ?_
  ktr_unf
  refine Body_new (by lia) ?_
  ktr_unf
  refine E_Dict1 ?_
  ktr_unf
  refine constraints_of_spec hr hP (by lia) hz1 hz2 hT hT2 fun fs hfs hfl => ?_
  ktr_unf
  have hlen := hP.length
  refine forL_inv (fun xs ρ μ₂ => Bx (∃ k m : Nat, xs = (List.range' k m).map (fun i : Nat => V.int i) ∧ k + m = sts.length ∧ μ₂ = μ' ∧ Lk ρ "found" (.lst (fs.map trV)) ∧ Lk ρ "dues" (.lst (dss.map fun ds => .lst (ds.map prV))) ∧ Lk ρ "statements" (.lst (sts.map stV)))) ?_ ?_ _ _ _ ⟨⟨0, sts.length, by simp [List.range_eq_range'], by simp, rfl, rfl, rfl, rfl⟩⟩
  · rintro ρ μ₂ ⟨⟨k, m, e, hkm, rfl, l1, l2, l3⟩⟩
    ktr_unf
    refine ⟨by rw [List.length_map, sizeLine_eq]; lia, fun C => ?_⟩
    refine compL_inv1 (fun xs acc ρ μ' => Bx (∃ f2, (∀ f ∈ f2, f ∈ fs) ∧ xs = f2.map trV ∧ acc = [] ∧ μ' = μ₂ ∧ Lk ρ "statements" (.lst (sts.map stV)))) ?_ ?_ _ _ _ _ ⟨⟨fs, fun _ h => h, rfl, rfl, rfl, subLoc_some l3 (List.mem_of_elem_eq_true rfl)⟩⟩
    · rintro acc ρ μ' ⟨⟨f2, hf2, e, rfl, rfl, l4⟩⟩
      ktr_unf
      refine cmp_eq_nil ?_
      ktr_unf
      exact h
    · rintro I hI y ys acc ρ μ' ⟨⟨f2, hf2, e, rfl, rfl, l4⟩⟩
      cases f2 with
      | nil => cases e
      | cons f f2 =>
        cases e
        have hfk : f.2.2 < sts.length := by
          obtain ⟨a, b, i⟩ := f
          obtain ⟨d, e, _⟩ := (hfs a b i).mp (hf2 _ List.mem_cons_self)
          have := (List.getElem?_eq_some_iff.mp e).1
          show i < sts.length
          lia
        ktr_unf
        refine ite_n (by simp; lia) ?_
        ktr_unf
        exact hI _ _ _ _ ⟨⟨f2, fun f h => hf2 f (List.mem_cons_of_mem _ h), rfl, rfl, rfl, l4⟩⟩
  · rintro I hI y ys ρ μ₂ ⟨⟨k, m, e, hkm, rfl, l1, l2, l3⟩⟩
    cases m with
    | zero => cases e
    | succ m =>
    rw [List.range'_succ, List.map_cons] at e
    cases e
    obtain ⟨ds, hdk⟩ : ∃ ds, dss[k]? = some ds := ⟨dss[k]'(by lia), List.getElem?_eq_getElem (by lia)⟩
    have hd60 := hds ds (List.mem_of_getElem? hdk)
    ktr_unf
    refine ⟨by rw [List.length_map, sizeLine_eq]; lia, fun C => ?_⟩
    refine compL_inv1 (fun xs acc ρ μ' => Bx (∃ f1 f2, fs = f1 ++ f2 ∧ xs = f2.map trV ∧ acc = (sel k f1).map itW ∧ μ' = μ₂ ∧ Lk ρ "index" (.int k))) ?_ ?_ _ _ _ _ ⟨⟨[], fs, rfl, rfl, rfl, rfl, rfl⟩⟩
    rotate_left
    · rintro I hI y ys acc ρ μ' ⟨⟨f1, f2, e0, e, rfl, rfl, l4⟩⟩
      cases f2 with
      | nil => cases e
      | cons f f2 =>
        cases e
        ktr_unf
        refine cmp_eq_pt ?_
        refine ite_b (fun c => ?_) (fun c => ?_)
        · ktr_unf
          have c' : f.2.2 = k := by simp at c; lia
          refine hI _ _ _ _ ⟨⟨f1 ++ [f], f2, by rw [e0]; simp, rfl, ?_, rfl, l4⟩⟩
          rw [sel_app, List.map_append]
          congr 1
          unfold sel
          rw [List.filter_cons_of_pos (by simp [c'])]
          rfl
        · have c' : ¬ f.2.2 = k := fun q => by simp at c; lia
          refine hI _ _ _ _ ⟨⟨f1 ++ [f], f2, by rw [e0]; simp, rfl, ?_, rfl, l4⟩⟩
          rw [sel_app]
          congr 1
          unfold sel
          rw [List.filter_cons_of_neg (by simp [c'])]
          simp
    rintro acc ρ₁ μ' ⟨⟨f1, f2, e0, e, rfl, rfl, l4⟩⟩
    cases f2 with
    | cons _ _ => cases e
    | nil =>
    rw [List.append_nil] at e0
    subst e0
    refine ⟨sel k fs, ds, rfl, by have := sel_len k fs; lia, by lia, fun z hz => ?_, fun zs hzs => ?_⟩
    · obtain ⟨d, e1, e2, _⟩ := (hfs z.1 z.2 k).mp (mem_sel.mp hz)
      rw [hdk] at e1; cases e1
      exact e2
    ktr_unf
    refine sub_lst (y := .lst (ds.map prV)) (by simp) (Int.lt_trans (by lia) (show (1000 : Int) < 2 ^ 63 by decide)) (by simp [hdk]) ?_
    ktr_unf
    refine ⟨by rw [List.length_map, sizeLine_eq]; lia, fun C => ?_⟩
    refine compL_inv1 (fun xs acc ρ μ'' => Bx (∃ d1 d2, ds = d1 ++ d2 ∧ xs = d2.map prV ∧ acc = (ndp d1).map itW ∧ μ'' = μ')) ?_ ?_ _ _ _ _ ⟨⟨[], ds, rfl, rfl, rfl, rfl⟩⟩
    rotate_left
    · rintro I hI y ys acc ρ μ'' ⟨⟨d1, d2, e0, e, rfl, rfl⟩⟩
      cases d2 with
      | nil => cases e
      | cons p d2 =>
        cases e
        ktr_unf
        refine ite_b (fun c => ?_) (fun c => ?_)
        · ktr_unf
          have c' : ¬ p.1 = p.2 := by simpa using c
          refine hI _ _ _ _ ⟨⟨d1 ++ [p], d2, by rw [e0]; simp, rfl, ?_, rfl⟩⟩
          unfold ndp
          rw [List.filter_append, List.map_append]
          congr 1
          rw [List.filter_cons_of_pos (by simp [c'])]
          rfl
        · have c' : p.1 = p.2 := by simpa using c
          refine hI _ _ _ _ ⟨⟨d1 ++ [p], d2, by rw [e0]; simp, rfl, ?_, rfl⟩⟩
          unfold ndp
          rw [List.filter_append]
          congr 1
          rw [List.filter_cons_of_neg (by simp [c'])]
          simp
    rintro acc ρ₁ μ'' ⟨⟨d1, d2, e0, e, rfl, rfl⟩⟩
    cases d2 with
    | cons _ _ => cases e
    | nil =>
    rw [List.append_nil] at e0
    subst e0
    refine ⟨ndp ds, ds, rfl, by have := ndp_len ds; lia, by lia, fun z hz => (mem_ndp.mp hz).1, fun ys hys => ?_⟩
    ktr_unf
    have hzy : zs = ys := hzs.uniq hys fun z => by
      rw [mem_sel, mem_ndp, hfs z.1 z.2 k]
      constructor
      · rintro ⟨d, e1, e2, e3⟩
        rw [hdk] at e1; cases e1
        exact ⟨e2, e3⟩
      · rintro ⟨e2, e3⟩
        exact ⟨ds, hdk, e2, e3⟩
    subst hzy
    refine cmp_ne_sorted ?_
    ktr_unf
    exact hI _ _ _ ⟨⟨k + 1, m, rfl, by lia, rfl, l1, l2, l3⟩⟩
end
end
section
local macro_rules
  | `(tactic| ktr_unf) => `(tactic| (((with_reducible (show wpE _ _ _ _ _ _ _)); first | refine r_List ?_ | refine E_U8 rfl ?_ | refine E_ListComp2 ⟨rfl, rfl, rfl, rfl, fun _ => rfl⟩ ?_) <;> ktr_unf))
local macro_rules
  | `(tactic| ktr_unf) => `(tactic| (((with_reducible (show itF _ _ (V.raw (Value.type "range")) [_] _ _ _)); refine it_rangeI (by first | decide | (simp; done) | lia) (by first | decide | lia) ?_) <;> ktr_unf))
theorem StOk.grow {v0 v1 : Wy} {rows more : List Ty} {s : Sx} {ds : List Pr} (h : StOk v0 v1 rows s ds) : StOk v0 v1 (rows ++ more) s ds := by
  cases h with
  | nop => exact .nop
  | live => exact .live
  | asg a b => exact .asg a b.grow
theorem Prog.grow {v0 v1 : Wy} {rows more : List Ty} : ∀ {ss : List Sx} {dss : List (List Pr)}, Prog v0 v1 rows ss dss → Prog v0 v1 (rows ++ more) ss dss
  | _, _, .nil => .nil
  | _, _, .cons a b => .cons a.grow b.grow
theorem Prog.append {v0 v1 : Wy} {rows : List Ty} : ∀ {ss : List Sx} {dss : List (List Pr)}, Prog v0 v1 rows ss dss → ∀ {ss' : List Sx} {dss' : List (List Pr)}, Prog v0 v1 rows ss' dss' → Prog v0 v1 rows (ss ++ ss') (dss ++ dss')
  | _, _, .nil, _, _, k => k
  | _, _, .cons a b, _, _, k => .cons a (b.append k)
section
variable {W : Wd} {n : Nat} {μ : Mem} {K : V → Mem → Prop} {src : Addr}
theorem one_wy (hs : SrcAt μ src) (h : ∀ w μ', Drew src μ μ' → K (wyV w) μ') : wpF W (n + 2) (.raw (.ref 445)) [.raw (.ref src), .lst [.str "co", .str "in", .str "bi"]] μ K := by
  refine one_spec hs fun y hy p q q0 q1 => ?_
  have d : Drew src μ (mset μ src (srcM p q)) := ⟨p, q, rfl, q0, q1⟩
  rcases List.mem_cons.mp hy with rfl | hy
  · exact h .co _ d
  rcases List.mem_cons.mp hy with rfl | hy
  · exact h .inn _ d
  rw [List.mem_singleton.mp hy]
  exact h .bi _ d
end
noncomputable def rows0 : List Ty := [.int "u8", .ref (.n 1) true (.ref (.n 2) true (.int "u8")), .ref (.n 3) true (.int "u8")]
noncomputable def sts0 : List Sx := [.nop, .asg 2 (.lent 4 true 1 [.der, .der])]
noncomputable def dss0 : List (List Pr) := [[], [(4, 3), (2, 4), (1, 4)]]
theorem prog0 : Prog .co .co rows0 sts0 dss0 := by
  have a : At (.ref (.n 1) true (.ref (.n 2) true (.int "u8"))) [.der, .der] (.int "u8") [(2, true), (1, true)] := .step (ps := [.der]) (.step (ps := []) .nil .ref) .ref
  have b : Asg .co .co rows0 2 (.lent 4 true 1 [.der, .der]) [(4, 3), (2, 4), (1, 4)] := .lent (t0 := .ref (.n 1) true (.ref (.n 2) true (.int "u8"))) (s := .int "u8") (g := .int "u8") (m := true) rfl (by decide) a (by decide) ⟨by decide, by decide⟩ rfl (.int "u8")
  exact .cons .nop (.cons (.asg (by decide) b) .nil)
theorem rowOk0 : ∀ t ∈ rows0, RowOk t := by
  intro t ht
  rcases List.mem_cons.mp ht with rfl | ht
  · exact ⟨trivial, by decide, by decide⟩
  rcases List.mem_cons.mp ht with rfl | ht
  · exact ⟨⟨trivial, trivial, trivial⟩, by decide, by decide⟩
  rw [List.mem_singleton.mp ht]
  exact ⟨⟨trivial, trivial⟩, by decide, by decide⟩
theorem Pl.num : ∀ {d : Nat} {t : Ty}, Pl d t → t.allR Rg.num
  | _, _, .int => trivial
  | _, _, .ref h => ⟨trivial, h.num⟩
  | _, _, .box h => h.num
  | _, _, .arr h => h.num
  | _, _, .pair h k => ⟨h.num, k.num⟩
theorem Pl.rowOk {t : Ty} (h : Pl 3 t) : RowOk t := ⟨h.num, by have := h.dep; lia, by have := h.nreg; simp only [mxr] at this; lia⟩
theorem lawC {W : Wd} {ns : List Int} (hlen : ns.length < 1000) {μ : Mem} {K : V → Mem → Prop} (hT : μ.lookup 68 = some (.tab "regions_in.<locals>.noted" 45 4)) (hT2 : μ.lookup 82 = some (.tab "fields_of.<locals>.put_in" 61 4))
    (h : ∀ μ', μ'.lookup 68 = some (.tab "regions_in.<locals>.noted" 45 4) → μ'.lookup 82 = some (.tab "fields_of.<locals>.put_in" 61 4) → K (.bool true) μ') : wpC W 200 (.raw (.ref 501)) [.lst (ns.map .int)] μ K := by
  refine' C_def ["script"] (ρ₀ := [("script", .lst (ns.map .int))]) ?ho ?hcode ?h1 ?h2 ?h3 rfl ?hnd ?hok ?hb ?_
  ktr_rel
  intro L
  show wpS _ _ ⟨envOfC _ ⟨_, _, _, _, _⟩ _ _ _, cellNames ⟨_, _, _, _, _⟩, _⟩ _ _ (_ :: _) _
  ktr_unf
  refine right_spec (rows := rows0) (sts := sts0) (dss := dss0) (v0 := .co) (v1 := .co) rowOk0 prog0 (by decide) (by decide) (by decide) (by decide) (.inl ⟨rfl, rfl⟩) hT hT2 ?_
  ktr_unf
  refine pool_spec hlen fun p a b hp hb0 hb1 => ?_
  have hs0 : SrcAt ((p, srcM a b) :: μ) p := ⟨a, b, mlookup_head, hb0, hb1⟩
  have hp68 : (68 : Addr) ≠ p := fun e => hp (by rw [← e]; exact addr_of_mlookup hT)
  have hp82 : (82 : Addr) ≠ p := fun e => hp (by rw [← e]; exact addr_of_mlookup hT2)
  have hT' := (mlookup_tail (m := srcM a b) hp68).trans hT
  have hT2' := (mlookup_tail (m := srcM a b) hp82).trans hT2
  generalize (p, srcM a b) :: μ = μ0 at hs0 hT' hT2'
  clear hp
  ktr_unf
  refine one_wy hs0 fun v0 μ1 dr1 => ?_
  ktr_unf
  refine one_wy (dr1.src hs0) fun v1 μ2 dr2 => ?_
  ktr_unf
  have dr12 := dr1.trans dr2
  refine type_spec 3 _ _ _ _ rfl (by decide) (dr12.src hs0) fun t1 μ3 ht1 dr3 => ?_
  ktr_unf
  have dr13 := dr12.trans dr3
  refine type_spec 3 _ _ _ _ rfl (by decide) (dr13.src hs0) fun t2 μ4 ht2 dr4 => ?_
  ktr_unf
  have dr14 := dr13.trans dr4
  refine type_spec 3 _ _ _ _ rfl (by decide) (dr14.src hs0) fun t3 μ5 ht3 dr5 => ?_
  have dr := dr14.trans dr5
  refine compL_nil rfl ?_
  refine op_add_lstM (by simp [sizeLine_eq]) fun ra hra => ?_
  have hsp := dr.src hs0
  have hap : ra ≠ p := fun e => hra (by rw [e]; obtain ⟨x, y, e, _⟩ := hsp.at'; exact addr_of_mlookup e)
  have h68 : (68 : Addr) ≠ ra := fun e => hra (by rw [← e]; exact addr_of_mlookup ((dr.lookup hp68).trans hT'))
  have h82 : (82 : Addr) ≠ ra := fun e => hra (by rw [← e]; exact addr_of_mlookup ((dr.lookup hp82).trans hT2'))
  have mv0 : Mv p ra [.int "usize", t1, t2, t3] ((ra, .lst ([.int "usize", t1, t2, t3].map tyV)) :: μ5) ((ra, .lst ([.int "usize", t1, t2, t3].map tyV)) :: μ5) := by
    refine ⟨?_, mlookup_head, rfl, fun _ _ _ => rfl⟩
    obtain ⟨x, y, e, h⟩ := hsp.at'
    exact ⟨x, y, (mlookup_tail hap.symm).trans e, h⟩
  have g68 : List.lookup 68 ((ra, M.lst ([Ty.int "usize", t1, t2, t3].map tyV)) :: μ5) = some (.tab "regions_in.<locals>.noted" 45 4) := (mlookup_tail h68).trans ((dr.lookup hp68).trans hT')
  have g82 : List.lookup 82 ((ra, M.lst ([Ty.int "usize", t1, t2, t3].map tyV)) :: μ5) = some (.tab "fields_of.<locals>.put_in" 61 4) := (mlookup_tail h82).trans ((dr.lookup hp82).trans hT2')
  have e0 : ([V.tup [V.str "int", V.str "usize"]] ++ ([] ++ [tyV t1] ++ [tyV t2] ++ [tyV t3])) = [Ty.int "usize", t1, t2, t3].map tyV := rfl
  rw [e0]
  generalize ((ra, M.lst ([Ty.int "usize", t1, t2, t3].map tyV)) :: μ5 : Mem) = μ6 at mv0 g68 g82
  clear e0
  ktr_unf
  refine take_drew mv0.sa (by decide) (by decide) fun d μ7 d0 d1 dr7 => ?_
  have mv1 := mv0.trans (dr7.mv mv0.sa mv0.rw hap)
  ktr_unf
  refine forL_inv (fun xs ρ μ' => Bx (∃ (rows : List Ty) (sts : List Sx) (dss : List (List Pr)), (∀ t ∈ rows, RowOk t) ∧ (∀ l, 1 ≤ l → l ≤ 3 → ∃ t, rows[l]? = some t ∧ Pl 3 t) ∧ Prog v0 v1 rows sts dss ∧ rows.length + 2 * xs.length ≤ 12 ∧ sts.length + 2 * xs.length ≤ 8 ∧ (∀ ds ∈ dss, ds.length ≤ 60) ∧ Mv p ra rows μ6 μ' ∧
    Lk ρ "source" (.raw (.ref p)) ∧ Lk ρ "rows" (.raw (.ref ra)) ∧ Lk ρ "varied" (.lst [wyV v0, wyV v1]) ∧ Lk ρ "statements" (.lst (sts.map stV)) ∧ Lk ρ "dues" (.lst (dss.map fun ds => .lst (ds.map prV))))) ?_ ?_ _ _ _
    ⟨⟨[.int "usize", t1, t2, t3], [], [], ?_, ?_, .nil, by simp; lia, by simp; lia, fun _ h => (nomatch h), mv1, rfl, rfl, rfl, rfl, rfl⟩⟩
  rotate_left 2
  · intro t ht
    rcases List.mem_cons.mp ht with rfl | ht
    · exact ⟨trivial, by decide, by decide⟩
    rcases List.mem_cons.mp ht with rfl | ht
    · exact ht1.rowOk
    rcases List.mem_cons.mp ht with rfl | ht
    · exact ht2.rowOk
    rw [List.mem_singleton.mp ht]
    exact ht3.rowOk
  · intro l l1 l3
    obtain rfl | rfl | rfl : l = 1 ∨ l = 2 ∨ l = 3 := by lia
    · exact ⟨t1, rfl, ht1⟩
    · exact ⟨t2, rfl, ht2⟩
    · exact ⟨t3, rfl, ht3⟩
  · rintro ρ μ' ⟨⟨rows, sts, dss, hr, hpl, hP, hl1, hl2, hds, mv, l1, l2, l3, l4, l5⟩⟩
    have hl2' : sts.length ≤ 60 := by lia
    have hl1' : rows.length ≤ 100 := by lia
    ktr_unf
    refine right_spec (μr := mdel μ' ra) hr hP (by decide) hl1' hl2' hds (.inr ⟨ra, rfl, mv.rw, rfl⟩) ((mlookup_mdel_ne h68).trans ((mv.old _ hp68 h68).trans g68)) ((mlookup_mdel_ne h82).trans ((mv.old _ hp82 h82).trans g82)) ?_
    ktr_unf
    exact h _ ((mlookup_mdel_ne h68).trans ((mv.old _ hp68 h68).trans g68)) ((mlookup_mdel_ne h82).trans ((mv.old _ hp82 h82).trans g82))
  · rintro I hI y ys ρ μ' ⟨⟨rows, sts, dss, hr, hpl, hP, hl1, hl2, hds, mv, l1, l2, l3, l4, l5⟩⟩
    rw [List.length_cons] at hl1 hl2
    ktr_unf
    refine made_spec (v0 := v0) (v1 := v1) mv.sa mv.rw hap hpl (by lia) fun ex rv g ds μ8 hex hexl hg hasg hdl mv8 => ?_
    have hr8 := mv8.rw
    ktr_unf
    refine F_append hr8 (by rw [List.length_map, List.length_append, sizeLine_eq]; lia) ?_
    have em : (rows ++ ex).map tyV ++ [tyV g] = (rows ++ ex ++ [g]).map tyV := by rw [List.map_append (l₁ := rows ++ ex)]; rfl
    rw [em]
    have mv9 := (mv.trans mv8).trans (Mv.push (t := g) mv8.sa mv8.rw hap)
    clear hr8 mv8 em
    generalize mset μ8 ra (.lst ((rows ++ ex ++ [g]).map tyV)) = μ9 at mv9
    have hr9 := mv9.rw
    have hk : (((rows ++ ex ++ [g]).map tyV).length : Int) - 1 = ((rows.length + ex.length : Nat) : Int) := by simp only [List.length_map, List.length_append, List.length_singleton]; lia
    ktr_unf
    refine F_len_mlst hr9 (by simp; lia) ?_
    ktr_unf
    refine F_len_mlst hr9 (by simp; lia) ?_
    ktr_unf
    refine op_add_lst (by have := hP.length; simp [sizeLine_eq]; lia) ?_
    ktr_unf
    have hasg' : StOk v0 v1 (rows ++ ex ++ [g]) (.asg (rows.length + ex.length) rv) ds := .asg (by lia) hasg
    have hP' : Prog v0 v1 (rows ++ ex ++ [g]) (sts ++ [.live (((rows ++ ex ++ [g]).map tyV).length - 1), .asg (rows.length + ex.length) rv]) (dss ++ [[], ds]) := by
      refine Prog.append ?_ (.cons .live (.cons hasg' .nil))
      rw [List.append_assoc]
      exact hP.grow
    refine hI _ _ _ ⟨⟨rows ++ ex ++ [g], _, _, ?_, ?_, hP', by simp; lia, by simp; lia, ?_, mv9, l1, l2, l3, ?_, ?_⟩⟩
    · intro t ht
      rcases List.mem_append.mp ht with ht | ht
      · rcases List.mem_append.mp ht with ht | ht
        · exact hr t ht
        · exact hex t ht
      · rw [List.mem_singleton.mp ht]; exact hg
    · intro l q1 q3
      obtain ⟨t, e, q⟩ := hpl l q1 q3
      exact ⟨t, by rw [List.append_assoc, List.getElem?_append_left (List.getElem?_eq_some_iff.mp e).1]; exact e, q⟩
    · intro d hd
      rcases List.mem_append.mp hd with hd | hd
      · exact hds d hd
      rcases List.mem_cons.mp hd with rfl | hd
      · exact Nat.zero_le _
      rw [List.mem_singleton.mp hd]; exact hdl
    · rw [hk, List.map_append]
      rfl
    · have e : ((dss ++ [[], ds]).map fun ds => V.lst (ds.map prV)) = (dss.map fun ds => V.lst (ds.map prV)) ++ [V.lst [], V.lst (ds.map prV)] := by rw [List.map_append]; rfl
      rw [e]
      rfl
end
end Mine
namespace Mine
theorem join_law {ns : List Int} {vs : List Value} {l : Addr} {s₁ : Shared} {R : Result → Shared → Prop} (W : Wd) (hT8 : ∀ (P : Addr), P ∈ [82, 68] → s₁.heap.get? P = some (tabObj #[])) (hB : W.B = ghostOf s₁.heap [(84, 82), (72, 68)]) (hlen : ns.length < 1000)
    (w1 : Well W.w.params s₁.heap (.ref l) (ofPy (PyData.list (List.map PyData.int ns)))) (hI : IntsAre vs ns) (hL : s₁.heap.IsList l vs.toArray) (hg : s₁.gens = #[])
    (h : ∀ s' : Shared, (∀ b o, (ghostOf s₁.heap [(84, 82), (72, 68)]).get? b = some o → s'.heap.get? b = some o) → s'.os = s₁.os → s'.gens = #[] → GrownAll [(84, 82), (72, 68)] s'.heap → R (.ok (.ret (.bool true))) s') :
    codeAny W.M callerA (.call (.ref 501) ⟨[.ref l], []⟩) R s₁ := by
  have hk : ∀ b o, hG W.B b = some o → s₁.heap.get? b = some o := fun b o e => by
    have e' : W.B.get? b = some o := e
    rw [hB] at e'
    exact of_hideAll _ e'
  have gs : GSt W (hG W.B) [(68, .tab "regions_in.<locals>.noted" 45 4), (82, .tab "fields_of.<locals>.put_in" 61 4)] s₁.heap := by
    refine ⟨GLe.refl, hk, fun q hq => ?_, fun a ha => ?_, by decide⟩
    · rcases List.mem_cons.mp hq with rfl | hq
      · exact ⟨_, hT8 68 (by decide), .tab (ps := []) (.inl rfl)⟩
      · rw [List.mem_singleton.mp hq]
        exact ⟨_, hT8 82 (by decide), .tab (ps := []) (.inl rfl)⟩
    · show W.B.get? a = none
      rw [hB]
      refine hideAll_none _ ?_
      rcases List.mem_cons.mp ha with rfl | ha
      · decide
      · rw [List.mem_singleton.mp ha]; decide
  have rp : Rep W.P (hG W.B) (.ref l) (.lst (ns.map .int)) := by
    obtain ⟨o, e1, e2, n, e3⟩ := hL
    have e4 : o.dict = none := by
      cases w1 with
      | list k1 _ => rw [e1] at k1; cases k1; rfl
    have e5 : hG W.B l = some o := by
      show W.B.get? l = some o
      rw [hB]
      refine ghost_ne e1 fun q => ?_
      have q' : l = 82 ∨ l = 68 := by simpa using q
      have k := hT8 l (by simpa using q')
      rw [e1] at k; cases k; cases e2
    refine .lst e5 e2 e3 e4 ?_
    clear e1 e2 e3 e4 e5 w1 h hlen
    induction hI with
    | nil => exact .nil
    | cons n t _ ih => exact .cons (.int n t) ih
  refine codeAny_mono ((lawC (W := W) (ns := ns) hlen (K := fun y μ' => y = .bool true ∧ μ'.lookup 68 = some (.tab "regions_in.<locals>.noted" 45 4) ∧ μ'.lookup 82 = some (.tab "fields_of.<locals>.put_in" 61 4)) rfl rfl fun μ' a b => ⟨rfl, a, b⟩).go (.ref 501) [.ref l] callerA (hG W.B) s₁ ⟨rfl, by decide, by decide⟩ gs ⟨.raw _, .cons rp .nil⟩
    (fun v s' => R (.ok (.ret v)) s') fun v g' μ' h' tk' hR hg' nx' => ?_) fun r s' hr => ?_
  · obtain ⟨y, r, rfl, k1, k2⟩ := hR
    cases r
    obtain ⟨o1, g1, m1⟩ := hg'.get k1
    obtain ⟨o2, g2, m2⟩ := hg'.get k2
    refine h _ (fun b o e => hg'.le b o (hg'.base b o (by show W.B.get? b = some o; rw [hB]; exact e))) rfl hg ⟨?_, ?_, trivial⟩
    · cases m2 with | tab _ => exact ⟨_, g2⟩
    · cases m1 with | tab _ => exact ⟨_, g1⟩
  · rcases r with e | (v | _ | _ | _) <;> first | exact hr | exact hr.elim
end Mine
set_option pp.maxSteps 1500 in
theorem PySem.Challenge.cw_ot0032_01_holds : PySem.Challenge.rw_ot0032_01.Holds :=
  Mine.hd (by
  k_fill
  intro w s₀ s₁ mg mb G Y fa o pm cd doc dV kV ho hd hcd hD hmg hg args vals as hpre hlay hrd hwl hlo
  have KX := km_in_of Y
  km_tabs Y
  refine Ground.open G ?_
  intro T B D TE TW
  clear D
  replace hmg : mg (Str.ofString "law") = some (Value.ref fa) := hmg
  km_lay T hmg ho hd cd
  wrow_args hpre hlay hrd hwl hlo
  refine enter_call ?_
  refine kn_post hT9 (fun _ _ => rfl) ?_
  clear hd ho hcd hD
  rename_i ns hs0 hlay0 hL1 hr1 hl2 as1 as2 l vs as3 hL ra w1 r0 hI hr hc63 hcT
  have e501 : some (Value.ref 501) = some (Value.ref fa) := (mg_of KX T.g (n := Str.ofString "law") (v := .ref 501) (by k_is)).symm.trans hmg
  cases e501
  have TT := ghost_top hT9 T
  refine Mine.join_law ⟨w, ghostOf s₁.heap [(84, 82), (72, 68)], topProg, _, mg, mb, ghost_K hT9 KX (by kernel_rfl), topRead_of TT, TT.bmain⟩ hT8 rfl (by omega) w1 hI hL hg ?_
  intro s' h1 h2 h3 h4
  exact ⟨⟨.inl ⟨_, .bool true, [], rfl, fun _ => rfl, .bool true, by first | rfl | kernel_rfl | (simp [RowW.claim, WCond.holds]; done), fun _ => ⟨List.nodup_nil, fun _ h => nomatch h⟩⟩, h1, h2, h3⟩, h4⟩)
