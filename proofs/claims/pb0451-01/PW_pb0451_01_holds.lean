import PyProof.Rows.All
import Wide.All
import OpenK.AllK
import Wide.FinOn
import Lean
import PySem.Challenge.RW_pb0451_01
set_option Elab.async false
set_option maxRecDepth 100000
set_option maxHeartbeats 8000000
set_option linter.unusedVariables false
set_option linter.unusedSimpArgs false
namespace Mine
open PySem PySem.W PySem.Calls PyProof.Rows

def topRunT (tb : String → Option Builtin) (p : Program) (w : World) (n₀ : Nat) (ann : Option Value) : Nat → SharedT → Thread → Option SharedT
  | 0, _, _ => none
  | n + 1, s, t => match through t with
    | true => some s
    | false => match stepOk n₀ ann t with
      | false => none
      | true => match stepT (denote tb) p w s t with
        | some (s', t') => topRunT tb p w n₀ ann n s' t'
        | none => none
theorem topRunT_of {tb : String → Option Builtin} {p : Program} {w : World} {n₀ : Nat} {ann : Option Value} : ∀ {n : Nat} {s s' : SharedT} {t : Thread},
    topRunT tb p w n₀ ann n s t = some s' → topRun tb p w n₀ ann n s.abs t = some s'.abs
  | 0, _, _, _, h => by cases h
  | n + 1, s, s', t, h => by
    unfold topRunT at h
    unfold topRun
    cases ht : through t with
    | true => rw [ht] at h; cases h; rfl
    | false =>
      rw [ht] at h
      cases hk : stepOk n₀ ann t with
      | false => rw [hk] at h; cases h
      | true =>
        rw [hk] at h
        cases hs : stepT (denote tb) p w s t with
        | none => rw [hs] at h; cases h
        | some r => obtain ⟨s₂, t₂⟩ := r; rw [hs] at h; rw [stepT_spec hs]; exact topRunT_of h

def allOk (p : Program) (h₀ : Heap) (s : Shared) : Bool := staticsOk (importedModules p.main.body) h₀ s.heap && namesBound p s.heap && gensDone s && laidKept h₀ s.heap

def whole {α : Type} (p q : Program) (loose : List Str) (Xt : Shared → Bool) (Yf : Shared → α) (T₀ : Params → BT) (n₀ : Nat) (life : Life) (d₀ : Drawn) (k₀ : Nat) (ann : Option Value) (N : Nat) (w : World) (os : OsState) :=
  (topRunT treeTable p w n₀ ann N ⟨T₀ w.params, n₀, life, Array.mk [], d₀, k₀, os⟩ (topStub p)).map fun s =>
    (allOk p (absHeap (T₀ w.params) n₀ life) s.abs, openSeen q loose (importedModules p.main.body) Xt true s.abs, Yf s.abs)

theorem left_of {p q : Program} {loose : List Str} {Xt : Shared → Bool} {α : Type} {Yf : Shared → α} {Ya : World → α} {N : Nat} {T₀ : Params → BT} {n₀ : Nat} {life : Life} {d₀ : Drawn} {k₀ : Nat} {ann : Option Value} {H₀ : Params → Heap}
    (open_ : ∀ w : World, (fencedOpening treeTable p w N).map (fun s => (s.heap, s.gens, s.drawn, s.toks)) = some (H₀ w.params, Array.mk [], d₀, k₀))
    (abs0 : ∀ P, H₀ P = absHeap (T₀ P) n₀ life)
    (size : ∀ w : World, ((H₀ w.params).isNs mainGlobals, (H₀ w.params).objs.size, (H₀ w.params).nsMap mainGlobals "__annotations__") = (true, n₀, ann))
    (run : ∀ (w : World) (os : OsState), whole p q loose Xt Yf T₀ n₀ life d₀ k₀ ann N w os = some (true, openGood q loose, Ya w)) : LeftO p q loose Xt Yf Ya N true := fun w => by
  obtain ⟨⟨h, gs, d, k, os⟩, e, e'⟩ := Option.map_eq_some_iff.mp (open_ w)
  obtain ⟨rfl, rfl, rfl, rfl⟩ : h = H₀ w.params ∧ gs = Array.mk [] ∧ d = d₀ ∧ k = k₀ := by simpa using e'
  obtain ⟨z1, z2, z3⟩ : _ ∧ _ ∧ _ := by simpa only [Prod.mk.injEq] using size w
  obtain ⟨s', hr, hg⟩ := Option.map_eq_some_iff.mp (run w os)
  obtain ⟨l1, l2, l3⟩ : _ ∧ _ ∧ _ := by simpa only [Prod.mk.injEq] using hg
  have r := topRunT_of hr
  have ea : (⟨T₀ w.params, n₀, life, Array.mk [], d, k, os⟩ : SharedT).abs = ⟨H₀ w.params, Array.mk [], d, k, os⟩ := by rw [abs0]; rfl
  rw [ea] at r
  rw [← abs0] at l1
  have t : topFrom treeTable p w N ⟨H₀ w.params, Array.mk [], d, k, os⟩ = some s'.abs := by
    unfold topFrom
    dsimp only
    rw [z1, z2, z3, r]
    show (match allOk p (H₀ w.params) s'.abs with | true => _ | false => _) = _
    rw [l1]
  unfold openEnds
  rw [e]
  show (topFrom treeTable p w N _).map _ = _
  rw [t]
  exact congrArg some (Prod.ext l2 l3)

abbrev pw := PySem.Challenge.pw_pb0451_01
def q : Program := { pw with main := { pw.main with body := pw.main.body.drop 38 } }
def loose : List Str := (pw.main.scope.names.filter (fun x => x.2 == .local && x.1 != ("law" : Str) && x.1 != ("__name__" : Str))).map (·.1)
noncomputable def bootT (P : Params) : BT := ((boot_heap P).objs.toList.foldl (fun (x : BT × Nat) o => (x.1.ins x.2 o, x.2 + 1)) (.nil, 0)).1
theorem e_open : opening pw = plainProg pw.main.scope.names := by kernel_rfl
theorem e_fence : ∀ s, fenceModules? pw s = some s := fun s => by kernel_rfl
theorem e_abs : ∀ P, boot_heap P = absHeap (bootT P) 11 {} := fun P => by kernel_rfl
theorem e_size : ∀ w : World, ((boot_heap w.params).isNs mainGlobals, (boot_heap w.params).objs.size, (boot_heap w.params).nsMap mainGlobals "__annotations__") = (true, 11, some (Value.ref 6)) := fun w => by kernel_rfl
lay_quick Mine.whole

def st (i : Nat) : Stmt := (pw.main.body[i]?).getD (.Pass ⟨0, 0, 0, 0⟩)
def mth (i j : Nat) : Stmt := match st i with
  | .ClassDef _ _ _ b _ _ _ _ _ _ _ => (b[j]?).getD (.Pass ⟨0, 0, 0, 0⟩)
  | s => s
def fParams : Stmt → Arguments
  | .FunctionDef _ a _ _ _ _ _ _ _ _ => a
  | _ => { posonlyargs := [], args := [], vararg := none, kwonlyargs := [], kw_defaults := [], kwarg := none, defaults := [] }
def fBody : Stmt → List Stmt
  | .FunctionDef _ _ b _ _ _ _ _ _ _ => b
  | _ => []
def fScope : Stmt → Scope
  | .FunctionDef _ _ _ _ _ _ s _ _ _ => s
  | _ => { kind := .function, names := [], isGenerator := false, isCoroutine := false, more := [] }
abbrev KE (P : Params) (x : Str) (t : Nat) (v : Value) : DictEntry := ⟨PyData.keyHash P x, .str x t, v⟩
abbrev FN (name qual : Str) (s : Stmt) (dV kV doc pm : Value) (an : Option Addr) (cd ct : Value) : FuncData := fnOf name qual (fParams s) (fBody s) (fScope s) dV kV doc pm an cd ct
noncomputable def KH : Params → Frag := fun P =>
  (nat_lit 2, ⟨.none, none, (.dict #[KE P "type.__subclasses__.Exception.0" 310 (.int (81) 0), KE P "type.__subclasses__.Exception.n" 311 (.int (1) 0)] 2), #[]⟩) ::
  (nat_lit 3, ⟨(.type "dict"), none, (.dict #[KE P "__name__" 165 (.str "law_pb0451_01" 864), KE P "__doc__" 166 .none, KE P "__package__" 167 .none, KE P "__loader__" 168 (.builtin "__main__.__loader__#opaque"), KE P "__spec__" 169 .none, KE P "__annotations__" 170 (.ref 6), KE P "__builtins__" 171 (.ref 4), KE P "__file__" 173 (.str "/claim/cut.py" 172), KE P "__cached__" 174 .none, KE P "_wall" 193 (.ref 21), KE P "DATABASE" 212 (.ref 22), KE P "Database" 282 (.ref 60), KE P "PagebaseError" 313 (.ref 81), KE P "SqlError" 329 (.ref 94), KE P "MismatchError" 345 (.ref 106), KE P "Node" 374 (.ref 125), KE P "Expr" 390 (.ref 139), KE P "Literal" 422 (.ref 165), KE P "Begin" 454 (.ref 191), KE P "Commit" 477 (.ref 210), KE P "Rollback" 509 (.ref 236), KE P "Savepoint" 541 (.ref 262), KE P "Release" 573 (.ref 288), KE P "Vacuum" 596 (.ref 307), KE P "transaction" 606 (.ref 316), KE P "FLOW" 618 (.ref 317), KE P "PLAIN" 624 (.ref 318), KE P "Core" 739 (.ref 391), KE P "Program" 863 (.ref 485), KE P "_law_pool" 876 (.ref 496), KE P "_law_take" 885 (.ref 503), KE P "_law_one" 893 (.ref 510), KE P "_law_noted" 902 (.ref 517), KE P "_law_connection" 911 (.ref 524), KE P "_law_statement" 920 (.ref 531), KE P "_law_statement_right" 926 (.ref 536), KE P "_law_opcode_right" 932 (.ref 541), KE P "_law_check_right" 942 (.ref 548), KE P "_law_changes_right" 953 (.ref 555), KE P "_law_refused" 960 (.ref 562), KE P "law" 972 (.ref 569)] 41), #[]⟩) ::
  (nat_lit 22, ⟨(.type "tuple"), none, (.seq #[(.str "Changes" 196), (.str "Transaction" 197), (.str "AutoCommit" 198), (.str "Savepoint" 199), (.str "BeginTransaction" 200), (.str "CreateBtree" 201), (.str "Destroy" 202), (.str "Clear" 203), (.str "LoadSchema" 204), (.str "SetCookie" 205), (.str "VerifyCookie" 206), (.str "Vacuum" 207), (.str "IntegrityCheck" 208), (.str "IntegrityRows" 209), (.str "PragmaGet" 210), (.str "PragmaSet" 211)] 0), #[]⟩) ::
  (nat_lit 35, ⟨(.type "code"), none, (.fields #[(.str "__init__" 225), (.str "Database.__init__" 226), (.str "/claim/cut.py" 227), (.int (8) 0), (.int (3) 0), (.int (0) 0), (.int (0) 0), (.int (3) 0), (.ref 30), (.bool true), (.int (181) 0), (.ref 31), .none, (.ref 32), (.ref 33), (.ref 34), (.int (231) 0), (.int (8) 0), (.str "/claim/cut.py" 232)]), #[]⟩) ::
  (nat_lit 36, ⟨(.type "function"), none, (.func (FN "__init__" "Database.__init__" (mth 3 0) .none .none .none (.str "pagebase.machine_database" 194) none (.ref 35) .none)), #[]⟩) ::
  (nat_lit 42, ⟨(.type "code"), none, (.fields #[(.str "names" 234), (.str "Database.names" 235), (.str "/claim/cut.py" 236), (.int (13) 0), (.int (1) 0), (.int (0) 0), (.int (0) 0), (.int (3) 0), (.ref 37), (.bool true), (.int (181) 0), (.ref 38), .none, (.ref 39), (.ref 40), (.ref 41), (.int (238) 0), (.int (13) 0), (.str "/claim/cut.py" 239)]), #[]⟩) ::
  (nat_lit 43, ⟨(.type "function"), none, (.func (FN "names" "Database.names" (mth 3 1) .none .none .none (.str "pagebase.machine_database" 194) none (.ref 42) .none)), #[]⟩) ::
  (nat_lit 49, ⟨(.type "code"), none, (.fields #[(.str "step" 241), (.str "Database.step" 242), (.str "/claim/cut.py" 243), (.int (16) 0), (.int (3) 0), (.int (0) 0), (.int (0) 0), (.int (3) 0), (.ref 44), (.bool true), (.int (181) 0), (.ref 45), .none, (.ref 46), (.ref 47), (.ref 48), (.int (253) 0), (.int (16) 0), (.str "/claim/cut.py" 254)]), #[]⟩) ::
  (nat_lit 50, ⟨(.type "function"), none, (.func (FN "step" "Database.step" (mth 3 2) .none .none .none (.str "pagebase.machine_database" 194) none (.ref 49) .none)), #[]⟩) ::
  (nat_lit 56, ⟨(.type "code"), none, (.fields #[(.str "setting" 256), (.str "Database.setting" 257), (.str "/claim/cut.py" 258), (.int (45) 0), (.int (2) 0), (.int (0) 0), (.int (0) 0), (.int (3) 0), (.ref 51), (.bool true), (.int (181) 0), (.ref 52), .none, (.ref 53), (.ref 54), (.ref 55), (.int (269) 0), (.int (45) 0), (.str "/claim/cut.py" 270)]), #[]⟩) ::
  (nat_lit 57, ⟨(.type "function"), none, (.func (FN "setting" "Database.setting" (mth 3 3) .none .none .none (.str "pagebase.machine_database" 194) none (.ref 56) .none)), #[]⟩) ::
  (nat_lit 59, ⟨(.type "dict"), none, (.dict #[KE P "__module__" 220 (.str "pagebase.machine_database" 194), KE P "__firstlineno__" 224 (.int (6) 223), KE P "__init__" 233 (.ref 36), KE P "names" 240 (.ref 43), KE P "step" 255 (.ref 50), KE P "setting" 271 (.ref 57), KE P "__static_attributes__" 275 (.ref 58), KE P "__dict__" 277 (.ref 61), KE P "__weakref__" 279 (.ref 62), KE P "__doc__" 280 .none] 4), #[]⟩) ::
  (nat_lit 60, ⟨(.type "type"), none, (.cls { name := "Database", bases := [(.type "object")], mro := [(.ref 60), (.type "object")], ns := 59, qualname := "Database", hasDict := true, slotNames := [], subclasses := [], abstract := false, collection := none, hasDel := false }), #[none, none, (some (.str "Database" 213)), (some (.str "Database" 221)), (some (.builtin "object.__new__")), (some (.bool true))]⟩) ::
  (nat_lit 61, ⟨(.type "getset_descriptor"), none, (.fields #[(.str "__dict__" 276), (.ref 60), (.builtin "function.__dict__"), (.builtin "function.__dict__#set")]), #[]⟩) ::
  (nat_lit 62, ⟨(.type "getset_descriptor"), none, (.fields #[(.str "__weakref__" 278), (.ref 60), (.builtin "ExceptionGroup.__weakref__"), .none]), #[]⟩) ::
  (nat_lit 77, ⟨(.type "code"), none, (.fields #[(.str "__init__" 297), (.str "PagebaseError.__init__" 298), (.str "/claim/cut.py" 299), (.int (66) 0), (.int (2) 0), (.int (0) 0), (.int (0) 0), (.int (3) 0), (.ref 72), (.bool true), (.int (181) 0), (.ref 73), .none, (.ref 74), (.ref 75), (.ref 76), (.int (302) 0), (.int (66) 0), (.str "/claim/cut.py" 303)]), #[]⟩) ::
  (nat_lit 78, ⟨(.type "function"), none, (.func (FN "__init__" "PagebaseError.__init__" (mth 5 0) .none .none .none (.str "pagebase.errors" 283) none (.ref 77) .none)), #[]⟩) ::
  (nat_lit 80, ⟨(.type "dict"), none, (.dict #[KE P "__module__" 292 (.str "pagebase.errors" 283), KE P "__firstlineno__" 296 (.int (64) 295), KE P "__init__" 304 (.ref 78), KE P "__static_attributes__" 306 (.ref 79), KE P "__weakref__" 308 (.ref 82), KE P "__doc__" 309 .none] 3), #[]⟩) ::
  (nat_lit 81, ⟨(.type "type"), none, (.cls { name := "PagebaseError", bases := [(.type "Exception")], mro := [(.ref 81), (.type "Exception"), (.type "BaseException"), (.type "object")], ns := 80, qualname := "PagebaseError", hasDict := true, slotNames := [], subclasses := [(.ref 94), (.ref 106)], abstract := false, collection := none, hasDel := false }), #[(some (.ref 65)), none, (some (.str "PagebaseError" 285)), (some (.str "PagebaseError" 293)), (some (.builtin "Exception.__new__")), (some (.bool true))]⟩) ::
  (nat_lit 82, ⟨(.type "getset_descriptor"), none, (.fields #[(.str "__weakref__" 307), (.ref 81), (.builtin "ExceptionGroup.__weakref__"), .none]), #[]⟩) ::
  (nat_lit 93, ⟨(.type "dict"), none, (.dict #[KE P "__module__" 321 (.str "pagebase.errors" 283), KE P "__firstlineno__" 325 (.int (68) 324), KE P "__static_attributes__" 326 (.ref 92), KE P "__doc__" 327 .none] 2), #[]⟩) ::
  (nat_lit 94, ⟨(.type "type"), none, (.cls { name := "SqlError", bases := [(.ref 81)], mro := [(.ref 94), (.ref 81), (.type "Exception"), (.type "BaseException"), (.type "object")], ns := 93, qualname := "SqlError", hasDict := true, slotNames := [], subclasses := [], abstract := false, collection := none, hasDel := false }), #[(some (.ref 85)), none, (some (.str "SqlError" 314)), (some (.str "SqlError" 322)), (some (.builtin "Exception.__new__")), (some (.bool true))]⟩) ::
  (nat_lit 105, ⟨(.type "dict"), none, (.dict #[KE P "__module__" 337 (.str "pagebase.errors" 283), KE P "__firstlineno__" 341 (.int (70) 340), KE P "__static_attributes__" 342 (.ref 104), KE P "__doc__" 343 .none] 2), #[]⟩) ::
  (nat_lit 106, ⟨(.type "type"), none, (.cls { name := "MismatchError", bases := [(.ref 81)], mro := [(.ref 106), (.ref 81), (.type "Exception"), (.type "BaseException"), (.type "object")], ns := 105, qualname := "MismatchError", hasDict := true, slotNames := [], subclasses := [], abstract := false, collection := none, hasDel := false }), #[(some (.ref 97)), none, (some (.str "MismatchError" 330)), (some (.str "MismatchError" 338)), (some (.builtin "Exception.__new__")), (some (.bool true))]⟩) ::
  (nat_lit 124, ⟨(.type "dict"), none, (.dict #[KE P "__module__" 355 (.str "pagebase.nodes" 346), KE P "__firstlineno__" 359 (.int (73) 358), KE P "row" 366 (.ref 122), KE P "__static_attributes__" 367 (.ref 123), KE P "__dict__" 369 (.ref 126), KE P "__weakref__" 371 (.ref 127), KE P "__doc__" 372 .none] 4), #[]⟩) ::
  (nat_lit 125, ⟨(.type "type"), none, (.cls { name := "Node", bases := [(.type "object")], mro := [(.ref 125), (.type "object")], ns := 124, qualname := "Node", hasDict := true, slotNames := [], subclasses := [(.ref 139), (.ref 191), (.ref 210), (.ref 236), (.ref 262), (.ref 288), (.ref 307)], abstract := false, collection := none, hasDel := false }), #[none, none, (some (.str "Node" 348)), (some (.str "Node" 356)), (some (.builtin "object.__new__")), (some (.bool true))]⟩) ::
  (nat_lit 126, ⟨(.type "getset_descriptor"), none, (.fields #[(.str "__dict__" 368), (.ref 125), (.builtin "function.__dict__"), (.builtin "function.__dict__#set")]), #[]⟩) ::
  (nat_lit 127, ⟨(.type "getset_descriptor"), none, (.fields #[(.str "__weakref__" 370), (.ref 125), (.builtin "ExceptionGroup.__weakref__"), .none]), #[]⟩) ::
  (nat_lit 138, ⟨(.type "dict"), none, (.dict #[KE P "__module__" 382 (.str "pagebase.nodes" 346), KE P "__firstlineno__" 386 (.int (77) 385), KE P "__static_attributes__" 387 (.ref 137), KE P "__doc__" 388 .none] 2), #[]⟩) ::
  (nat_lit 139, ⟨(.type "type"), none, (.cls { name := "Expr", bases := [(.ref 125)], mro := [(.ref 139), (.ref 125), (.type "object")], ns := 138, qualname := "Expr", hasDict := true, slotNames := [], subclasses := [(.ref 165)], abstract := false, collection := none, hasDel := false }), #[(some (.ref 130)), none, (some (.str "Expr" 375)), (some (.str "Expr" 383)), (some (.builtin "object.__new__")), (some (.bool true))]⟩) ::
  (nat_lit 154, ⟨(.type "code"), none, (.fields #[(.str "__init__" 403), (.str "Literal.__init__" 404), (.str "/claim/cut.py" 405), (.int (81) 0), (.int (2) 0), (.int (0) 0), (.int (0) 0), (.int (3) 0), (.ref 149), (.bool true), (.int (181) 0), (.ref 150), .none, (.ref 151), (.ref 152), (.ref 153), (.int (408) 0), (.int (81) 0), (.str "/claim/cut.py" 409)]), #[]⟩) ::
  (nat_lit 155, ⟨(.type "function"), none, (.func (FN "__init__" "Literal.__init__" (mth 11 0) .none .none .none (.str "pagebase.nodes" 346) none (.ref 154) .none)), #[]⟩) ::
  (nat_lit 164, ⟨(.type "dict"), none, (.dict #[KE P "__module__" 398 (.str "pagebase.nodes" 346), KE P "__firstlineno__" 402 (.int (79) 401), KE P "__init__" 410 (.ref 155), KE P "row" 417 (.ref 162), KE P "__static_attributes__" 419 (.ref 163), KE P "__doc__" 420 .none] 2), #[]⟩) ::
  (nat_lit 165, ⟨(.type "type"), none, (.cls { name := "Literal", bases := [(.ref 139)], mro := [(.ref 165), (.ref 139), (.ref 125), (.type "object")], ns := 164, qualname := "Literal", hasDict := true, slotNames := [], subclasses := [], abstract := false, collection := none, hasDel := false }), #[(some (.ref 142)), none, (some (.str "Literal" 391)), (some (.str "Literal" 399)), (some (.builtin "object.__new__")), (some (.bool true))]⟩) ::
  (nat_lit 180, ⟨(.type "code"), none, (.fields #[(.str "__init__" 435), (.str "Begin.__init__" 436), (.str "/claim/cut.py" 437), (.int (92) 0), (.int (2) 0), (.int (0) 0), (.int (0) 0), (.int (3) 0), (.ref 175), (.bool true), (.int (181) 0), (.ref 176), .none, (.ref 177), (.ref 178), (.ref 179), (.int (440) 0), (.int (92) 0), (.str "/claim/cut.py" 441)]), #[]⟩) ::
  (nat_lit 181, ⟨(.type "function"), none, (.func (FN "__init__" "Begin.__init__" (mth 12 0) .none .none .none (.str "pagebase.nodes" 346) none (.ref 180) .none)), #[]⟩) ::
  (nat_lit 190, ⟨(.type "dict"), none, (.dict #[KE P "__module__" 430 (.str "pagebase.nodes" 346), KE P "__firstlineno__" 434 (.int (90) 433), KE P "__init__" 442 (.ref 181), KE P "row" 449 (.ref 188), KE P "__static_attributes__" 451 (.ref 189), KE P "__doc__" 452 .none] 2), #[]⟩) ::
  (nat_lit 191, ⟨(.type "type"), none, (.cls { name := "Begin", bases := [(.ref 125)], mro := [(.ref 191), (.ref 125), (.type "object")], ns := 190, qualname := "Begin", hasDict := true, slotNames := [], subclasses := [], abstract := false, collection := none, hasDel := false }), #[(some (.ref 168)), none, (some (.str "Begin" 423)), (some (.str "Begin" 431)), (some (.builtin "object.__new__")), (some (.bool true))]⟩) ::
  (nat_lit 209, ⟨(.type "dict"), none, (.dict #[KE P "__module__" 462 (.str "pagebase.nodes" 346), KE P "__firstlineno__" 466 (.int (97) 465), KE P "row" 473 (.ref 207), KE P "__static_attributes__" 474 (.ref 208), KE P "__doc__" 475 .none] 2), #[]⟩) ::
  (nat_lit 210, ⟨(.type "type"), none, (.cls { name := "Commit", bases := [(.ref 125)], mro := [(.ref 210), (.ref 125), (.type "object")], ns := 209, qualname := "Commit", hasDict := true, slotNames := [], subclasses := [], abstract := false, collection := none, hasDel := false }), #[(some (.ref 194)), none, (some (.str "Commit" 455)), (some (.str "Commit" 463)), (some (.builtin "object.__new__")), (some (.bool true))]⟩) ::
  (nat_lit 225, ⟨(.type "code"), none, (.fields #[(.str "__init__" 490), (.str "Rollback.__init__" 491), (.str "/claim/cut.py" 492), (.int (103) 0), (.int (2) 0), (.int (0) 0), (.int (0) 0), (.int (3) 0), (.ref 220), (.bool true), (.int (181) 0), (.ref 221), .none, (.ref 222), (.ref 223), (.ref 224), (.int (495) 0), (.int (103) 0), (.str "/claim/cut.py" 496)]), #[]⟩) ::
  (nat_lit 226, ⟨(.type "function"), none, (.func (FN "__init__" "Rollback.__init__" (mth 14 0) .none .none .none (.str "pagebase.nodes" 346) none (.ref 225) .none)), #[]⟩) ::
  (nat_lit 235, ⟨(.type "dict"), none, (.dict #[KE P "__module__" 485 (.str "pagebase.nodes" 346), KE P "__firstlineno__" 489 (.int (101) 488), KE P "__init__" 497 (.ref 226), KE P "row" 504 (.ref 233), KE P "__static_attributes__" 506 (.ref 234), KE P "__doc__" 507 .none] 2), #[]⟩) ::
  (nat_lit 236, ⟨(.type "type"), none, (.cls { name := "Rollback", bases := [(.ref 125)], mro := [(.ref 236), (.ref 125), (.type "object")], ns := 235, qualname := "Rollback", hasDict := true, slotNames := [], subclasses := [], abstract := false, collection := none, hasDel := false }), #[(some (.ref 213)), none, (some (.str "Rollback" 478)), (some (.str "Rollback" 486)), (some (.builtin "object.__new__")), (some (.bool true))]⟩) ::
  (nat_lit 251, ⟨(.type "code"), none, (.fields #[(.str "__init__" 522), (.str "Savepoint.__init__" 523), (.str "/claim/cut.py" 524), (.int (110) 0), (.int (2) 0), (.int (0) 0), (.int (0) 0), (.int (3) 0), (.ref 246), (.bool true), (.int (181) 0), (.ref 247), .none, (.ref 248), (.ref 249), (.ref 250), (.int (527) 0), (.int (110) 0), (.str "/claim/cut.py" 528)]), #[]⟩) ::
  (nat_lit 252, ⟨(.type "function"), none, (.func (FN "__init__" "Savepoint.__init__" (mth 15 0) .none .none .none (.str "pagebase.nodes" 346) none (.ref 251) .none)), #[]⟩) ::
  (nat_lit 261, ⟨(.type "dict"), none, (.dict #[KE P "__module__" 517 (.str "pagebase.nodes" 346), KE P "__firstlineno__" 521 (.int (108) 520), KE P "__init__" 529 (.ref 252), KE P "row" 536 (.ref 259), KE P "__static_attributes__" 538 (.ref 260), KE P "__doc__" 539 .none] 2), #[]⟩) ::
  (nat_lit 262, ⟨(.type "type"), none, (.cls { name := "Savepoint", bases := [(.ref 125)], mro := [(.ref 262), (.ref 125), (.type "object")], ns := 261, qualname := "Savepoint", hasDict := true, slotNames := [], subclasses := [], abstract := false, collection := none, hasDel := false }), #[(some (.ref 239)), none, (some (.str "Savepoint" 510)), (some (.str "Savepoint" 518)), (some (.builtin "object.__new__")), (some (.bool true))]⟩) ::
  (nat_lit 277, ⟨(.type "code"), none, (.fields #[(.str "__init__" 554), (.str "Release.__init__" 555), (.str "/claim/cut.py" 556), (.int (117) 0), (.int (2) 0), (.int (0) 0), (.int (0) 0), (.int (3) 0), (.ref 272), (.bool true), (.int (181) 0), (.ref 273), .none, (.ref 274), (.ref 275), (.ref 276), (.int (559) 0), (.int (117) 0), (.str "/claim/cut.py" 560)]), #[]⟩) ::
  (nat_lit 278, ⟨(.type "function"), none, (.func (FN "__init__" "Release.__init__" (mth 16 0) .none .none .none (.str "pagebase.nodes" 346) none (.ref 277) .none)), #[]⟩) ::
  (nat_lit 287, ⟨(.type "dict"), none, (.dict #[KE P "__module__" 549 (.str "pagebase.nodes" 346), KE P "__firstlineno__" 553 (.int (115) 552), KE P "__init__" 561 (.ref 278), KE P "row" 568 (.ref 285), KE P "__static_attributes__" 570 (.ref 286), KE P "__doc__" 571 .none] 2), #[]⟩) ::
  (nat_lit 288, ⟨(.type "type"), none, (.cls { name := "Release", bases := [(.ref 125)], mro := [(.ref 288), (.ref 125), (.type "object")], ns := 287, qualname := "Release", hasDict := true, slotNames := [], subclasses := [], abstract := false, collection := none, hasDel := false }), #[(some (.ref 265)), none, (some (.str "Release" 542)), (some (.str "Release" 550)), (some (.builtin "object.__new__")), (some (.bool true))]⟩) ::
  (nat_lit 306, ⟨(.type "dict"), none, (.dict #[KE P "__module__" 581 (.str "pagebase.nodes" 346), KE P "__firstlineno__" 585 (.int (122) 584), KE P "row" 592 (.ref 304), KE P "__static_attributes__" 593 (.ref 305), KE P "__doc__" 594 .none] 2), #[]⟩) ::
  (nat_lit 307, ⟨(.type "type"), none, (.cls { name := "Vacuum", bases := [(.ref 125)], mro := [(.ref 307), (.ref 125), (.type "object")], ns := 306, qualname := "Vacuum", hasDict := true, slotNames := [], subclasses := [], abstract := false, collection := none, hasDel := false }), #[(some (.ref 291)), none, (some (.str "Vacuum" 574)), (some (.str "Vacuum" 582)), (some (.builtin "object.__new__")), (some (.bool true))]⟩) ::
  (nat_lit 315, ⟨(.type "code"), none, (.fields #[(.str "transaction" 599), (.str "transaction" 600), (.str "/claim/cut.py" 601), (.int (127) 0), (.int (2) 0), (.int (0) 0), (.int (0) 0), (.int (3) 0), (.ref 310), (.bool true), (.int (181) 0), (.ref 311), .none, (.ref 312), (.ref 313), (.ref 314), (.int (604) 0), (.int (127) 0), (.str "/claim/cut.py" 605)]), #[]⟩) ::
  (nat_lit 316, ⟨(.type "function"), none, (.func (FN "transaction" "transaction" (st 19) .none .none .none (.str "pagebase.code_schema" 597) none (.ref 315) .none)), #[]⟩) ::
  (nat_lit 326, ⟨(.type "tuple"), none, (.seq #[] 0), #[]⟩) ::
  (nat_lit 327, ⟨(.type "tuple"), none, (.seq #[(.ref 326)] 0), #[]⟩) ::
  (nat_lit 333, ⟨(.type "code"), none, (.fields #[(.str "__init__" 637), (.str "Core.__init__" 638), (.str "/claim/cut.py" 639), (.int (149) 0), (.int (2) 0), (.int (0) 0), (.int (0) 0), (.int (3) 0), (.ref 328), (.bool true), (.int (181) 0), (.ref 329), .none, (.ref 330), (.ref 331), (.ref 332), (.int (642) 0), (.int (149) 0), (.str "/claim/cut.py" 643)]), #[]⟩) ::
  (nat_lit 334, ⟨(.type "function"), none, (.func (FN "__init__" "Core.__init__" (mth 23 0) (.ref 327) .none .none (.str "pagebase.machine_core" 607) none (.ref 333) .none)), #[]⟩) ::
  (nat_lit 347, ⟨(.type "code"), none, (.fields #[(.str "get" 652), (.str "Core.get" 653), (.str "/claim/cut.py" 654), (.int (157) 0), (.int (2) 0), (.int (0) 0), (.int (0) 0), (.int (3) 0), (.ref 342), (.bool true), (.int (181) 0), (.ref 343), .none, (.ref 344), (.ref 345), (.ref 346), (.int (657) 0), (.int (157) 0), (.str "/claim/cut.py" 658)]), #[]⟩) ::
  (nat_lit 348, ⟨(.type "function"), none, (.func (FN "get" "Core.get" (mth 23 2) .none .none .none (.str "pagebase.machine_core" 607) none (.ref 347) .none)), #[]⟩) ::
  (nat_lit 354, ⟨(.type "code"), none, (.fields #[(.str "put" 660), (.str "Core.put" 661), (.str "/claim/cut.py" 662), (.int (160) 0), (.int (3) 0), (.int (0) 0), (.int (0) 0), (.int (3) 0), (.ref 349), (.bool true), (.int (181) 0), (.ref 350), .none, (.ref 351), (.ref 352), (.ref 353), (.int (666) 0), (.int (160) 0), (.str "/claim/cut.py" 667)]), #[]⟩) ::
  (nat_lit 355, ⟨(.type "function"), none, (.func (FN "put" "Core.put" (mth 23 3) .none .none .none (.str "pagebase.machine_core" 607) none (.ref 354) .none)), #[]⟩) ::
  (nat_lit 390, ⟨(.type "dict"), none, (.dict #[KE P "__module__" 632 (.str "pagebase.machine_core" 607), KE P "__firstlineno__" 636 (.int (147) 635), KE P "__init__" 644 (.ref 334), KE P "names" 651 (.ref 341), KE P "get" 659 (.ref 348), KE P "put" 668 (.ref 355), KE P "values_from" 674 (.ref 360), KE P "step" 683 (.ref 367), KE P "flow" 697 (.ref 374), KE P "is_jump" 711 (.ref 381), KE P "fill" 728 (.ref 388), KE P "__static_attributes__" 732 (.ref 389), KE P "__dict__" 734 (.ref 392), KE P "__weakref__" 736 (.ref 393), KE P "__doc__" 737 .none] 4), #[]⟩) ::
  (nat_lit 391, ⟨(.type "type"), none, (.cls { name := "Core", bases := [(.type "object")], mro := [(.ref 391), (.type "object")], ns := 390, qualname := "Core", hasDict := true, slotNames := [], subclasses := [], abstract := false, collection := none, hasDel := false }), #[none, none, (some (.str "Core" 625)), (some (.str "Core" 633)), (some (.builtin "object.__new__")), (some (.bool true))]⟩) ::
  (nat_lit 392, ⟨(.type "getset_descriptor"), none, (.fields #[(.str "__dict__" 733), (.ref 391), (.builtin "function.__dict__"), (.builtin "function.__dict__#set")]), #[]⟩) ::
  (nat_lit 393, ⟨(.type "getset_descriptor"), none, (.fields #[(.str "__weakref__" 735), (.ref 391), (.builtin "ExceptionGroup.__weakref__"), .none]), #[]⟩) ::
  (nat_lit 408, ⟨(.type "code"), none, (.fields #[(.str "__init__" 754), (.str "Program.__init__" 755), (.str "/claim/cut.py" 756), (.int (225) 0), (.int (1) 0), (.int (0) 0), (.int (0) 0), (.int (3) 0), (.ref 403), (.bool true), (.int (181) 0), (.ref 404), .none, (.ref 405), (.ref 406), (.ref 407), (.int (758) 0), (.int (225) 0), (.str "/claim/cut.py" 759)]), #[]⟩) ::
  (nat_lit 409, ⟨(.type "function"), none, (.func (FN "__init__" "Program.__init__" (mth 25 0) .none .none .none (.str "pagebase.program" 740) none (.ref 408) .none)), #[]⟩) ::
  (nat_lit 410, ⟨(.type "tuple"), none, (.seq #[(.int (0) 761), (.int (0) 762), (.int (0) 763), .none] 0), #[]⟩) ::
  (nat_lit 416, ⟨(.type "code"), none, (.fields #[(.str "add" 764), (.str "Program.add" 765), (.str "/claim/cut.py" 766), (.int (235) 0), (.int (6) 0), (.int (0) 0), (.int (0) 0), (.int (3) 0), (.ref 411), (.bool true), (.int (181) 0), (.ref 412), .none, (.ref 413), (.ref 414), (.ref 415), (.int (773) 0), (.int (235) 0), (.str "/claim/cut.py" 774)]), #[]⟩) ::
  (nat_lit 417, ⟨(.type "function"), none, (.func (FN "add" "Program.add" (mth 25 1) (.ref 410) .none .none (.str "pagebase.program" 740) none (.ref 416) .none)), #[]⟩) ::
  (nat_lit 484, ⟨(.type "dict"), none, (.dict #[KE P "__module__" 749 (.str "pagebase.program" 740), KE P "__firstlineno__" 753 (.int (223) 752), KE P "__init__" 760 (.ref 409), KE P "add" 775 (.ref 417), KE P "here" 782 (.ref 424), KE P "label" 789 (.ref 431), KE P "place" 797 (.ref 438), KE P "register" 807 (.ref 446), KE P "cursor" 814 (.ref 453), KE P "slot" 821 (.ref 460), KE P "value" 830 (.ref 467), KE P "null" 840 (.ref 475), KE P "finish" 847 (.ref 482), KE P "__static_attributes__" 856 (.ref 483), KE P "__dict__" 858 (.ref 486), KE P "__weakref__" 860 (.ref 487), KE P "__doc__" 861 .none] 4), #[]⟩) ::
  (nat_lit 485, ⟨(.type "type"), none, (.cls { name := "Program", bases := [(.type "object")], mro := [(.ref 485), (.type "object")], ns := 484, qualname := "Program", hasDict := true, slotNames := [], subclasses := [], abstract := false, collection := none, hasDel := false }), #[none, none, (some (.str "Program" 742)), (some (.str "Program" 750)), (some (.builtin "object.__new__")), (some (.bool true))]⟩) ::
  (nat_lit 486, ⟨(.type "getset_descriptor"), none, (.fields #[(.str "__dict__" 857), (.ref 485), (.builtin "function.__dict__"), (.builtin "function.__dict__#set")]), #[]⟩) ::
  (nat_lit 487, ⟨(.type "getset_descriptor"), none, (.fields #[(.str "__weakref__" 859), (.ref 485), (.builtin "ExceptionGroup.__weakref__"), .none]), #[]⟩) ::
  (nat_lit 495, ⟨(.type "code"), none, (.fields #[(.str "_law_pool" 866), (.str "_law_pool" 867), (.str "/claim/cut.py" 868), (.int (272) 0), (.int (2) 0), (.int (0) 0), (.int (0) 0), (.int (3) 0), (.ref 490), (.bool true), (.int (181) 0), (.ref 491), .none, (.ref 492), (.ref 493), (.ref 494), (.int (874) 0), (.int (272) 0), (.str "/claim/cut.py" 875)]), #[]⟩) ::
  (nat_lit 496, ⟨(.type "function"), none, (.func (FN "_law_pool" "_law_pool" (st 27) .none .none .none (.str "law_pb0451_01" 864) none (.ref 495) .none)), #[]⟩) ::
  (nat_lit 502, ⟨(.type "code"), none, (.fields #[(.str "_law_take" 877), (.str "_law_take" 878), (.str "/claim/cut.py" 879), (.int (279) 0), (.int (2) 0), (.int (0) 0), (.int (0) 0), (.int (3) 0), (.ref 497), (.bool true), (.int (181) 0), (.ref 498), .none, (.ref 499), (.ref 500), (.ref 501), (.int (883) 0), (.int (279) 0), (.str "/claim/cut.py" 884)]), #[]⟩) ::
  (nat_lit 503, ⟨(.type "function"), none, (.func (FN "_law_take" "_law_take" (st 28) .none .none .none (.str "law_pb0451_01" 864) none (.ref 502) .none)), #[]⟩) ::
  (nat_lit 509, ⟨(.type "code"), none, (.fields #[(.str "_law_one" 886), (.str "_law_one" 887), (.str "/claim/cut.py" 888), (.int (286) 0), (.int (2) 0), (.int (0) 0), (.int (0) 0), (.int (3) 0), (.ref 504), (.bool true), (.int (181) 0), (.ref 505), .none, (.ref 506), (.ref 507), (.ref 508), (.int (891) 0), (.int (286) 0), (.str "/claim/cut.py" 892)]), #[]⟩) ::
  (nat_lit 510, ⟨(.type "function"), none, (.func (FN "_law_one" "_law_one" (st 29) .none .none .none (.str "law_pb0451_01" 864) none (.ref 509) .none)), #[]⟩) ::
  (nat_lit 516, ⟨(.type "code"), none, (.fields #[(.str "_law_noted" 894), (.str "_law_noted" 895), (.str "/claim/cut.py" 896), (.int (288) 0), (.int (3) 0), (.int (0) 0), (.int (0) 0), (.int (3) 0), (.ref 511), (.bool true), (.int (181) 0), (.ref 512), .none, (.ref 513), (.ref 514), (.ref 515), (.int (900) 0), (.int (288) 0), (.str "/claim/cut.py" 901)]), #[]⟩) ::
  (nat_lit 517, ⟨(.type "function"), none, (.func (FN "_law_noted" "_law_noted" (st 30) .none .none .none (.str "law_pb0451_01" 864) none (.ref 516) .none)), #[]⟩) ::
  (nat_lit 523, ⟨(.type "code"), none, (.fields #[(.str "_law_connection" 903), (.str "_law_connection" 904), (.str "/claim/cut.py" 905), (.int (291) 0), (.int (1) 0), (.int (0) 0), (.int (0) 0), (.int (3) 0), (.ref 518), (.bool true), (.int (181) 0), (.ref 519), .none, (.ref 520), (.ref 521), (.ref 522), (.int (909) 0), (.int (291) 0), (.str "/claim/cut.py" 910)]), #[]⟩) ::
  (nat_lit 524, ⟨(.type "function"), none, (.func (FN "_law_connection" "_law_connection" (st 31) .none .none .none (.str "law_pb0451_01" 864) none (.ref 523) .none)), #[]⟩) ::
  (nat_lit 530, ⟨(.type "code"), none, (.fields #[(.str "_law_statement" 912), (.str "_law_statement" 913), (.str "/claim/cut.py" 914), (.int (310) 0), (.int (1) 0), (.int (0) 0), (.int (0) 0), (.int (3) 0), (.ref 525), (.bool true), (.int (181) 0), (.ref 526), .none, (.ref 527), (.ref 528), (.ref 529), (.int (918) 0), (.int (310) 0), (.str "/claim/cut.py" 919)]), #[]⟩) ::
  (nat_lit 531, ⟨(.type "function"), none, (.func (FN "_law_statement" "_law_statement" (st 32) .none .none .none (.str "law_pb0451_01" 864) none (.ref 530) .none)), #[]⟩) ::
  (nat_lit 535, ⟨(.type "code"), none, (.fields #[(.str "_law_statement_right" 921), (.str "_law_statement_right" 922), (.str "/claim/cut.py" 923), (.int (314) 0), (.int (3) 0), (.int (0) 0), (.int (0) 0), (.int (3) 0), (.ref 532), (.bool true), (.int (181) 0), (.ref 533), .none, .none, .none, (.ref 534), (.int (924) 0), (.int (314) 0), (.str "/claim/cut.py" 925)]), #[]⟩) ::
  (nat_lit 536, ⟨(.type "function"), none, (.func (FN "_law_statement_right" "_law_statement_right" (st 33) .none .none .none (.str "law_pb0451_01" 864) none (.ref 535) .none)), #[]⟩) ::
  (nat_lit 540, ⟨(.type "code"), none, (.fields #[(.str "_law_opcode_right" 927), (.str "_law_opcode_right" 928), (.str "/claim/cut.py" 929), (.int (322) 0), (.int (4) 0), (.int (0) 0), (.int (0) 0), (.int (3) 0), (.ref 537), (.bool true), (.int (181) 0), (.ref 538), .none, .none, .none, (.ref 539), (.int (930) 0), (.int (322) 0), (.str "/claim/cut.py" 931)]), #[]⟩) ::
  (nat_lit 541, ⟨(.type "function"), none, (.func (FN "_law_opcode_right" "_law_opcode_right" (st 34) .none .none .none (.str "law_pb0451_01" 864) none (.ref 540) .none)), #[]⟩) ::
  (nat_lit 547, ⟨(.type "code"), none, (.fields #[(.str "_law_check_right" 933), (.str "_law_check_right" 934), (.str "/claim/cut.py" 935), (.int (332) 0), (.int (2) 0), (.int (0) 0), (.int (0) 0), (.int (3) 0), (.ref 542), (.bool true), (.int (181) 0), (.ref 543), .none, (.ref 544), (.ref 545), (.ref 546), (.int (940) 0), (.int (332) 0), (.str "/claim/cut.py" 941)]), #[]⟩) ::
  (nat_lit 548, ⟨(.type "function"), none, (.func (FN "_law_check_right" "_law_check_right" (st 35) .none .none .none (.str "law_pb0451_01" 864) none (.ref 547) .none)), #[]⟩) ::
  (nat_lit 554, ⟨(.type "code"), none, (.fields #[(.str "_law_changes_right" 943), (.str "_law_changes_right" 944), (.str "/claim/cut.py" 945), (.int (341) 0), (.int (3) 0), (.int (0) 0), (.int (0) 0), (.int (3) 0), (.ref 549), (.bool true), (.int (181) 0), (.ref 550), .none, (.ref 551), (.ref 552), (.ref 553), (.int (951) 0), (.int (341) 0), (.str "/claim/cut.py" 952)]), #[]⟩) ::
  (nat_lit 555, ⟨(.type "function"), none, (.func (FN "_law_changes_right" "_law_changes_right" (st 36) .none .none .none (.str "law_pb0451_01" 864) none (.ref 554) .none)), #[]⟩) ::
  (nat_lit 561, ⟨(.type "code"), none, (.fields #[(.str "_law_refused" 954), (.str "_law_refused" 955), (.str "/claim/cut.py" 956), (.int (347) 0), (.int (0) 0), (.int (0) 0), (.int (0) 0), (.int (3) 0), (.ref 556), (.bool true), (.int (181) 0), (.ref 557), .none, (.ref 558), (.ref 559), (.ref 560), (.int (958) 0), (.int (347) 0), (.str "/claim/cut.py" 959)]), #[]⟩) ::
  (nat_lit 562, ⟨(.type "function"), none, (.func (FN "_law_refused" "_law_refused" (st 37) .none .none .none (.str "law_pb0451_01" 864) none (.ref 561) .none)), #[]⟩) ::
  (nat_lit 568, ⟨(.type "code"), none, (.fields #[(.str "law" 961), (.str "law" 962), (.str "/claim/cut.py" 963), (.int (354) 0), (.int (1) 0), (.int (0) 0), (.int (0) 0), (.int (3) 0), (.ref 563), (.bool true), (.int (181) 0), (.ref 564), .none, (.ref 565), (.ref 566), (.ref 567), (.int (970) 0), (.int (354) 0), (.str "/claim/cut.py" 971)]), #[]⟩) ::
  (nat_lit 569, ⟨(.type "function"), none, (.func (FN "law" "law" (st 38) .none .none .none (.str "law_pb0451_01" 864) none (.ref 568) .none)), #[]⟩) :: []
def asH : List Addr := [2, 3, 22, 35, 36, 42, 43, 49, 50, 56, 57, 59, 60, 61, 62, 77, 78, 80, 81, 82, 93, 94, 105, 106, 124, 125, 126, 127, 138, 139, 154, 155, 164, 165, 180, 181, 190, 191, 209, 210, 225, 226, 235, 236, 251, 252, 261, 262, 277, 278, 287, 288, 306, 307, 315, 316, 326, 327, 333, 334, 347, 348, 354, 355, 390, 391, 392, 393, 408, 409, 410, 416, 417, 484, 485, 486, 487, 495, 496, 502, 503, 509, 510, 516, 517, 523, 524, 530, 531, 535, 536, 540, 541, 547, 548, 554, 555, 561, 562, 568, 569]

theorem asH_eq : ∀ P, asH = (KH P).map (·.1) := fun _ => rfl
noncomputable abbrev HK : Hook := kmHook KH asH asH_eq [519]

theorem run_fast : ∀ (w : World) (os : OsState), PySem.W.Fast.tw1535501858159501468 pw q loose (fun s => xlAt q [] s && recOk [] s) (Hook.obs HK) bootT 11 {} boot_drawn boot_toks (some (Value.ref 6)) 9946 w os = some (true, openGood q loose, Hook.val HK w) := fun w os => by kernel_rfl

theorem run_slow (w : World) (os : OsState) : whole pw q loose (fun s => xlAt q [] s && recOk [] s) (Hook.obs HK) bootT 11 {} boot_drawn boot_toks (some (Value.ref 6)) 9946 w os = some (true, openGood q loose, Hook.val HK w) := by
  rw [PySem.W.Fast.te1535501858159501468]; exact run_fast w os
theorem left : LeftO pw q loose (fun s => xlAt q [] s && recOk [] s) (Hook.obs HK) (Hook.val HK) 9946 true :=
  left_of (boot_open e_open rfl e_fence) e_abs e_size run_slow
abbrev rr := PySem.Challenge.rw_pb0451_01.row
def dd : DefRec := { name := Str.ofString "law", params := fParams (st 38), body := fBody (st 38), scope := fScope (st 38), pos := ⟨354, 0, 362, 61⟩ }
theorem w1 : defOf q rr.name = some (dd, []) := by rfl
theorem w2 : rr.prog.theDef rr.name = some (dd.params, dd.body, dd.scope) := by rfl
theorem w3 : kwWritten? dd.params.kwonlyargs dd.params.kw_defaults = some [] := by rfl
theorem w4 : (!rr.writes || rr.records.isEmpty) = true := by rfl
theorem w0 : PySem.Challenge.rw_pb0451_01.wellSaid = true := by decide +kernel
theorem w5 : rr.wellSaid = true := row_said w0
theorem w6 : (chainsOk q && opensWell rr.prog && (frees rr.toRowW && rr.within.isEmpty)) = true := by decide +kernel
theorem w7 : rr.prog.bare := ⟨rfl, rfl, rfl, rfl, rfl, by decide +kernel⟩
theorem w8 : ∀ s, (fun s => xlAt q [] s && recOk [] s) s = true → RecFacts rr.records s.heap := fun s e => recFacts_of (Bool.and_eq_true_iff.mp e).2
theorem wit : rr.toRowW.promised := by w_witness2
theorem holds_of (hc : WalkO q loose (XL q []) (Hook.says (kmHook KH asH asH_eq [519])) rr.toRowW dd [] fun f vs => call f vs) : PySem.Challenge.rw_pb0451_01.Holds := by
  refine holds_law w0 fun said => ?_
  exact holds_open (q := q) (loose := loose) (Xt := fun s => xlAt q [] s && recOk [] s) (XP := XL q []) (Yf := Hook.obs HK) (Ya := Hook.val HK) (YP := Hook.says HK) (N := 9946) left (Hook.of HK) (Hook.keeps HK)
    (fun s e => xl_of s (Bool.and_eq_true_iff.mp e).1) XL.keeps w1 w2 w3 w8 w4 w5 w6 w7 wit hc

abbrev lawLoose : List Str := looseW q loose ++ List.map (fun x => x.name) (recsOf q) ++ List.map (fun x => x.fst) (litsOf q) ++ List.map (fun x => x.name) (clssOf q (looseW q loose))
abbrev prog0 : Program := PySem.Challenge.rw_pb0451_01.row.prog
abbrev AR (dp un : Nat) (env : Env) (outer : List Env) : Around := { handled := none, depth := dp, frames := some (env :: outer), guards := some [], units := un }

def Kept (mods : List Addr) (h h' : Heap) : Prop := ∀ b o, h.get? b = some o → b ∉ mods → h'.get? b = some o

/-- the addresses of a ledger, no two alike -/
def ND (as : List Addr) : Prop := as.Nodup
theorem ND.nil : ND [] := List.nodup_nil
theorem ND.one (a : Addr) : ND [a] := by unfold ND; simp
theorem ND.ofNews {a : Addr} {as : List Addr} {news : List (Addr × Obj)} (h : ∀ p ∈ news, p.1 < a) (s : ND as) (e : news.map (·.1) = as) : ND (a :: as) := by
  subst e
  refine List.nodup_cons.mpr ⟨fun hb => ?_, s⟩
  obtain ⟨p, hp, e⟩ := List.mem_map.mp hb
  exact absurd e (Nat.ne_of_lt (h p hp))
theorem ND.next {a d : Addr} {as : List Addr} {news : List (Addr × Obj)} (l1 : ∀ p ∈ news, p.1 < d) (l2 : d < a) (s : ND (d :: as)) (e : news.map (·.1) = as) : ND (a :: d :: as) := by
  subst e
  refine List.nodup_cons.mpr ⟨fun hb => ?_, s⟩
  rcases List.mem_cons.mp hb with rfl | hb
  · exact absurd l2 (Nat.lt_irrefl _)
  · obtain ⟨p, hp, e⟩ := List.mem_map.mp hb
    exact absurd e (Nat.ne_of_lt (Nat.lt_trans (l1 p hp) l2))
theorem ND.sub {as bs : List Addr} (s : ND as) (h : bs.Sublist as) : ND bs := List.Nodup.sublist h s
theorem ND.fresh {h₀ h : Heap} {L a : Addr} {as : List Addr} {l : List (Addr × Obj)} (s : ND as) (N : News h₀ L h l) (e : l.map (·.1) = as) (hf : h.get? a = none) : ND (a :: as) := by
  subst e
  refine List.nodup_cons.mpr ⟨fun hb => ?_, s⟩
  obtain ⟨p, hp, rfl⟩ := List.mem_map.mp hb
  rw [(N p hp).1] at hf; cases hf

inductive At (d : Addr) (o o' : Obj) : List (Addr × Obj) → List (Addr × Obj) → Prop
  | head {r} : At d o o' ((d, o) :: r) ((d, o') :: r)
  | tail {p r r'} : At d o o' r r' → At d o o' (p :: r) (p :: r')
theorem At.mem {d : Addr} {o o' : Obj} : ∀ {l l' : List (Addr × Obj)}, At d o o' l l' → d ∈ l.map (·.1)
  | _, _, .head => .head _
  | _, _, .tail h => .tail _ h.mem
theorem upd_sd {d : Addr} {o o' : Obj} {as : List Addr} : ∀ {l l' : List (Addr × Obj)}, At d o o' l l' → ND as → l.map (·.1) = as → Upd d o o' l l' := by
  intro l l' a s e
  subst e
  induction a with
  | head => exact .head fun p hp h => (List.nodup_cons.mp s).1 (List.mem_map.mpr ⟨p, hp, h⟩)
  | tail a ih =>
    refine .tail (fun h => (List.nodup_cons.mp s).1 ?_) (ih (List.nodup_cons.mp s).2)
    have := a.mem
    rw [← h] at this
    exact this
inductive AtF (d : Addr) (o : Obj) : List (Addr × Obj) → (Obj → List (Addr × Obj)) → Prop
  | head {r} : AtF d o ((d, o) :: r) (fun o' => (d, o') :: r)
  | tail {p r g} : AtF d o r g → AtF d o (p :: r) (fun o' => p :: g o')
theorem AtF.mem {d : Addr} {o : Obj} : ∀ {l : List (Addr × Obj)} {g}, AtF d o l g → d ∈ l.map (·.1)
  | _, _, .head => .head _
  | _, _, .tail h => .tail _ h.mem
theorem updF_sd {d : Addr} {o : Obj} {as : List Addr} : ∀ {l : List (Addr × Obj)} {g : Obj → List (Addr × Obj)}, AtF d o l g → ND as → l.map (·.1) = as → UpdF d o l g := by
  intro l g a s e
  subst e
  induction a with
  | head => exact .head fun p hp h => (List.nodup_cons.mp s).1 (List.mem_map.mpr ⟨p, hp, h⟩)
  | tail a ih =>
    refine .tail (fun h => (List.nodup_cons.mp s).1 ?_) (ih (List.nodup_cons.mp s).2)
    have := a.mem
    rw [← h] at this
    exact this
/-- the ledger with some of its objects turned (in the ledger's order) -/
inductive Ats : List (Addr × Obj) → List (Addr × Obj) → List (Addr × Obj) → Prop
  | nil {l} : Ats [] l l
  | hit {d o o' ch r r'} : Ats ch r r' → Ats ((d, o') :: ch) ((d, o) :: r) ((d, o') :: r')
  | skip {p ch r r'} : Ats ch r r' → Ats ch (p :: r) (p :: r')
theorem Ats.sub {ch l l' : List (Addr × Obj)} (h : Ats ch l l') : ∀ p ∈ ch, p.1 ∈ l.map (·.1) := by
  induction h with
  | nil => exact fun _ hp => nomatch hp
  | hit _ ih =>
    intro p hp
    rcases List.mem_cons.mp hp with rfl | hp
    · exact .head _
    · exact .tail _ (ih p hp)
  | skip _ ih => exact fun p hp => .tail _ (ih p hp)
theorem news_ats {h₀ h h' : Heap} {L : Addr} {ch : List (Addr × Obj)} (hc : ∀ p ∈ ch, h'.get? p.1 = some p.2) (k : Kept (ch.map (·.1)) h h') {ch' l l' : List (Addr × Obj)} (a : Ats ch' l l') : (∀ p ∈ ch', p ∈ ch) → (l.map (·.1)).Nodup →
    (∀ p ∈ l, p.1 ∈ ch.map (·.1) → p.1 ∈ ch'.map (·.1)) → News h₀ L h l → News h₀ L h' l' := by
  induction a with
  | nil => exact fun _ _ hr N p hp => ⟨k _ _ (N p hp).1 (fun m => nomatch hr p hp m), (N p hp).2⟩
  | @hit d o o' ch'' r r' h ih =>
    intro hs nd hr N
    have nd' := List.nodup_cons.mp nd
    intro p hp
    rcases List.mem_cons.mp hp with rfl | hp
    · exact ⟨hc _ (hs _ (.head _)), (N (d, o) (.head _)).2⟩
    · refine ih (fun q hq => hs q (.tail _ hq)) nd'.2 (fun q hq hm => ?_) (fun q hq => N q (.tail _ hq)) p hp
      rcases List.mem_cons.mp (hr q (.tail _ hq) hm) with e | e
      · exact absurd (List.mem_map.mpr ⟨q, hq, e⟩) nd'.1
      · exact e
  | @skip p₀ ch'' r r' h ih =>
    intro hs nd hr N
    have nd' := List.nodup_cons.mp nd
    intro p hp
    rcases List.mem_cons.mp hp with rfl | hp
    · exact ⟨k _ _ (N _ (.head _)).1 (fun m => by
        obtain ⟨q, hq, e⟩ := List.mem_map.mp (hr _ (.head _) m)
        have := h.sub q hq
        rw [e] at this
        exact nd'.1 this), (N _ (.head _)).2⟩
    · exact ih hs nd'.2 (fun q hq hm => hr q (.tail _ hq) hm) (fun q hq => N q (.tail _ hq)) p hp
/-- a callee that turned the objects ch alone: the ledger behind it -/
theorem news_back {h₀ h h' : Heap} {L : Addr} {ch l l' : List (Addr × Obj)} {as : List Addr} (N : News h₀ L h l) (a : Ats ch l l') (s : ND as) (e : l.map (·.1) = as) (k : Kept (ch.map (·.1)) h h') (hc : ∀ p ∈ ch, h'.get? p.1 = some p.2) : News h₀ L h' l' := by
  subst e
  exact news_ats hc k a (fun _ h => h) s (fun _ _ h => h) N
theorem with_back {h₀ h h' : Heap} {L : Addr} {ch l l' : List (Addr × Obj)} {as : List Addr} {P : Prop} (N : News h₀ L h l) (s : ND as) (e : l.map (·.1) = as) (k : Kept (ch.map (·.1)) h h') (hc : ∀ p ∈ ch, h'.get? p.1 = some p.2) (a : Ats ch l l') (x : News h₀ L h' l' → P) : P :=
  x (news_back N a s e k hc)
theorem news_kept {h₀ h h' : Heap} {L : Addr} {l : List (Addr × Obj)} {mods : List Addr} (N : News h₀ L h l) (k : Kept mods h h') (hm : ∀ p ∈ l, p.1 ∉ mods) : News h₀ L h' l :=
  fun p hp => ⟨k _ _ (N p hp).1 (hm p hp), (N p hp).2⟩
theorem news_sub {h₀ h : Heap} {L : Addr} {l l' : List (Addr × Obj)} (N : News h₀ L h l) (hs : ∀ p ∈ l', p ∈ l) : News h₀ L h l' := fun p hp => N p (hs p hp)

theorem fresh_of {g h h' : Heap} {L r : Addr} {o : Obj} {l : List (Addr × Obj)} {mods as : List Addr} (HG : ∀ b o, h.get? b = some o → b ∉ mods → g.get? b = some o) (N : News g L h' l) (hm : (r, o) ∈ l) (nd : ND (r :: as)) (hs : ∀ b ∈ mods, b ∈ as) : h.get? r = none := by
  cases q : h.get? r with
  | none => rfl
  | some o' =>
    have := HG r o' q (fun m => (List.nodup_cons.mp nd).1 (hs r m))
    rw [(N _ hm).2.2] at this; cases this
theorem kept_of {g h h' : Heap} {L : Addr} {m : Str → Option Value} {mods : List Addr} (HG : ∀ b o, h.get? b = some o → b ∉ mods → g.get? b = some o) (F : Fr g L h' m) : Kept mods h h' := fun b o e hb => F.keep b o (HG b o e hb)
theorem Kept.drop {h h' : Heap} {a : Addr} {o : Obj} {mods : List Addr} (k : Kept (a :: mods) h h') (h1 : h.get? a = some o) (h2 : h'.get? a = some o) : Kept mods h h' := fun b ob e hb => by
  by_cases q : b = a
  · subst q; rw [h1] at e; cases e; exact h2
  · exact k b ob e fun hm => (List.mem_cons.mp hm).elim q hb
theorem Kept.more {h h' : Heap} {mods mods' : List Addr} (k : Kept mods h h') (hs : ∀ b ∈ mods, b ∈ mods') : Kept mods' h h' := fun b o e hb => k b o e fun hm => hb (hs b hm)
theorem Kept.sel {h h' : Heap} {mods mods' : List Addr} (k : Kept mods h h') (hs : ∀ b ∈ mods, b ∈ mods' ∨ ∃ o, h.get? b = some o ∧ h'.get? b = some o) : Kept mods' h h' := fun b o e hb => by
  by_cases q : b ∈ mods
  · rcases hs b q with h1 | ⟨o', h1, h2⟩
    · exact absurd h1 hb
    · rw [e] at h1; cases h1; exact h2
  · exact k b o e q
theorem ND.ne {a b : Addr} {as : List Addr} (s : ND (a :: b :: as)) : a ≠ b := fun e => (List.nodup_cons.mp s).1 (by rw [e]; exact .head _)
theorem ND.tl {a : Addr} {as : List Addr} (s : ND (a :: as)) : ND as := (List.nodup_cons.mp s).2
theorem Kept.swap {h h' : Heap} {a b : Addr} {mods : List Addr} (k : Kept (a :: b :: mods) h h') : Kept (b :: a :: mods) h h' := k.more fun c hc => by simp only [List.mem_cons] at hc ⊢; rcases hc with h | h | h <;> simp [h]

section
variable {prog : Program} {w : World} {A₀ A : Around} {s : Shared} {base h₀ : Heap} {outer : List Env} {L : Addr} {m : Str → Option Value} {env : Env} {news : List (Addr × Obj)}
  {R : Result → Shared → Prop} {name qual : Str} {params : Arguments} {body : List Stmt} {scope : Scope} {cl : List (Str × Addr)} {dV kV doc pm cdv ct : Value} {an : Option Addr} {fo : Obj} {f : Addr} {args : Args} {binds : List (Str × Value)}
theorem callG (B : Below A₀ base outer h₀) (F : Fr h₀ L s.heap m) (N : News h₀ L s.heap news) (hlim : h₀.NoLimit) (hA : A.frames = some (env :: outer)) (hf : env.frame = some L) (hke : env.scope.kind = .function)
    (ho : s.heap.get? f = some fo) (hd : fo.data = .func (fnX name qual params body scope cl dV kV doc pm an cdv ct)) (hcd : s.heap.CodeRec cdv qual) (hroom : A.depth < recursionLimit)
    (hbind : BindsTo s (fnX name qual params body scope cl dV kV doc pm an cdv ct) args binds) (hloc : ∀ y ∈ binds, scope.names.lookup y.1 = some .local)
    (h : ∀ g L' h₁, (∀ b o, s.heap.get? b = some o → b ∉ news.map (·.1) → g.get? b = some o) → Fr h₀ L g m → Fr g L' h₁ (fun y => binds.reverse.lookup y) → News g L' h₁ news → Below A base (env :: outer) g → h₀.StaysIn g → (∀ p ∈ news, p.1 < L') →
      wpAny (model prog w) (A.deeper (envX qual scope L' f cdv cl)) (execs body (envX qual scope L' f cdv cl))
        (fun fl s' => LeaveK h₀ L m g R (match fl with | .ret v => v | _ => .none) s')
        (fun _ _ => False) { s with heap := h₁, toks := s.toks + binds.length })
    (hcell : ∀ x ∈ scope.names, x.2 ≠ .cell) (hco : scope.isCoroutine = false := by rfl) (hgen : scope.isGenerator = false := by rfl) (hk : scope.kind = .function := by rfl) : codeAny (model prog w) A (.call (.ref f) args) R s := by
  obtain ⟨FG, BG, st, lv⟩ := groundX (R := R) B F N hA hf hke
  refine codeAny_call_def (fd := fnX name qual params body scope cl dV kV doc pm an cdv ct) (body := body) (binds := binds) hroom ho hd (hlim.keeps F.keep) hcd rfl hbind hcell hloc (fun h₁ hns hk₁ => ?_) hco hgen hk
  exact wpAny_mono (h _ s.heap.objs.size h₁ (fun b o e hb => hideAll_get _ e hb) FG ⟨hns, fun b o e => hk₁ b o (of_hideAll _ e), Nat.le_of_eq (hideAll_size _ _)⟩
    (fun p hp => ⟨hk₁ _ _ (N p hp).1, Nat.ne_of_lt (Heap.lt_size (N p hp).1), hideAll_none _ (List.mem_map_of_mem hp)⟩) BG st (fun p hp => Heap.lt_size (N p hp).1)) (fun fl s' hl => lv _ _ hl) fun _ _ y => y.elim
end
structure Cx (w : World) (mean : ExcName → Option Value) (mg mb : Str → Option Value) (A₀ : Around) (base h₀ : Heap) (outer : List Env) (L : Addr) (m : Str → Option Value) (cs : Scope) (h : Heap) : Prop where
  X : (KH w.params).In h₀
  T : Top topProg lawLoose mean mg mb h₀
  B : Below A₀ base outer h₀
  F : Fr h₀ L h m
  k : cs.kind = .function
section
variable {w : World} {mean : ExcName → Option Value} {mg mb : Str → Option Value} {A₀ : Around} {base h₀ : Heap} {outer : List Env} {env : Env} {L : Addr} {m : Str → Option Value} {dp un : Nat} {s : Shared} {news : List (Addr × Obj)}
  {Q : Value → Shared → Prop} {E : Value → Shared → Prop} {name qual : Str} {fs : Stmt} {dV kV doc pm cdv ct oc : Value} {an od : Option Addr} {osl : Array (Option Value)} {f : Addr} {pos : List Value} {binds : List (Str × Value)} {as : List Addr}
/-- a def of KH, called: its body, in a frame of its own; behind it everything but the ledger stands as it stood -/
theorem enter (X : (KH w.params).In h₀) (T : Top topProg lawLoose mean mg mb h₀) (B : Below A₀ base outer h₀) (F : Fr h₀ L s.heap m) (N : News h₀ L s.heap news) (hf : env.frame = some L) (hk : env.scope.kind = .function)
    (ho : (KH w.params).lookup f = some ⟨oc, od, .func (FN name qual fs dV kV doc pm an cdv ct), osl⟩) (hcd : codeIn (KH w.params) cdv qual = true) (hroom : dp < recursionLimit)
    (hbind : BindsTo s (FN name qual fs dV kV doc pm an cdv ct) ⟨pos, []⟩ binds) (hloc : ∀ y ∈ binds, (fScope fs).names.lookup y.1 = some .local) {body : List Stmt} (hb : fBody fs = body)
    (h : ∀ g L' h₁, (∀ b o, s.heap.get? b = some o → b ∉ news.map (·.1) → g.get? b = some o) → Fr h₀ L g m → Fr g L' h₁ (fun y => binds.reverse.lookup y) → News g L' h₁ news → Below (AR dp un env outer) base (env :: outer) g → (KH w.params).In g → Top topProg lawLoose mean mg mb g → (∀ p ∈ news, p.1 < L') →
      wpAny (model prog0 w) (AR (dp + 1) (un + 3) (envOf qual (fScope fs) L' f cdv) (env :: outer)) (execs body (envOf qual (fScope fs) L' f cdv))
        (fun fl s' => LeaveK h₀ L m g (fun r s' => match r with | .ok (.ret v) => Q v s' | .ok _ => False | .error e => E e s') (match fl with | .ret v => v | _ => .none) s')
        (fun _ _ => False) { s with heap := h₁, toks := s.toks + binds.length })
    (hco : (fScope fs).isCoroutine = false) (hgen : (fScope fs).isGenerator = false) (hk' : (fScope fs).kind = .function)
    (hcell : ∀ x ∈ (fScope fs).names, x.2 ≠ .cell) : wpAny (model prog0 w) (AR dp un env outer) (call (.ref f) pos) Q E s := by
  subst hb
  refine wpAny_call (callG B F N T.nolimit rfl hf hk ((X.keeps F.keep) _ _ ho) rfl (codeRec_of (X.keeps F.keep) hcd) hroom hbind hloc (fun g L' h₁ z a b c d e t => ?_) hcell hco hgen hk')
  exact wpAny_mono (h g L' h₁ z a b c d (X.keeps e) (T.keeps e) t) (fun _ _ x => x) fun _ _ x => x.elim
end

set_option compiler.extract_closed false
local macro_rules | `(tactic| walk_at $s:str) => `(tactic| k_extra $s)
local macro_rules | `(tactic| k_upd) => `(tactic| k_extra "M k_upd")
local macro_rules | `(tactic| k_updF) => `(tactic| k_extra "M k_updF")
local macro_rules | `(tactic| k_lt $h) => `(tactic| (rename ND _ => hS; have hS2 := ND.ofNews $h hS rfl))
local macro_rules | `(tactic| k_lt2 $h) => `(tactic| (rename ND _ => hS; have hS2 := ND.next (by assumption) $h hS rfl))
local macro_rules | `(tactic| kn_among) => `(tactic| k_extra "M kn_among")
local macro_rules | `(tactic| kn_triples) => `(tactic| k_extra "M kn_triples")
local macro_rules | `(tactic| k_room) => `(tactic| k_extra "M k_room")
local macro_rules | `(tactic| ktu_off) => `(tactic| k_extra "M ktu_off")
local macro_rules | `(tactic| k_offL) => `(tactic| k_extra "M k_offL")
local macro_rules | `(tactic| lcg_off) => `(tactic| k_extra "M lcg_off")
local macro_rules | `(tactic| k_upd) => `(tactic| walk_at "M k_upd")
local macro_rules | `(tactic| k_updF) => `(tactic| walk_at "M k_updF")
local macro_rules | `(tactic| kn_among) => `(tactic| walk_at "M kn_among")
local macro_rules | `(tactic| kn_triples) => `(tactic| walk_at "M kn_triples")
local macro_rules | `(tactic| k_room) => `(tactic| walk_at "M k_room")
local macro_rules | `(tactic| ktu_off) => `(tactic| walk_at "M ktu_off")
theorem fillIt1 : PySem.Challenge.rw_pb0451_01 = PySem.Challenge.rw_pb0451_01 ∧ KH = KH := by k_fill; exact ⟨rfl, rfl⟩
theorem klines_C1_0 : True := by
  k_with_none
  (k_with "subscriptTail Name Constant ref int" => ((k_here; (with_reducible show wpAny _ _ (subscriptTail _ _ (Value.ref _) (Value.int _ _)) _ _ _); (with_unfolding_all refine' item_litK ?z73ea9d_k1 ?z73ea9d_k2 ?z73ea9d_k3 ?z73ea9d_k4 ?_ ?z73ea9d_k6; (case z73ea9d_k1 => is_list); (case z73ea9d_k2 => decide); (case z73ea9d_k3 => decide); (case z73ea9d_k4 => rfl); (case z73ea9d_k6 => with_unfolding_all rfl); k_whole))))
  (k_with "ENTER" => (((case k6 => k_is); (case k7 => k_is); (case k8 => omega); (case k9 => exact BindsTo.of_eq rfl); (case kB => (conv => lhs; whnf)); (case kL => exact locs rfl); (case c2 => exact rfl); (case c3 => exact rfl); (case c4 => exact rfl); (case c5 => decide); intro g' L' h' HG' FG' F' N' B' X' T' l'; (try dsimp only); k_fold)))
  (k_with "GO" => (repeat' (first | (k_unfold; (try dsimp only)) | (k_end; wrow_close) | walk1 | (dsimp only; walk1))))
  (k_with "ATF" => (first | refine' AtF.head | (refine' AtF.tail ?zaeb911_b; (case zaeb911_b => k_extra "ATF"))))
  (k_with "AT" => (first | refine' At.head | (refine' At.tail ?z4c4c10_b; (case z4c4c10_b => k_extra "AT"))))
  (k_with "M k_upd" => ((rename ND _ => hS; refine' upd_sd ?z531fe4_a hS ?z531fe4_e; (case z531fe4_a => k_extra "AT"); (case z531fe4_e => rfl))))
  (k_with "M k_updF" => ((rename ND _ => hS; refine' updF_sd ?zc7fe0e_a hS ?zc7fe0e_e; (case zc7fe0e_a => k_extra "ATF"); (case zc7fe0e_e => rfl))))
  (k_with "M kn_among" => ((simp [codeAmong, rawInt]; done)))
  (k_with "M kn_triples" => ((simp [TriplesOk, rawInt]; done)))
  (k_with "M k_room" => ((first | omega | ((try simp only [depth_mark, depth_under_make, depth_under_kw, depth_in1, depth_deeper, depth_caller]); omega))))
  trivial
section
variable {w : World} {mean : ExcName → Option Value} {mg mb : Str → Option Value} {A₀ : Around} {base h₀ : Heap} {outer : List Env} {cn : Str} {cs : Scope} {L ea : Addr} {ccd : Value} {cl : List (Str × Addr)} {m : Str → Option Value} {dp un : Nat} {s : Shared} {Q : Value → Shared → Prop} {E : Value → Shared → Prop}

theorem take_c {src : Addr} {a b top : Int} {ta tb tt n : Nat} (C : Cx w mean mg mb A₀ base h₀ outer L m cs s.heap)
    (N : News h₀ L s.heap [(src, listOf #[.int a ta, .int b tb] n)])
    (ha : 0 ≤ a) (hb : 0 ≤ b) (hb' : b < 2147483647) (h0 : 0 < top) (h1 : top ≤ 30) (hd : dp + 5 < recursionLimit)
    (k : ∀ (d a' b' : Int) (td ta' tb' n' tk : Nat) h', 0 ≤ d → d < top → 0 ≤ a' → 0 ≤ b' → b' < 2147483647 → Fr h₀ L h' m → h'.get? src = some (listOf #[.int a' ta', .int b' tb'] n') → Kept [src] s.heap h' → Q (.int d td) { s with heap := h', toks := tk }) :
    wpAny (model prog0 w) (AR dp un (envX cn cs L ea ccd cl) outer) (call (.ref 503) [.ref src, .int top tt]) Q E s := by
  have e1 := Int.fmod_nonneg_of_pos (b * 39373 + 7) (b := 2147483647) (by decide)
  have e2 := Int.fmod_lt_of_pos (b * 39373 + 7) (b := 2147483647) (by decide)
  have S := ND.one src
  obtain ⟨X, T, B, F, hk⟩ := C
  refine' enter (binds := [(("source" : Str), .ref src), (("top" : Str), .int top tt)]) X T B F N rfl hk ?k6 ?k7 ?k8 ?k9 ?kL ?kB ?_ ?c2 ?c3 ?c4 ?c5
  k_extra "ENTER"
  k_extra "GO"
  all_goals (rename Fr h₀ L _ m => hF; rename News h₀ L _ _ => hN; have hK := kept_of (by assumption) (by assumption))
  · exact k _ _ _ _ _ _ _ _ _ (Int.fmod_nonneg_of_pos _ h0) (Int.fmod_lt_of_pos _ h0) (Int.fdiv_nonneg ha (by omega)) hb hb' hF (hN _ (.head _)).1 hK
  · exact k _ _ _ _ _ _ _ _ _ (Int.fmod_nonneg_of_pos _ h0) (Int.fmod_lt_of_pos _ h0) ha e1 e2 hF (hN _ (.head _)).1 hK
end

theorem fillIt3 : PySem.Challenge.rw_pb0451_01 = PySem.Challenge.rw_pb0451_01 ∧ KH = KH := by k_fill; exact ⟨rfl, rfl⟩
theorem klines_C3_0 : True := by
  k_with_none
  (k_with "subscriptTail Name Constant ref int" => ((k_here; (with_reducible show wpAny _ _ (subscriptTail _ _ (Value.ref _) (Value.int _ _)) _ _ _); (with_unfolding_all refine' item_litK ?z73ea9d_k1 ?z73ea9d_k2 ?z73ea9d_k3 ?z73ea9d_k4 ?_ ?z73ea9d_k6; (case z73ea9d_k1 => is_list); (case z73ea9d_k2 => decide); (case z73ea9d_k3 => decide); (case z73ea9d_k4 => rfl); (case z73ea9d_k6 => with_unfolding_all rfl); k_whole))))
  (k_with "ENTER" => (((case k6 => k_is); (case k7 => k_is); (case k8 => omega); (case k9 => exact BindsTo.of_eq rfl); (case kB => (conv => lhs; whnf)); (case kL => exact locs rfl); (case c2 => exact rfl); (case c3 => exact rfl); (case c4 => exact rfl); (case c5 => decide); intro g' L' h' HG' FG' F' N' B' X' T' l'; (try dsimp only); k_fold)))
  (k_with "GO" => (repeat' (first | (k_unfold; (try dsimp only)) | (k_end; wrow_close) | walk1 | (dsimp only; walk1))))
  (k_with "ATF" => (first | refine' AtF.head | (refine' AtF.tail ?zaeb911_b; (case zaeb911_b => k_extra "ATF"))))
  (k_with "AT" => (first | refine' At.head | (refine' At.tail ?z4c4c10_b; (case z4c4c10_b => k_extra "AT"))))
  (k_with "M k_upd" => ((rename ND _ => hS; refine' upd_sd ?z531fe4_a hS ?z531fe4_e; (case z531fe4_a => k_extra "AT"); (case z531fe4_e => rfl))))
  (k_with "M k_updF" => ((rename ND _ => hS; refine' updF_sd ?zc7fe0e_a hS ?zc7fe0e_e; (case zc7fe0e_a => k_extra "ATF"); (case zc7fe0e_e => rfl))))
  (k_with "M kn_among" => ((simp [codeAmong, rawInt]; done)))
  (k_with "M kn_triples" => ((simp [TriplesOk, rawInt]; done)))
  (k_with "M k_room" => ((first | omega | ((try simp only [depth_mark, depth_under_make, depth_under_kw, depth_in1, depth_deeper, depth_caller]); omega))))
  (k_with "SUB" => (first | exact List.forall_mem_nil _ | (refine' List.forall_mem_cons.mpr ⟨?z3be472_h, ?z3be472_t⟩; (case z3be472_h => k_mem); (case z3be472_t => k_extra "SUB"))))
  (k_with "ATS" => (first | refine' Ats.nil | (refine' Ats.hit ?z9e6f72_b; (case z9e6f72_b => k_extra "ATS")) | (refine' Ats.skip ?z9e6f72_b; (case z9e6f72_b => k_extra "ATS"))))
  (k_with "CX" => ((refine' ⟨?za4188e_x1, ?za4188e_x2, ?za4188e_x3, ?za4188e_x4, ?za4188e_x5⟩; (case za4188e_x1 => k_asm); (case za4188e_x2 => k_asm); (case za4188e_x3 => k_asm); (case za4188e_x4 => k_asm); (case za4188e_x5 => first | rfl | assumption))))
  (k_with "NSUB" => ((refine' news_sub ?za7b379_N ?za7b379_s; (case za7b379_N => k_asm); (case za7b379_s => k_extra "SUB"))))
  trivial
section
variable {w : World} {mean : ExcName → Option Value} {mg mb : Str → Option Value} {A₀ : Around} {base h₀ : Heap} {outer : List Env} {cn : Str} {cs : Scope} {L ea : Addr} {ccd : Value} {cl : List (Str × Addr)} {m : Str → Option Value} {dp un : Nat} {s : Shared} {Q : Value → Shared → Prop} {E : Value → Shared → Prop}
theorem klines_C3_1 : True := by
  (k_with "call ref" => (((with_reducible show wpAny _ _ (call (Value.ref 503) _) _ _ _); k_dflt (refine' take_c ?z2083a0_c ?z2083a0_n ?z2083a0_a ?z2083a0_b ?z2083a0_b2 ?z2083a0_t1 ?z2083a0_t2 ?z2083a0_d ?_; (case z2083a0_c => k_extra "CX"); (case z2083a0_n => k_extra "NSUB"); (case z2083a0_a => assumption); (case z2083a0_b => assumption); (case z2083a0_b2 => assumption); (case z2083a0_t1 => omega); (case z2083a0_t2 => omega); (case z2083a0_d => omega); intro d' a' b' td' ta' tb' n' tk' h' h1' h2' h3' h4' h5' F' hs' hK'; rename ND _ => hS; (rename News _ _ _ _ => oN); refine' with_back (ch := [(_, _)]) oN hS rfl hK' (List.forall_mem_cons.mpr ⟨hs', List.forall_mem_nil _⟩) ?z2083a0_at' ?_; (case z2083a0_at' => k_extra "ATS"); intro N'; clear oN hK' hs'))))
  trivial
theorem len_m {A : Around} {h₀' : Heap} {L' : Addr} {led : List (Addr × Obj)} {th : Addr} {vs : List Value} {n2 : Nat} {prog : Program} (N : News h₀' L' s.heap led) (hm : (th, listOf vs.toArray n2) ∈ led) (hz : vs.length < 2 ^ 62) (h : Q (.int vs.length (s.toks + 1)) { s with toks := s.toks + 1 + 1 }) :
    wpAny (model prog w) A (call (.builtin "len") [.ref th]) Q E s := by
  refine Calls.call_len_list (News.isList N hm) (by simp; omega) ?_
  simpa using h
theorem item_m {A : Around} {h₀' : Heap} {L' : Addr} {led : List (Addr × Obj)} {value slice : PySem.Expr} {l : Addr} {vs : List Value} {k : Int} {u : Tok} {n : Nat} {prog : Program} (N : News h₀' L' s.heap led) (hm : (l, listOf vs.toArray n) ∈ led) (h0 : 0 ≤ k) (hk : k < vs.length) (hz : vs.length < 2 ^ 62)
    (hs : subscripted slice false (.ref l) (.int k u) = operate [.ref l, .int k u] (getItem (.ref l) (.int k u))) (h : ∀ v, vs[k.toNat]? = some v → Q v s) :
    wpAny (model prog w) A (subscriptTail value slice (.ref l) (.int k u)) Q E s := by
  have hx : vs[k.toNat]? = some vs[k.toNat] := List.getElem?_eq_getElem (by omega)
  exact item_litK (News.isList N hm) h0 (by omega) hx (h _ hx) hs
theorem klines_C3_2 : True := by
  (k_with "subscriptTail" => ((k_here; k_dflt (refine' item_m ?zb74235_N ?zb74235_m ?zb74235_a ?zb74235_b ?zb74235_z ?zb74235_s ?_; (case zb74235_N => k_asm); (case zb74235_m => k_mem); (case zb74235_a => omega); (case zb74235_b => omega); (case zb74235_z => omega); (case zb74235_s => with_unfolding_all rfl); intro v' hv'))))
  (k_with "call builtin:len" => ((k_here; refine' len_m ?z9bcdd3_N ?z9bcdd3_m ?z9bcdd3_z ?_; (case z9bcdd3_N => k_asm); (case z9bcdd3_m => k_mem); (case z9bcdd3_z => omega))))
  trivial
theorem one_c {src th : Addr} {a b : Int} {vs : List Value} {ta tb n n2 : Nat} (C : Cx w mean mg mb A₀ base h₀ outer L m cs s.heap)
    (N : News h₀ L s.heap [(th, listOf vs.toArray n2), (src, listOf #[.int a ta, .int b tb] n)]) (S : ND [th, src])
    (ha : 0 ≤ a) (hb : 0 ≤ b) (hb' : b < 2147483647) (h0 : 0 < vs.length) (h1 : vs.length ≤ 30) (hd : dp + 8 < recursionLimit)
    (k : ∀ (i : Nat) v (a' b' : Int) (ta' tb' n' tk : Nat) h', vs[i]? = some v → 0 ≤ a' → 0 ≤ b' → b' < 2147483647 → Fr h₀ L h' m → h'.get? src = some (listOf #[.int a' ta', .int b' tb'] n') → Kept [src] s.heap h' → Q v { s with heap := h', toks := tk }) :
    wpAny (model prog0 w) (AR dp un (envX cn cs L ea ccd cl) outer) (call (.ref 510) [.ref src, .ref th]) Q E s := by
  obtain ⟨X, T, B, F, hk⟩ := C
  refine' enter (binds := [(("source" : Str), .ref src), (("things" : Str), .ref th)]) X T B F N rfl hk ?k6 ?k7 ?k8 ?k9 ?kL ?kB ?_ ?c2 ?c3 ?c4 ?c5
  k_extra "ENTER"
  k_extra "GO"
  rename Fr h₀ L _ m => hF; rename News h₀ L _ _ => hN; have hK := kept_of (by assumption) (by assumption)
  exact k _ _ _ _ _ _ _ _ _ (by assumption) (by assumption) (by assumption) (by assumption) hF (hN _ (.tail _ (.head _))).1 (hK.drop (N _ (.head _)).1 (hN _ (.head _)).1)
end

theorem fillIt4 : PySem.Challenge.rw_pb0451_01 = PySem.Challenge.rw_pb0451_01 ∧ KH = KH := by k_fill; exact ⟨rfl, rfl⟩
theorem klines_C4_0 : True := by
  k_with_none
  (k_with "subscriptTail Name Constant ref int" => ((k_here; (with_reducible show wpAny _ _ (subscriptTail _ _ (Value.ref _) (Value.int _ _)) _ _ _); (with_unfolding_all refine' item_litK ?z73ea9d_k1 ?z73ea9d_k2 ?z73ea9d_k3 ?z73ea9d_k4 ?_ ?z73ea9d_k6; (case z73ea9d_k1 => is_list); (case z73ea9d_k2 => decide); (case z73ea9d_k3 => decide); (case z73ea9d_k4 => rfl); (case z73ea9d_k6 => with_unfolding_all rfl); k_whole))))
  (k_with "ENTER" => (((case k6 => k_is); (case k7 => k_is); (case k8 => omega); (case k9 => exact BindsTo.of_eq rfl); (case kB => (conv => lhs; whnf)); (case kL => exact locs rfl); (case c2 => exact rfl); (case c3 => exact rfl); (case c4 => exact rfl); (case c5 => decide); intro g' L' h' HG' FG' F' N' B' X' T' l'; (try dsimp only); k_fold)))
  (k_with "GO" => (repeat' (first | (k_unfold; (try dsimp only)) | (k_end; wrow_close) | walk1 | (dsimp only; walk1))))
  (k_with "ATF" => (first | refine' AtF.head | (refine' AtF.tail ?zaeb911_b; (case zaeb911_b => k_extra "ATF"))))
  (k_with "AT" => (first | refine' At.head | (refine' At.tail ?z4c4c10_b; (case z4c4c10_b => k_extra "AT"))))
  (k_with "M k_upd" => ((rename ND _ => hS; refine' upd_sd ?z531fe4_a hS ?z531fe4_e; (case z531fe4_a => k_extra "AT"); (case z531fe4_e => rfl))))
  (k_with "M k_updF" => ((rename ND _ => hS; refine' updF_sd ?zc7fe0e_a hS ?zc7fe0e_e; (case zc7fe0e_a => k_extra "ATF"); (case zc7fe0e_e => rfl))))
  (k_with "M kn_among" => ((simp [codeAmong, rawInt]; done)))
  (k_with "M kn_triples" => ((simp [TriplesOk, rawInt]; done)))
  (k_with "M k_room" => ((first | omega | ((try simp only [depth_mark, depth_under_make, depth_under_kw, depth_in1, depth_deeper, depth_caller]); omega))))
  (k_with "SUB" => (first | exact List.forall_mem_nil _ | (refine' List.forall_mem_cons.mpr ⟨?z3be472_h, ?z3be472_t⟩; (case z3be472_h => k_mem); (case z3be472_t => k_extra "SUB"))))
  (k_with "ATS" => (first | refine' Ats.nil | (refine' Ats.hit ?z9e6f72_b; (case z9e6f72_b => k_extra "ATS")) | (refine' Ats.skip ?z9e6f72_b; (case z9e6f72_b => k_extra "ATS"))))
  (k_with "CX" => ((refine' ⟨?za4188e_x1, ?za4188e_x2, ?za4188e_x3, ?za4188e_x4, ?za4188e_x5⟩; (case za4188e_x1 => k_asm); (case za4188e_x2 => k_asm); (case za4188e_x3 => k_asm); (case za4188e_x4 => k_asm); (case za4188e_x5 => first | rfl | assumption))))
  (k_with "NSUB" => ((refine' news_sub ?za7b379_N ?za7b379_s; (case za7b379_N => k_asm); (case za7b379_s => k_extra "SUB"))))
  trivial
section
variable {w : World} {mean : ExcName → Option Value} {mg mb : Str → Option Value} {A₀ : Around} {base h₀ : Heap} {outer : List Env} {cn : Str} {cs : Scope} {L ea : Addr} {ccd : Value} {cl : List (Str × Addr)} {m : Str → Option Value} {dp un : Nat} {s : Shared} {Q : Value → Shared → Prop} {E : Value → Shared → Prop}

theorem noted_c {asked : Addr} {vs : List Value} {row answer : Value} {n : Nat} (C : Cx w mean mg mb A₀ base h₀ outer L m cs s.heap)
    (N : News h₀ L s.heap [(asked, listOf vs.toArray n)]) (hz : vs.length ≤ 1000) (hd : dp + 5 < recursionLimit)
    (k : ∀ (n' tk : Nat) h', Fr h₀ L h' m → h'.get? asked = some (listOf (vs ++ [row]).toArray n') → Kept [asked] s.heap h' → Q answer { s with heap := h', toks := tk }) :
    wpAny (model prog0 w) (AR dp un (envX cn cs L ea ccd cl) outer) (call (.ref 517) [.ref asked, row, answer]) Q E s := by
  have S := ND.one asked
  obtain ⟨X, T, B, F, hk⟩ := C
  refine' enter (binds := [(("asked" : Str), .ref asked), (("row" : Str), row), (("answer" : Str), answer)]) X T B F N rfl hk ?k6 ?k7 ?k8 ?k9 ?kL ?kB ?_ ?c2 ?c3 ?c4 ?c5
  k_extra "ENTER"
  k_extra "GO"
  rename Fr h₀ L _ m => hF; rename News h₀ L _ _ => hN; have hK := kept_of (by assumption) (by assumption)
  have e := (hN _ (.head _)).1
  rw [List.push_toArray] at e
  exact k _ _ _ hF e hK
end

theorem fillIt5 : PySem.Challenge.rw_pb0451_01 = PySem.Challenge.rw_pb0451_01 ∧ KH = KH := by k_fill; exact ⟨rfl, rfl⟩
theorem klines_C5_0 : True := by
  k_with_none
  (k_with "subscriptTail Name Constant ref int" => ((k_here; (with_reducible show wpAny _ _ (subscriptTail _ _ (Value.ref _) (Value.int _ _)) _ _ _); (with_unfolding_all refine' item_litK ?z73ea9d_k1 ?z73ea9d_k2 ?z73ea9d_k3 ?z73ea9d_k4 ?_ ?z73ea9d_k6; (case z73ea9d_k1 => is_list); (case z73ea9d_k2 => decide); (case z73ea9d_k3 => decide); (case z73ea9d_k4 => rfl); (case z73ea9d_k6 => with_unfolding_all rfl); k_whole))))
  (k_with "ENTER" => (((case k6 => k_is); (case k7 => k_is); (case k8 => omega); (case k9 => exact BindsTo.of_eq rfl); (case kB => (conv => lhs; whnf)); (case kL => exact locs rfl); (case c2 => exact rfl); (case c3 => exact rfl); (case c4 => exact rfl); (case c5 => decide); intro g' L' h' HG' FG' F' N' B' X' T' l'; (try dsimp only); k_fold)))
  (k_with "GO" => (repeat' (first | (k_unfold; (try dsimp only)) | (k_end; wrow_close) | walk1 | (dsimp only; walk1))))
  (k_with "ATF" => (first | refine' AtF.head | (refine' AtF.tail ?zaeb911_b; (case zaeb911_b => k_extra "ATF"))))
  (k_with "AT" => (first | refine' At.head | (refine' At.tail ?z4c4c10_b; (case z4c4c10_b => k_extra "AT"))))
  (k_with "M k_upd" => ((rename ND _ => hS; refine' upd_sd ?z531fe4_a hS ?z531fe4_e; (case z531fe4_a => k_extra "AT"); (case z531fe4_e => rfl))))
  (k_with "M k_updF" => ((rename ND _ => hS; refine' updF_sd ?zc7fe0e_a hS ?zc7fe0e_e; (case zc7fe0e_a => k_extra "ATF"); (case zc7fe0e_e => rfl))))
  (k_with "M kn_among" => ((simp [codeAmong, rawInt]; done)))
  (k_with "M kn_triples" => ((simp [TriplesOk, rawInt]; done)))
  (k_with "M k_room" => ((first | omega | ((try simp only [depth_mark, depth_under_make, depth_under_kw, depth_in1, depth_deeper, depth_caller]); omega))))
  (k_with "SUB" => (first | exact List.forall_mem_nil _ | (refine' List.forall_mem_cons.mpr ⟨?z3be472_h, ?z3be472_t⟩; (case z3be472_h => k_mem); (case z3be472_t => k_extra "SUB"))))
  (k_with "ATS" => (first | refine' Ats.nil | (refine' Ats.hit ?z9e6f72_b; (case z9e6f72_b => k_extra "ATS")) | (refine' Ats.skip ?z9e6f72_b; (case z9e6f72_b => k_extra "ATS"))))
  (k_with "CX" => ((refine' ⟨?za4188e_x1, ?za4188e_x2, ?za4188e_x3, ?za4188e_x4, ?za4188e_x5⟩; (case za4188e_x1 => k_asm); (case za4188e_x2 => k_asm); (case za4188e_x3 => k_asm); (case za4188e_x4 => k_asm); (case za4188e_x5 => first | rfl | assumption))))
  (k_with "NSUB" => ((refine' news_sub ?za7b379_N ?za7b379_s; (case za7b379_N => k_asm); (case za7b379_s => k_extra "SUB"))))
  (k_with "getMethod ref" => ((k_here; (with_reducible show wpAny _ _ (getMethod (Value.ref _) (Str.ofString "get") _) _ _ _); k_dflt (refine' kdg_method (knd := intKind prog0 _) ?z1e447a_N ?z1e447a_m ?z1e447a_d ?_; (case z1e447a_N => k_asm); (case z1e447a_m => k_mem); (case z1e447a_d => assumption)))))
  (k_with "call builtin:dict.get" => ((k_here; k_dflt (refine' kdg_get1 (knd := intKind prog0 _) ?z9e4d13_N ?z9e4d13_m ?z9e4d13_d ?z9e4d13_l ?z9e4d13_k _ rfl ?_; (case z9e4d13_N => k_asm); (case z9e4d13_m => k_mem); (case z9e4d13_d => assumption); (case z9e4d13_l => assumption); (case z9e4d13_k => exact intKind_is _ _ _ _)))))
  trivial
abbrev coreD (P : Params) (t1 t2 t3 : Nat) (bnd once : Value) (regs : Addr) : List DictEntry := [KE P "bound" t1 bnd, KE P "registers" t2 (.ref regs), KE P "once" t3 once]
section
variable {w : World} {mean : ExcName → Option Value} {mg mb : Str → Option Value} {A₀ : Around} {base h₀ : Heap} {outer : List Env} {cn : Str} {cs : Scope} {L ea : Addr} {ccd : Value} {cl : List (Str × Addr)} {m : Str → Option Value} {dp un : Nat} {s : Shared} {Q : Value → Shared → Prop} {E : Value → Shared → Prop}

theorem set_m {A : Around} {d : Addr} {o : Obj} {kvs : List (Int × Value)} {k : Int} {u : Tok} {v : Value} {led : List (Addr × Obj)} {g : Obj → List (Addr × Obj)} {Q : Unit → Shared → Prop} (F : Fr h₀ L s.heap m) (N : News h₀ L s.heap led) (U : UpdF d o led g)
    (hd : o.IsDictOf (intKind prog0 w) kvs) (hz : kvs.length ≤ 1000) (h : ∀ h' o', Fr h₀ L h' m → News h₀ L h' (g o') → o'.IsDictOf (intKind prog0 w) (stored kvs k v) → Q () { s with heap := h', toks := s.toks + 1 }) :
    wpAny (model prog0 w) A (setItem (.ref d) (.int k u) v) Q E s := by
  obtain ⟨own, rest, rfl, hg, h1, h2⟩ := U.split
  have hmem := N (d, o) (List.mem_append_right _ (.head _))
  refine wpAny_setItem_pairs (knd := intKind prog0 w) (intKind_is _ _ _ _) (Heap.dictOf_iff.mpr ⟨o, hmem.1, hd⟩) (fun h' hd' hs => ?_) (Nat.le_trans hz (by decide))
  obtain ⟨o', ho', hd'⟩ := Heap.dictOf_iff.mp hd'
  refine h h' o' ⟨F.ns.sameBut hs (Ne.symm hmem.2.1), fun b ob e => (hs.2 b (fun q => ?_)).trans (F.keep b ob e), F.above⟩ (hg o' ▸ N.setAt h1 h2 hs ho') hd'
  rw [q, hmem.2.2] at e; cases e
theorem klines_C5_1 : True := by
  (k_with "setItem ref int" => ((k_here; k_dflt (refine' set_m ?z369b34_F ?z369b34_N ?z369b34_U ?z369b34_d ?z369b34_z ?_; (case z369b34_F => k_asm); (case z369b34_N => k_asm); (case z369b34_U => k_updF); (case z369b34_d => assumption); (case z369b34_z => assumption); intro h' o' F' N' hd'; (try dsimp only at N')))))
  trivial
theorem get_c {core cd regs : Addr} {ro : Obj} {t1 t2 t3 : Nat} {bnd once : Value} {r : Int} {rt : Nat} {kvs : List (Int × Value)} (C : Cx w mean mg mb A₀ base h₀ outer L m cs s.heap)
    (N : News h₀ L s.heap [(core, instObj 391 cd), (cd, dictOf (coreD w.params t1 t2 t3 bnd once regs) 3), (regs, ro)]) (S : ND [core, cd, regs]) (hr : ro.IsDictOf (intKind prog0 w) kvs) (hsm : (regs == sysModules) = false) (hd : dp + 5 < recursionLimit)
    (k : ∀ (tk : Nat) h', Fr h₀ L h' m → Kept [] s.heap h' → Q ((valueAt kvs r).getD .none) { s with heap := h', toks := tk }) :
    wpAny (model prog0 w) (AR dp un (envX cn cs L ea ccd cl) outer) (call (.ref 348) [.ref core, .int r rt]) Q E s := by
  obtain ⟨X, T, B, F, hk⟩ := C
  refine' enter (binds := [(("self" : Str), .ref core), (("register" : Str), .int r rt)]) X T B F N rfl hk ?k6 ?k7 ?k8 ?k9 ?kL ?kB ?_ ?c2 ?c3 ?c4 ?c5
  k_extra "ENTER"
  k_extra "GO"
  rename Fr h₀ L _ m => hF; rename News h₀ L _ _ => hN; have hK := kept_of (by assumption) (by assumption)
  exact k _ _ hF (((hK.drop (N _ (.head _)).1 (hN _ (.head _)).1).drop (N _ (.tail _ (.head _))).1 (hN _ (.tail _ (.head _))).1).drop (N _ (.tail _ (.tail _ (.head _)))).1 (hN _ (.tail _ (.tail _ (.head _)))).1)
theorem put_c {core cd regs : Addr} {ro : Obj} {t1 t2 t3 : Nat} {bnd once v : Value} {r : Int} {rt : Nat} {kvs : List (Int × Value)} (C : Cx w mean mg mb A₀ base h₀ outer L m cs s.heap)
    (N : News h₀ L s.heap [(core, instObj 391 cd), (cd, dictOf (coreD w.params t1 t2 t3 bnd once regs) 3), (regs, ro)]) (S : ND [core, cd, regs]) (hr : ro.IsDictOf (intKind prog0 w) kvs) (hz : kvs.length ≤ 1000) (hd : dp + 5 < recursionLimit)
    (k : ∀ (ro' : Obj) (tk : Nat) h', Fr h₀ L h' m → h'.get? regs = some ro' → ro'.IsDictOf (intKind prog0 w) (stored kvs r v) → Kept [regs] s.heap h' → Q .none { s with heap := h', toks := tk }) :
    wpAny (model prog0 w) (AR dp un (envX cn cs L ea ccd cl) outer) (call (.ref 355) [.ref core, .int r rt, v]) Q E s := by
  obtain ⟨X, T, B, F, hk⟩ := C
  refine' enter (binds := [(("self" : Str), .ref core), (("register" : Str), .int r rt), (("value" : Str), v)]) X T B F N rfl hk ?k6 ?k7 ?k8 ?k9 ?kL ?kB ?_ ?c2 ?c3 ?c4 ?c5
  k_extra "ENTER"
  k_extra "GO"
  rename Fr h₀ L _ m => hF; rename News h₀ L _ _ => hN; have hK := kept_of (by assumption) (by assumption)
  exact k _ _ _ hF (hN _ (.tail _ (.tail _ (.head _)))).1 (by assumption) ((hK.drop (N _ (.head _)).1 (hN _ (.head _)).1).drop (N _ (.tail _ (.head _))).1 (hN _ (.tail _ (.head _))).1)
end

theorem fillIt6 : PySem.Challenge.rw_pb0451_01 = PySem.Challenge.rw_pb0451_01 ∧ KH = KH := by k_fill; exact ⟨rfl, rfl⟩
theorem klines_C6_0 : True := by
  k_with_none
  (k_with "subscriptTail Name Constant ref int" => ((k_here; (with_reducible show wpAny _ _ (subscriptTail _ _ (Value.ref _) (Value.int _ _)) _ _ _); (with_unfolding_all refine' item_litK ?z73ea9d_k1 ?z73ea9d_k2 ?z73ea9d_k3 ?z73ea9d_k4 ?_ ?z73ea9d_k6; (case z73ea9d_k1 => is_list); (case z73ea9d_k2 => decide); (case z73ea9d_k3 => decide); (case z73ea9d_k4 => rfl); (case z73ea9d_k6 => with_unfolding_all rfl); k_whole))))
  (k_with "ENTER" => (((case k6 => k_is); (case k7 => k_is); (case k8 => omega); (case k9 => exact BindsTo.of_eq rfl); (case kB => (conv => lhs; whnf)); (case kL => exact locs rfl); (case c2 => exact rfl); (case c3 => exact rfl); (case c4 => exact rfl); (case c5 => decide); intro g' L' h' HG' FG' F' N' B' X' T' l'; (try dsimp only); k_fold)))
  (k_with "GO" => (repeat' (first | (k_unfold; (try dsimp only)) | (k_end; wrow_close) | walk1 | (dsimp only; walk1))))
  (k_with "ATF" => (first | refine' AtF.head | (refine' AtF.tail ?zaeb911_b; (case zaeb911_b => k_extra "ATF"))))
  (k_with "AT" => (first | refine' At.head | (refine' At.tail ?z4c4c10_b; (case z4c4c10_b => k_extra "AT"))))
  (k_with "M k_upd" => ((rename ND _ => hS; refine' upd_sd ?z531fe4_a hS ?z531fe4_e; (case z531fe4_a => k_extra "AT"); (case z531fe4_e => rfl))))
  (k_with "M k_updF" => ((rename ND _ => hS; refine' updF_sd ?zc7fe0e_a hS ?zc7fe0e_e; (case zc7fe0e_a => k_extra "ATF"); (case zc7fe0e_e => rfl))))
  (k_with "M kn_among" => ((simp [codeAmong, rawInt]; done)))
  (k_with "M kn_triples" => ((simp [TriplesOk, rawInt]; done)))
  (k_with "M k_room" => ((first | omega | ((try simp only [depth_mark, depth_under_make, depth_under_kw, depth_in1, depth_deeper, depth_caller]); omega))))
  (k_with "SUB" => (first | exact List.forall_mem_nil _ | (refine' List.forall_mem_cons.mpr ⟨?z3be472_h, ?z3be472_t⟩; (case z3be472_h => k_mem); (case z3be472_t => k_extra "SUB"))))
  (k_with "ATS" => (first | refine' Ats.nil | (refine' Ats.hit ?z9e6f72_b; (case z9e6f72_b => k_extra "ATS")) | (refine' Ats.skip ?z9e6f72_b; (case z9e6f72_b => k_extra "ATS"))))
  (k_with "CX" => ((refine' ⟨?za4188e_x1, ?za4188e_x2, ?za4188e_x3, ?za4188e_x4, ?za4188e_x5⟩; (case za4188e_x1 => k_asm); (case za4188e_x2 => k_asm); (case za4188e_x3 => k_asm); (case za4188e_x4 => k_asm); (case za4188e_x5 => first | rfl | assumption))))
  (k_with "NSUB" => ((refine' news_sub ?za7b379_N ?za7b379_s; (case za7b379_N => k_asm); (case za7b379_s => k_extra "SUB"))))
  (k_with "getMethod ref" => ((k_here; (with_reducible show wpAny _ _ (getMethod (Value.ref _) (Str.ofString "get") _) _ _ _); k_dflt (refine' kdg_method (knd := intKind prog0 _) ?z1e447a_N ?z1e447a_m ?z1e447a_d ?_; (case z1e447a_N => k_asm); (case z1e447a_m => k_mem); (case z1e447a_d => assumption)))))
  (k_with "call builtin:dict.get" => ((k_here; k_dflt (refine' kdg_get1 (knd := intKind prog0 _) ?z9e4d13_N ?z9e4d13_m ?z9e4d13_d ?z9e4d13_l ?z9e4d13_k _ rfl ?_; (case z9e4d13_N => k_asm); (case z9e4d13_m => k_mem); (case z9e4d13_d => assumption); (case z9e4d13_l => assumption); (case z9e4d13_k => exact intKind_is _ _ _ _)))))
  (k_with "KSEL" => (first | exact fun _ h => absurd h List.not_mem_nil | (refine' List.forall_mem_cons.mpr ⟨?zf64061_h, ?zf64061_t⟩; (case zf64061_h => first | exact Or.inl (by k_mem) | (refine' Or.inr ⟨_, News.get ?zf64061_n1 ?zf64061_m1, News.get ?zf64061_n2 ?zf64061_m2⟩; (case zf64061_n1 => k_asm); (case zf64061_m1 => k_mem); (case zf64061_n2 => k_asm); (case zf64061_m2 => k_mem))); (case zf64061_t => k_extra "KSEL"))))
  (k_with "KEPT" => ((refine' Kept.sel (kept_of ?z6ac77d_hg ?z6ac77d_f) ?z6ac77d_s; (case z6ac77d_hg => assumption); (case z6ac77d_f => assumption); (case z6ac77d_s => k_extra "KSEL"))))
  (k_with "SUBM" => (first | exact fun _ h => absurd h List.not_mem_nil | (refine' List.forall_mem_cons.mpr ⟨?zaff134_h, ?zaff134_t⟩; (case zaff134_h => k_mem); (case zaff134_t => k_extra "SUBM"))))
  (k_with "FRESH" => ((refine' fresh_of ?z9e8148_hg ?z9e8148_n ?z9e8148_m ?z9e8148_nd ?z9e8148_hs; (case z9e8148_hg => assumption); (case z9e8148_n => assumption); (case z9e8148_m => k_mem); (case z9e8148_nd => first | assumption | exact ND.tl (by assumption) | exact ND.tl (ND.tl (by assumption)) | exact ND.tl (ND.tl (ND.tl (by assumption)))); (case z9e8148_hs => k_extra "SUBM"))))
  (k_with "AT?" => ((refine' News.get ?z4603e9_n1 ?z4603e9_m1; (case z4603e9_n1 => k_asm); (case z4603e9_m1 => k_mem))))
  trivial
abbrev tupOf (vs : Array Value) : Obj := { cls := .type "tuple", data := .seq vs }
abbrev progD (P : Params) (ops : Addr) (t1 t2 t3 t4 t5 t6 t7 t8 : Nat) (v2 v3 v4 v5 v6 v7 v8 : Value) : List DictEntry := [KE P "ops" t1 (.ref ops), KE P "columns" t2 v2, KE P "registers" t3 v3, KE P "cursors" t4 v4, KE P "slots" t5 v5, KE P "writes" t6 v6, KE P "labels" t7 v7, KE P "next_label" t8 v8]
section
variable {w : World} {mean : ExcName → Option Value} {mg mb : Str → Option Value} {A₀ : Around} {base h₀ : Heap} {outer : List Env} {cn : Str} {cs : Scope} {L ea : Addr} {ccd : Value} {cl : List (Str × Addr)} {m : Str → Option Value} {dp un : Nat} {s : Shared} {Q : Value → Shared → Prop} {E : Value → Shared → Prop}
variable {node nd prog pd ops : Addr} {t1 t2 t3 t4 t5 t6 t7 t8 tn tx n : Nat} {v2 v3 v4 v5 v6 v7 v8 : Value} {x : Str}
theorem tr_begin (C : Cx w mean mg mb A₀ base h₀ outer L m cs s.heap)
    (N : News h₀ L s.heap [(prog, instObj 485 pd), (pd, dictOf (progD w.params ops t1 t2 t3 t4 t5 t6 t7 t8 v2 v3 v4 v5 v6 v7 v8) 8), (ops, listOf #[] n), (node, instObj 191 nd), (nd, dictOf [KE w.params "kind" tn (.str x tx)] 1)]) (S : ND [prog, pd, ops, node, nd]) (hd : dp + 15 < recursionLimit) (hu : un + 60 < cLine)
    (k : ∀ (l : Addr) (q0 q1 q2 q3 n' tk : Nat) h', Fr h₀ L h' m → s.heap.get? l = none → h'.get? l = some (listOf #[.str "BeginTransaction" q0, .int 0 q1, .int 0 q2, .int 0 q3, .str x tx] 0) → h'.get? ops = some (listOf #[.ref l] n') → Kept [ops] s.heap h' → Q .none { s with heap := h', toks := tk }) :
    wpAny (model prog0 w) (AR dp un (envX cn cs L ea ccd cl) outer) (call (.ref 316) [.ref prog, .ref node]) Q E s := by
  obtain ⟨X, T, B, F, hk⟩ := C
  refine' enter (binds := [(("program" : Str), .ref prog), (("statement" : Str), .ref node)]) X T B F N rfl hk ?k6 ?k7 ?k8 ?k9 ?kL ?kB ?_ ?c2 ?c3 ?c4 ?c5
  k_extra "ENTER"
  k_extra "GO"
  rename Fr h₀ L _ m => hF
  exact k _ _ _ _ _ _ _ _ hF (by k_extra "FRESH") (by k_extra "AT?") (by k_extra "AT?") (by k_extra "KEPT")
theorem tr_commit (C : Cx w mean mg mb A₀ base h₀ outer L m cs s.heap)
    (N : News h₀ L s.heap [(prog, instObj 485 pd), (pd, dictOf (progD w.params ops t1 t2 t3 t4 t5 t6 t7 t8 v2 v3 v4 v5 v6 v7 v8) 8), (ops, listOf #[] n), (node, instObj 210 nd), (nd, dictOf [] 0)]) (S : ND [prog, pd, ops, node, nd]) (hd : dp + 15 < recursionLimit) (hu : un + 60 < cLine)
    (k : ∀ (l : Addr) (q0 q1 q2 q3 n' tk : Nat) h', Fr h₀ L h' m → s.heap.get? l = none → h'.get? l = some (listOf #[.str "AutoCommit" q0, .int 1 q1, .int 0 q2, .int 0 q3, .none] 0) → h'.get? ops = some (listOf #[.ref l] n') → Kept [ops] s.heap h' → Q .none { s with heap := h', toks := tk }) :
    wpAny (model prog0 w) (AR dp un (envX cn cs L ea ccd cl) outer) (call (.ref 316) [.ref prog, .ref node]) Q E s := by
  obtain ⟨X, T, B, F, hk⟩ := C
  refine' enter (binds := [(("program" : Str), .ref prog), (("statement" : Str), .ref node)]) X T B F N rfl hk ?k6 ?k7 ?k8 ?k9 ?kL ?kB ?_ ?c2 ?c3 ?c4 ?c5
  k_extra "ENTER"
  k_extra "GO"
  rename Fr h₀ L _ m => hF
  exact k _ _ _ _ _ _ _ _ hF (by k_extra "FRESH") (by k_extra "AT?") (by k_extra "AT?") (by k_extra "KEPT")
theorem tr_rollback0 (C : Cx w mean mg mb A₀ base h₀ outer L m cs s.heap)
    (N : News h₀ L s.heap [(prog, instObj 485 pd), (pd, dictOf (progD w.params ops t1 t2 t3 t4 t5 t6 t7 t8 v2 v3 v4 v5 v6 v7 v8) 8), (ops, listOf #[] n), (node, instObj 236 nd), (nd, dictOf [KE w.params "name" tn .none] 1)]) (S : ND [prog, pd, ops, node, nd]) (hd : dp + 15 < recursionLimit) (hu : un + 60 < cLine)
    (k : ∀ (l : Addr) (q0 q1 q2 q3 n' tk : Nat) h', Fr h₀ L h' m → s.heap.get? l = none → h'.get? l = some (listOf #[.str "AutoCommit" q0, .int 1 q1, .int 1 q2, .int 0 q3, .none] 0) → h'.get? ops = some (listOf #[.ref l] n') → Kept [ops] s.heap h' → Q .none { s with heap := h', toks := tk }) :
    wpAny (model prog0 w) (AR dp un (envX cn cs L ea ccd cl) outer) (call (.ref 316) [.ref prog, .ref node]) Q E s := by
  obtain ⟨X, T, B, F, hk⟩ := C
  refine' enter (binds := [(("program" : Str), .ref prog), (("statement" : Str), .ref node)]) X T B F N rfl hk ?k6 ?k7 ?k8 ?k9 ?kL ?kB ?_ ?c2 ?c3 ?c4 ?c5
  k_extra "ENTER"
  k_extra "GO"
  rename Fr h₀ L _ m => hF
  exact k _ _ _ _ _ _ _ _ hF (by k_extra "FRESH") (by k_extra "AT?") (by k_extra "AT?") (by k_extra "KEPT")
theorem tr_rollback (C : Cx w mean mg mb A₀ base h₀ outer L m cs s.heap)
    (N : News h₀ L s.heap [(prog, instObj 485 pd), (pd, dictOf (progD w.params ops t1 t2 t3 t4 t5 t6 t7 t8 v2 v3 v4 v5 v6 v7 v8) 8), (ops, listOf #[] n), (node, instObj 236 nd), (nd, dictOf [KE w.params "name" tn (.str x tx)] 1)]) (S : ND [prog, pd, ops, node, nd]) (hd : dp + 15 < recursionLimit) (hu : un + 60 < cLine)
    (k : ∀ (l u : Addr) (q0 q1 q2 q3 q4 n' tk : Nat) h', Fr h₀ L h' m → s.heap.get? l = none → s.heap.get? u = none → l ≠ u → h'.get? l = some (listOf #[.str "Savepoint" q0, .int 0 q1, .int 0 q2, .int 0 q3, .ref u] 0) → h'.get? u = some (tupOf #[.str "rollback" q4, .str x tx]) → h'.get? ops = some (listOf #[.ref l] n') → Kept [ops] s.heap h' → Q .none { s with heap := h', toks := tk }) :
    wpAny (model prog0 w) (AR dp un (envX cn cs L ea ccd cl) outer) (call (.ref 316) [.ref prog, .ref node]) Q E s := by
  obtain ⟨X, T, B, F, hk⟩ := C
  refine' enter (binds := [(("program" : Str), .ref prog), (("statement" : Str), .ref node)]) X T B F N rfl hk ?k6 ?k7 ?k8 ?k9 ?kL ?kB ?_ ?c2 ?c3 ?c4 ?c5
  k_extra "ENTER"
  k_extra "GO"
  rename Fr h₀ L _ m => hF
  rename ND _ => hnd
  exact k _ _ _ _ _ _ _ _ _ _ hF (by k_extra "FRESH") (by k_extra "FRESH") hnd.ne (by k_extra "AT?") (by k_extra "AT?") (by k_extra "AT?") (by k_extra "KEPT")
theorem tr_savepoint (C : Cx w mean mg mb A₀ base h₀ outer L m cs s.heap)
    (N : News h₀ L s.heap [(prog, instObj 485 pd), (pd, dictOf (progD w.params ops t1 t2 t3 t4 t5 t6 t7 t8 v2 v3 v4 v5 v6 v7 v8) 8), (ops, listOf #[] n), (node, instObj 262 nd), (nd, dictOf [KE w.params "name" tn (.str x tx)] 1)]) (S : ND [prog, pd, ops, node, nd]) (hd : dp + 15 < recursionLimit) (hu : un + 60 < cLine)
    (k : ∀ (l u : Addr) (q0 q1 q2 q3 q4 n' tk : Nat) h', Fr h₀ L h' m → s.heap.get? l = none → s.heap.get? u = none → l ≠ u → h'.get? l = some (listOf #[.str "Savepoint" q0, .int 0 q1, .int 0 q2, .int 0 q3, .ref u] 0) → h'.get? u = some (tupOf #[.str "begin" q4, .str x tx]) → h'.get? ops = some (listOf #[.ref l] n') → Kept [ops] s.heap h' → Q .none { s with heap := h', toks := tk }) :
    wpAny (model prog0 w) (AR dp un (envX cn cs L ea ccd cl) outer) (call (.ref 316) [.ref prog, .ref node]) Q E s := by
  obtain ⟨X, T, B, F, hk⟩ := C
  refine' enter (binds := [(("program" : Str), .ref prog), (("statement" : Str), .ref node)]) X T B F N rfl hk ?k6 ?k7 ?k8 ?k9 ?kL ?kB ?_ ?c2 ?c3 ?c4 ?c5
  k_extra "ENTER"
  k_extra "GO"
  rename Fr h₀ L _ m => hF
  rename ND _ => hnd
  exact k _ _ _ _ _ _ _ _ _ _ hF (by k_extra "FRESH") (by k_extra "FRESH") hnd.ne (by k_extra "AT?") (by k_extra "AT?") (by k_extra "AT?") (by k_extra "KEPT")
theorem tr_release (C : Cx w mean mg mb A₀ base h₀ outer L m cs s.heap)
    (N : News h₀ L s.heap [(prog, instObj 485 pd), (pd, dictOf (progD w.params ops t1 t2 t3 t4 t5 t6 t7 t8 v2 v3 v4 v5 v6 v7 v8) 8), (ops, listOf #[] n), (node, instObj 288 nd), (nd, dictOf [KE w.params "name" tn (.str x tx)] 1)]) (S : ND [prog, pd, ops, node, nd]) (hd : dp + 15 < recursionLimit) (hu : un + 60 < cLine)
    (k : ∀ (l u : Addr) (q0 q1 q2 q3 q4 n' tk : Nat) h', Fr h₀ L h' m → s.heap.get? l = none → s.heap.get? u = none → l ≠ u → h'.get? l = some (listOf #[.str "Savepoint" q0, .int 0 q1, .int 0 q2, .int 0 q3, .ref u] 0) → h'.get? u = some (tupOf #[.str "release" q4, .str x tx]) → h'.get? ops = some (listOf #[.ref l] n') → Kept [ops] s.heap h' → Q .none { s with heap := h', toks := tk }) :
    wpAny (model prog0 w) (AR dp un (envX cn cs L ea ccd cl) outer) (call (.ref 316) [.ref prog, .ref node]) Q E s := by
  obtain ⟨X, T, B, F, hk⟩ := C
  refine' enter (binds := [(("program" : Str), .ref prog), (("statement" : Str), .ref node)]) X T B F N rfl hk ?k6 ?k7 ?k8 ?k9 ?kL ?kB ?_ ?c2 ?c3 ?c4 ?c5
  k_extra "ENTER"
  k_extra "GO"
  rename Fr h₀ L _ m => hF
  rename ND _ => hnd
  exact k _ _ _ _ _ _ _ _ _ _ hF (by k_extra "FRESH") (by k_extra "FRESH") hnd.ne (by k_extra "AT?") (by k_extra "AT?") (by k_extra "AT?") (by k_extra "KEPT")
theorem tr_vacuum (C : Cx w mean mg mb A₀ base h₀ outer L m cs s.heap)
    (N : News h₀ L s.heap [(prog, instObj 485 pd), (pd, dictOf (progD w.params ops t1 t2 t3 t4 t5 t6 t7 t8 v2 v3 v4 v5 v6 v7 v8) 8), (ops, listOf #[] n), (node, instObj 307 nd), (nd, dictOf [] 0)]) (S : ND [prog, pd, ops, node, nd]) (hd : dp + 15 < recursionLimit) (hu : un + 60 < cLine)
    (k : ∀ (l : Addr) (q0 q1 q2 q3 n' tk : Nat) h', Fr h₀ L h' m → s.heap.get? l = none → h'.get? l = some (listOf #[.str "Vacuum" q0, .int 0 q1, .int 0 q2, .int 0 q3, .none] 0) → h'.get? ops = some (listOf #[.ref l] n') → Kept [ops] s.heap h' → Q .none { s with heap := h', toks := tk }) :
    wpAny (model prog0 w) (AR dp un (envX cn cs L ea ccd cl) outer) (call (.ref 316) [.ref prog, .ref node]) Q E s := by
  obtain ⟨X, T, B, F, hk⟩ := C
  refine' enter (binds := [(("program" : Str), .ref prog), (("statement" : Str), .ref node)]) X T B F N rfl hk ?k6 ?k7 ?k8 ?k9 ?kL ?kB ?_ ?c2 ?c3 ?c4 ?c5
  k_extra "ENTER"
  k_extra "GO"
  rename Fr h₀ L _ m => hF
  exact k _ _ _ _ _ _ _ _ hF (by k_extra "FRESH") (by k_extra "AT?") (by k_extra "AT?") (by k_extra "KEPT")
end

theorem fillIt7 : PySem.Challenge.rw_pb0451_01 = PySem.Challenge.rw_pb0451_01 ∧ KH = KH := by k_fill; exact ⟨rfl, rfl⟩
theorem klines_C7_0 : True := by
  k_with_none
  (k_with "subscriptTail Name Constant ref int" => ((k_here; (with_reducible show wpAny _ _ (subscriptTail _ _ (Value.ref _) (Value.int _ _)) _ _ _); (with_unfolding_all refine' item_litK ?z73ea9d_k1 ?z73ea9d_k2 ?z73ea9d_k3 ?z73ea9d_k4 ?_ ?z73ea9d_k6; (case z73ea9d_k1 => is_list); (case z73ea9d_k2 => decide); (case z73ea9d_k3 => decide); (case z73ea9d_k4 => rfl); (case z73ea9d_k6 => with_unfolding_all rfl); k_whole))))
  (k_with "ENTER" => (((case k6 => k_is); (case k7 => k_is); (case k8 => omega); (case k9 => exact BindsTo.of_eq rfl); (case kB => (conv => lhs; whnf)); (case kL => exact locs rfl); (case c2 => exact rfl); (case c3 => exact rfl); (case c4 => exact rfl); (case c5 => decide); intro g' L' h' HG' FG' F' N' B' X' T' l'; (try dsimp only); k_fold)))
  (k_with "GO" => (repeat' (first | (k_unfold; (try dsimp only)) | (k_end; wrow_close) | walk1 | (dsimp only; walk1))))
  (k_with "ATF" => (first | refine' AtF.head | (refine' AtF.tail ?zaeb911_b; (case zaeb911_b => k_extra "ATF"))))
  (k_with "AT" => (first | refine' At.head | (refine' At.tail ?z4c4c10_b; (case z4c4c10_b => k_extra "AT"))))
  (k_with "M k_upd" => ((rename ND _ => hS; refine' upd_sd ?z531fe4_a hS ?z531fe4_e; (case z531fe4_a => k_extra "AT"); (case z531fe4_e => rfl))))
  (k_with "M k_updF" => ((rename ND _ => hS; refine' updF_sd ?zc7fe0e_a hS ?zc7fe0e_e; (case zc7fe0e_a => k_extra "ATF"); (case zc7fe0e_e => rfl))))
  (k_with "M kn_among" => ((simp [codeAmong, rawInt]; done)))
  (k_with "M kn_triples" => ((simp [TriplesOk, rawInt]; done)))
  (k_with "M k_room" => ((first | omega | ((try simp only [depth_mark, depth_under_make, depth_under_kw, depth_in1, depth_deeper, depth_caller]); omega))))
  (k_with "SUB" => (first | exact List.forall_mem_nil _ | (refine' List.forall_mem_cons.mpr ⟨?z3be472_h, ?z3be472_t⟩; (case z3be472_h => k_mem); (case z3be472_t => k_extra "SUB"))))
  (k_with "ATS" => (first | refine' Ats.nil | (refine' Ats.hit ?z9e6f72_b; (case z9e6f72_b => k_extra "ATS")) | (refine' Ats.skip ?z9e6f72_b; (case z9e6f72_b => k_extra "ATS"))))
  (k_with "CX" => ((refine' ⟨?za4188e_x1, ?za4188e_x2, ?za4188e_x3, ?za4188e_x4, ?za4188e_x5⟩; (case za4188e_x1 => k_asm); (case za4188e_x2 => k_asm); (case za4188e_x3 => k_asm); (case za4188e_x4 => k_asm); (case za4188e_x5 => first | rfl | assumption))))
  (k_with "NSUB" => ((refine' news_sub ?za7b379_N ?za7b379_s; (case za7b379_N => k_asm); (case za7b379_s => k_extra "SUB"))))
  (k_with "getMethod ref" => ((k_here; (with_reducible show wpAny _ _ (getMethod (Value.ref _) (Str.ofString "get") _) _ _ _); k_dflt (refine' kdg_method (knd := intKind prog0 _) ?z1e447a_N ?z1e447a_m ?z1e447a_d ?_; (case z1e447a_N => k_asm); (case z1e447a_m => k_mem); (case z1e447a_d => assumption)))))
  (k_with "call builtin:dict.get" => ((k_here; k_dflt (refine' kdg_get1 (knd := intKind prog0 _) ?z9e4d13_N ?z9e4d13_m ?z9e4d13_d ?z9e4d13_l ?z9e4d13_k _ rfl ?_; (case z9e4d13_N => k_asm); (case z9e4d13_m => k_mem); (case z9e4d13_d => assumption); (case z9e4d13_l => assumption); (case z9e4d13_k => exact intKind_is _ _ _ _)))))
  (k_with "KSEL" => (first | exact fun _ h => absurd h List.not_mem_nil | (refine' List.forall_mem_cons.mpr ⟨?zf64061_h, ?zf64061_t⟩; (case zf64061_h => first | exact Or.inl (by k_mem) | (refine' Or.inr ⟨_, News.get ?zf64061_n1 ?zf64061_m1, News.get ?zf64061_n2 ?zf64061_m2⟩; (case zf64061_n1 => k_asm); (case zf64061_m1 => k_mem); (case zf64061_n2 => k_asm); (case zf64061_m2 => k_mem))); (case zf64061_t => k_extra "KSEL"))))
  (k_with "KEPT" => ((refine' Kept.sel (kept_of ?z6ac77d_hg ?z6ac77d_f) ?z6ac77d_s; (case z6ac77d_hg => assumption); (case z6ac77d_f => assumption); (case z6ac77d_s => k_extra "KSEL"))))
  (k_with "SUBM" => (first | exact fun _ h => absurd h List.not_mem_nil | (refine' List.forall_mem_cons.mpr ⟨?zaff134_h, ?zaff134_t⟩; (case zaff134_h => k_mem); (case zaff134_t => k_extra "SUBM"))))
  (k_with "FRESH" => ((refine' fresh_of ?z9e8148_hg ?z9e8148_n ?z9e8148_m ?z9e8148_nd ?z9e8148_hs; (case z9e8148_hg => assumption); (case z9e8148_n => assumption); (case z9e8148_m => k_mem); (case z9e8148_nd => first | assumption | exact ND.tl (by assumption) | exact ND.tl (ND.tl (by assumption)) | exact ND.tl (ND.tl (ND.tl (by assumption)))); (case z9e8148_hs => k_extra "SUBM"))))
  (k_with "AT?" => ((refine' News.get ?z4603e9_n1 ?z4603e9_m1; (case z4603e9_n1 => k_asm); (case z4603e9_m1 => k_mem))))
  trivial
def lamS (i : Nat) : Arguments × PySem.Expr × Scope := match (fBody (st 31))[i]? with
  | some (.Assign _ (.Lambda a b sc _) _) => (a, b, sc)
  | _ => ({ posonlyargs := [], args := [], vararg := none, kwonlyargs := [], kw_defaults := [], kwarg := none, defaults := [] }, .Constant .none 0 ⟨0, 0, 0, 0⟩, { kind := .function, names := [], isGenerator := false, isCoroutine := false, more := [] })
def LamAt (h : Heap) (i : Nat) (f cell : Addr) : Prop := ∃ name qual pm c' ctv, h.get? f = some (kla_obj name qual (lamS i).1 (lamS i).2.1 (lamS i).2.2 [(("asked" : Str), cell)] pm c' ctv) ∧ h.CodeRec (.ref c') qual
theorem LamAt.keeps {h h' : Heap} {i : Nat} {f cell : Addr} (x : LamAt h i f cell) (k : ∀ b o, h.get? b = some o → h'.get? b = some o) : LamAt h' i f cell :=
  let ⟨a, b, c, d, e, h1, h2⟩ := x; ⟨a, b, c, d, e, k _ _ h1, h2.keeps k⟩
section
variable {w : World} {mean : ExcName → Option Value} {mg mb : Str → Option Value} {A₀ : Around} {base h₀ : Heap} {outer : List Env} {env : Env} {L : Addr} {m : Str → Option Value} {dp un : Nat} {s : Shared} {news : List (Addr × Obj)}
  {Q : Value → Shared → Prop} {E : Value → Shared → Prop} {name qual : Str} {params : Arguments} {body : PySem.Expr} {scope : Scope} {cl : List (Str × Addr)} {pm ctv : Value} {c' f : Addr} {pos : List Value} {binds : List (Str × Value)}
theorem enterL (X : (KH w.params).In h₀) (T : Top topProg lawLoose mean mg mb h₀) (B : Below A₀ base outer h₀) (F : Fr h₀ L s.heap m) (N : News h₀ L s.heap news) (hf : env.frame = some L) (hk : env.scope.kind = .function)
    (ho : s.heap.get? f = some (kla_obj name qual params body scope cl pm c' ctv)) (hcd : s.heap.CodeRec (.ref c') qual) (hroom : dp < recursionLimit)
    (hbind : bindArgs (kla_fn name qual params body scope cl pm (.ref c') ctv) ⟨pos, []⟩ = pure binds) (hloc : ∀ y ∈ binds, scope.names.lookup y.1 = some .local)
    (h : ∀ g L' h₁, (∀ b o, s.heap.get? b = some o → b ∉ news.map (·.1) → g.get? b = some o) → Fr h₀ L g m → Fr g L' h₁ (fun y => binds.reverse.lookup y) → News g L' h₁ news → Below (AR dp un env outer) base (env :: outer) g → (KH w.params).In g → Top topProg lawLoose mean mg mb g → (∀ p ∈ news, p.1 < L') →
      wpAny (model prog0 w) (AR (dp + 1) (un + 3) (envX qual scope L' f (.ref c') cl) (env :: outer)) (eval body (envX qual scope L' f (.ref c') cl))
        (fun v s' => LeaveK h₀ L m g (fun r s' => match r with | .ok (.ret v) => Q v s' | .ok _ => False | .error e => E e s') v s')
        (fun _ _ => False) { s with heap := h₁, toks := s.toks + binds.length })
    (hco : scope.isCoroutine = false) (hgen : scope.isGenerator = false) (hk' : scope.kind = .function) (hcell : ∀ x ∈ scope.names, x.2 ≠ .cell) : wpAny (model prog0 w) (AR dp un env outer) (call (.ref f) pos) Q E s := by
  refine wpAny_call ?_
  obtain ⟨FG, BG, st, lv⟩ := groundX (R := fun r s' => match r with | .ok (.ret v) => Q v s' | .ok _ => False | .error e => E e s') (A := AR dp un env outer) B F N rfl hf hk
  refine kla_callFunE hroom ho rfl hco hgen rfl hcd ?_
  rw [hbind]
  refine wpAny_pure (wpAny_newFunctionEnv hcell hloc (fun h₁ hns hsb => ⟨((T.nolimit).keeps F.keep).fresh _ hsb, ?_⟩) hk')
  show codeAny _ _ (.expr body (envX qual scope s.heap.objs.size f (.ref c') cl)) _ _
  have hk₁ : ∀ b o, s.heap.get? b = some o → h₁.get? b = some o := fun b o e => hsb.extBut b o (Nat.ne_of_lt (Heap.lt_size e)) (Heap.get?_push_of_some _ e)
  exact kla_codeExpr (wpAny_mono (h _ s.heap.objs.size h₁ (fun b o e hb => hideAll_get _ e hb) FG ⟨hns, fun b o e => hk₁ b o (of_hideAll _ e), Nat.le_of_eq (hideAll_size _ _)⟩
    (fun p hp => ⟨hk₁ _ _ (N p hp).1, Nat.ne_of_lt (Heap.lt_size (N p hp).1), hideAll_none _ (List.mem_map_of_mem hp)⟩) BG (X.keeps st) (T.keeps st) (fun p hp => Heap.lt_size (N p hp).1)) (fun v s' hl => lv _ _ hl) fun _ _ y => y.elim)
end
theorem klines_C7_1 : True := by
  (k_with "ENTERL" => (((case k8 => omega); (case k9 => rfl); (case kL => exact locs rfl); (case c2 => exact rfl); (case c3 => exact rfl); (case c4 => exact rfl); (case c5 => decide); intro g' L' h' HG' FG' F' N' B' X' T' l'; (try dsimp only); k_fold; (conv => arg 3; arg 1; whnf))))
  (k_with "eval Name" => ((k_here; k_dflt (refine' nameX_F ?z84824e_N ?z84824e_c ?z84824e_m ?z84824e_d ?_ ?z84824e_a ?z84824e_b ?z84824e_e ?z84824e_g; (case z84824e_b => exact rfl); (case z84824e_a => exact rfl); (case z84824e_c => exact rfl); (case z84824e_e => decide); (case z84824e_g => decide); (case z84824e_N => k_asm); (case z84824e_m => k_mem); (case z84824e_d => assumption)))))
  (k_with "call ref" => (((with_reducible show wpAny _ _ (call (Value.ref 517) _) _ _ _); k_dflt (refine' noted_c ?zb1b441_c ?zb1b441_n ?zb1b441_z ?zb1b441_d ?_; (case zb1b441_c => k_extra "CX"); (case zb1b441_n => k_extra "NSUB"); (case zb1b441_z => assumption); (case zb1b441_d => omega); intro n' tk' h' F' hs' hK'; rename ND _ => hS; (rename News _ _ _ _ => oN); refine' with_back (ch := [(_, _)]) oN hS rfl hK' (List.forall_mem_cons.mpr ⟨hs', List.forall_mem_nil _⟩) ?zb1b441_at' ?_; (case zb1b441_at' => k_extra "ATS"); intro N'; clear oN hK' hs'))))
  trivial
section
variable {w : World} {mean : ExcName → Option Value} {mg mb : Str → Option Value} {A₀ : Around} {base h₀ : Heap} {outer : List Env} {cn : Str} {cs : Scope} {L ea : Addr} {ccd : Value} {cl : List (Str × Addr)} {m : Str → Option Value} {dp un : Nat} {s : Shared} {Q : Value → Shared → Prop} {E : Value → Shared → Prop}
variable {f cell asked : Addr} {co : Obj} {vs : List Value} {n : Nat} {u v : Value} {x y : Str} {i : Int} {tx ty ti : Nat}
theorem lam_start (C : Cx w mean mg mb A₀ base h₀ outer L m cs s.heap) (LA : LamAt h₀ 2 f cell)
    (N : News h₀ L s.heap [(cell, co), (asked, listOf vs.toArray n)]) (hco : co.data = .cell (some (.ref asked))) (S : ND [cell, asked]) (hz : vs.length ≤ 1000) (hd : dp + 8 < recursionLimit)
    (k : ∀ (r : Addr) (q q2 n' tk : Nat) h', Fr h₀ L h' m → s.heap.get? r = none → h'.get? r = some (tupOf #[.str "start" q, v]) → h'.get? asked = some (listOf (vs ++ [Value.ref r]).toArray n') → Kept [asked] s.heap h' → Q (.none) { s with heap := h', toks := tk }) :
    wpAny (model prog0 w) (AR dp un (envX cn cs L ea ccd cl) outer) (call (.ref f) [v]) Q E s := by
  obtain ⟨X, T, B, F, hk⟩ := C
  obtain ⟨name, qual, pm, c', ctv, ho, hcd⟩ := LA.keeps F.keep
  refine' enterL (binds := [(("writes" : Str), v)]) X T B F N rfl hk ho hcd ?k8 ?k9 ?kL ?_ ?c2 ?c3 ?c4 ?c5
  k_extra "ENTERL"
  k_extra "GO"
  rename Fr h₀ L _ m => hF
  exact k _ _ 0 _ _ _ hF (by k_extra "FRESH") (by k_extra "AT?") (by k_extra "AT?") (by k_extra "KEPT")
theorem lam_begin (C : Cx w mean mg mb A₀ base h₀ outer L m cs s.heap) (LA : LamAt h₀ 3 f cell)
    (N : News h₀ L s.heap [(cell, co), (asked, listOf vs.toArray n)]) (hco : co.data = .cell (some (.ref asked))) (S : ND [cell, asked]) (hz : vs.length ≤ 1000) (hd : dp + 8 < recursionLimit)
    (k : ∀ (r : Addr) (q q2 n' tk : Nat) h', Fr h₀ L h' m → s.heap.get? r = none → h'.get? r = some (tupOf #[.str "begin" q, v]) → h'.get? asked = some (listOf (vs ++ [Value.ref r]).toArray n') → Kept [asked] s.heap h' → Q (.none) { s with heap := h', toks := tk }) :
    wpAny (model prog0 w) (AR dp un (envX cn cs L ea ccd cl) outer) (call (.ref f) [v]) Q E s := by
  obtain ⟨X, T, B, F, hk⟩ := C
  obtain ⟨name, qual, pm, c', ctv, ho, hcd⟩ := LA.keeps F.keep
  refine' enterL (binds := [(("kind" : Str), v)]) X T B F N rfl hk ho hcd ?k8 ?k9 ?kL ?_ ?c2 ?c3 ?c4 ?c5
  k_extra "ENTERL"
  k_extra "GO"
  rename Fr h₀ L _ m => hF
  exact k _ _ 0 _ _ _ hF (by k_extra "FRESH") (by k_extra "AT?") (by k_extra "AT?") (by k_extra "KEPT")
theorem lam_rollbackS (C : Cx w mean mg mb A₀ base h₀ outer L m cs s.heap) (LA : LamAt h₀ 4 f cell)
    (N : News h₀ L s.heap [(cell, co), (asked, listOf vs.toArray n)]) (hco : co.data = .cell (some (.ref asked))) (S : ND [cell, asked]) (hz : vs.length ≤ 1000) (hd : dp + 8 < recursionLimit)
    (k : ∀ (r : Addr) (q q2 n' tk : Nat) h', Fr h₀ L h' m → s.heap.get? r = none → h'.get? r = some (tupOf #[.str "rollback_statement" q]) → h'.get? asked = some (listOf (vs ++ [Value.ref r]).toArray n') → Kept [asked] s.heap h' → Q (.none) { s with heap := h', toks := tk }) :
    wpAny (model prog0 w) (AR dp un (envX cn cs L ea ccd cl) outer) (call (.ref f) []) Q E s := by
  obtain ⟨X, T, B, F, hk⟩ := C
  obtain ⟨name, qual, pm, c', ctv, ho, hcd⟩ := LA.keeps F.keep
  refine' enterL (binds := []) X T B F N rfl hk ho hcd ?k8 ?k9 ?kL ?_ ?c2 ?c3 ?c4 ?c5
  k_extra "ENTERL"
  k_extra "GO"
  rename Fr h₀ L _ m => hF
  exact k _ _ 0 _ _ _ hF (by k_extra "FRESH") (by k_extra "AT?") (by k_extra "AT?") (by k_extra "KEPT")
theorem lam_commitS (C : Cx w mean mg mb A₀ base h₀ outer L m cs s.heap) (LA : LamAt h₀ 5 f cell)
    (N : News h₀ L s.heap [(cell, co), (asked, listOf vs.toArray n)]) (hco : co.data = .cell (some (.ref asked))) (S : ND [cell, asked]) (hz : vs.length ≤ 1000) (hd : dp + 8 < recursionLimit)
    (k : ∀ (r : Addr) (q q2 n' tk : Nat) h', Fr h₀ L h' m → s.heap.get? r = none → h'.get? r = some (tupOf #[.str "commit_statement" q]) → h'.get? asked = some (listOf (vs ++ [Value.ref r]).toArray n') → Kept [asked] s.heap h' → Q (.none) { s with heap := h', toks := tk }) :
    wpAny (model prog0 w) (AR dp un (envX cn cs L ea ccd cl) outer) (call (.ref f) []) Q E s := by
  obtain ⟨X, T, B, F, hk⟩ := C
  obtain ⟨name, qual, pm, c', ctv, ho, hcd⟩ := LA.keeps F.keep
  refine' enterL (binds := []) X T B F N rfl hk ho hcd ?k8 ?k9 ?kL ?_ ?c2 ?c3 ?c4 ?c5
  k_extra "ENTERL"
  k_extra "GO"
  rename Fr h₀ L _ m => hF
  exact k _ _ 0 _ _ _ hF (by k_extra "FRESH") (by k_extra "AT?") (by k_extra "AT?") (by k_extra "KEPT")
theorem lam_savepoint (C : Cx w mean mg mb A₀ base h₀ outer L m cs s.heap) (LA : LamAt h₀ 6 f cell)
    (N : News h₀ L s.heap [(cell, co), (asked, listOf vs.toArray n)]) (hco : co.data = .cell (some (.ref asked))) (S : ND [cell, asked]) (hz : vs.length ≤ 1000) (hd : dp + 8 < recursionLimit)
    (k : ∀ (r : Addr) (q q2 n' tk : Nat) h', Fr h₀ L h' m → s.heap.get? r = none → h'.get? r = some (tupOf #[.str "savepoint" q, u, v]) → h'.get? asked = some (listOf (vs ++ [Value.ref r]).toArray n') → Kept [asked] s.heap h' → Q (.none) { s with heap := h', toks := tk }) :
    wpAny (model prog0 w) (AR dp un (envX cn cs L ea ccd cl) outer) (call (.ref f) [u, v]) Q E s := by
  obtain ⟨X, T, B, F, hk⟩ := C
  obtain ⟨name, qual, pm, c', ctv, ho, hcd⟩ := LA.keeps F.keep
  refine' enterL (binds := [(("deed" : Str), u), (("name" : Str), v)]) X T B F N rfl hk ho hcd ?k8 ?k9 ?kL ?_ ?c2 ?c3 ?c4 ?c5
  k_extra "ENTERL"
  k_extra "GO"
  rename Fr h₀ L _ m => hF
  exact k _ _ 0 _ _ _ hF (by k_extra "FRESH") (by k_extra "AT?") (by k_extra "AT?") (by k_extra "KEPT")
theorem lam_loadSchema (C : Cx w mean mg mb A₀ base h₀ outer L m cs s.heap) (LA : LamAt h₀ 7 f cell)
    (N : News h₀ L s.heap [(cell, co), (asked, listOf vs.toArray n)]) (hco : co.data = .cell (some (.ref asked))) (S : ND [cell, asked]) (hz : vs.length ≤ 1000) (hd : dp + 8 < recursionLimit)
    (k : ∀ (r : Addr) (q q2 n' tk : Nat) h', Fr h₀ L h' m → s.heap.get? r = none → h'.get? r = some (tupOf #[.str "load_schema" q]) → h'.get? asked = some (listOf (vs ++ [Value.ref r]).toArray n') → Kept [asked] s.heap h' → Q (.none) { s with heap := h', toks := tk }) :
    wpAny (model prog0 w) (AR dp un (envX cn cs L ea ccd cl) outer) (call (.ref f) []) Q E s := by
  obtain ⟨X, T, B, F, hk⟩ := C
  obtain ⟨name, qual, pm, c', ctv, ho, hcd⟩ := LA.keeps F.keep
  refine' enterL (binds := []) X T B F N rfl hk ho hcd ?k8 ?k9 ?kL ?_ ?c2 ?c3 ?c4 ?c5
  k_extra "ENTERL"
  k_extra "GO"
  rename Fr h₀ L _ m => hF
  exact k _ _ 0 _ _ _ hF (by k_extra "FRESH") (by k_extra "AT?") (by k_extra "AT?") (by k_extra "KEPT")
theorem lam_raiseCookie (C : Cx w mean mg mb A₀ base h₀ outer L m cs s.heap) (LA : LamAt h₀ 8 f cell)
    (N : News h₀ L s.heap [(cell, co), (asked, listOf vs.toArray n)]) (hco : co.data = .cell (some (.ref asked))) (S : ND [cell, asked]) (hz : vs.length ≤ 1000) (hd : dp + 8 < recursionLimit)
    (k : ∀ (r : Addr) (q q2 n' tk : Nat) h', Fr h₀ L h' m → s.heap.get? r = none → h'.get? r = some (tupOf #[.str "raise_cookie" q]) → h'.get? asked = some (listOf (vs ++ [Value.ref r]).toArray n') → Kept [asked] s.heap h' → Q (.none) { s with heap := h', toks := tk }) :
    wpAny (model prog0 w) (AR dp un (envX cn cs L ea ccd cl) outer) (call (.ref f) []) Q E s := by
  obtain ⟨X, T, B, F, hk⟩ := C
  obtain ⟨name, qual, pm, c', ctv, ho, hcd⟩ := LA.keeps F.keep
  refine' enterL (binds := []) X T B F N rfl hk ho hcd ?k8 ?k9 ?kL ?_ ?c2 ?c3 ?c4 ?c5
  k_extra "ENTERL"
  k_extra "GO"
  rename Fr h₀ L _ m => hF
  exact k _ _ 0 _ _ _ hF (by k_extra "FRESH") (by k_extra "AT?") (by k_extra "AT?") (by k_extra "KEPT")
theorem lam_verifyCookie (C : Cx w mean mg mb A₀ base h₀ outer L m cs s.heap) (LA : LamAt h₀ 9 f cell)
    (N : News h₀ L s.heap [(cell, co), (asked, listOf vs.toArray n)]) (hco : co.data = .cell (some (.ref asked))) (S : ND [cell, asked]) (hz : vs.length ≤ 1000) (hd : dp + 8 < recursionLimit)
    (k : ∀ (r : Addr) (q q2 n' tk : Nat) h', Fr h₀ L h' m → s.heap.get? r = none → h'.get? r = some (tupOf #[.str "verify_cookie" q, v]) → h'.get? asked = some (listOf (vs ++ [Value.ref r]).toArray n') → Kept [asked] s.heap h' → Q (.none) { s with heap := h', toks := tk }) :
    wpAny (model prog0 w) (AR dp un (envX cn cs L ea ccd cl) outer) (call (.ref f) [v]) Q E s := by
  obtain ⟨X, T, B, F, hk⟩ := C
  obtain ⟨name, qual, pm, c', ctv, ho, hcd⟩ := LA.keeps F.keep
  refine' enterL (binds := [(("number" : Str), v)]) X T B F N rfl hk ho hcd ?k8 ?k9 ?kL ?_ ?c2 ?c3 ?c4 ?c5
  k_extra "ENTERL"
  k_extra "GO"
  rename Fr h₀ L _ m => hF
  exact k _ _ 0 _ _ _ hF (by k_extra "FRESH") (by k_extra "AT?") (by k_extra "AT?") (by k_extra "KEPT")
theorem lam_vacuum (C : Cx w mean mg mb A₀ base h₀ outer L m cs s.heap) (LA : LamAt h₀ 10 f cell)
    (N : News h₀ L s.heap [(cell, co), (asked, listOf vs.toArray n)]) (hco : co.data = .cell (some (.ref asked))) (S : ND [cell, asked]) (hz : vs.length ≤ 1000) (hd : dp + 8 < recursionLimit)
    (k : ∀ (r : Addr) (q q2 n' tk : Nat) h', Fr h₀ L h' m → s.heap.get? r = none → h'.get? r = some (tupOf #[.str "vacuum" q]) → h'.get? asked = some (listOf (vs ++ [Value.ref r]).toArray n') → Kept [asked] s.heap h' → Q (.none) { s with heap := h', toks := tk }) :
    wpAny (model prog0 w) (AR dp un (envX cn cs L ea ccd cl) outer) (call (.ref f) []) Q E s := by
  obtain ⟨X, T, B, F, hk⟩ := C
  obtain ⟨name, qual, pm, c', ctv, ho, hcd⟩ := LA.keeps F.keep
  refine' enterL (binds := []) X T B F N rfl hk ho hcd ?k8 ?k9 ?kL ?_ ?c2 ?c3 ?c4 ?c5
  k_extra "ENTERL"
  k_extra "GO"
  rename Fr h₀ L _ m => hF
  exact k _ _ 0 _ _ _ hF (by k_extra "FRESH") (by k_extra "AT?") (by k_extra "AT?") (by k_extra "KEPT")
theorem lam_integrity (C : Cx w mean mg mb A₀ base h₀ outer L m cs s.heap) (LA : LamAt h₀ 11 f cell)
    (N : News h₀ L s.heap [(cell, co), (asked, listOf vs.toArray n)]) (hco : co.data = .cell (some (.ref asked))) (S : ND [cell, asked]) (hz : vs.length ≤ 1000) (hd : dp + 8 < recursionLimit)
    (k : ∀ (r ans : Addr) (q q2 q3 q4 n' tk : Nat) h', Fr h₀ L h' m → s.heap.get? r = none → s.heap.get? ans = none → ans ≠ r → h'.get? r = some (tupOf #[.str "integrity_texts" q]) → h'.get? ans = some (listOf #[.str "one" q3, .str "two" q4] 0) → h'.get? asked = some (listOf (vs ++ [Value.ref r]).toArray n') → Kept [asked] s.heap h' → Q (.ref ans) { s with heap := h', toks := tk }) :
    wpAny (model prog0 w) (AR dp un (envX cn cs L ea ccd cl) outer) (call (.ref f) []) Q E s := by
  obtain ⟨X, T, B, F, hk⟩ := C
  obtain ⟨name, qual, pm, c', ctv, ho, hcd⟩ := LA.keeps F.keep
  refine' enterL (binds := []) X T B F N rfl hk ho hcd ?k8 ?k9 ?kL ?_ ?c2 ?c3 ?c4 ?c5
  k_extra "ENTERL"
  k_extra "GO"
  rename Fr h₀ L _ m => hF
  rename ND _ => hnd
  exact k _ _ _ 0 _ _ _ _ _ hF (by k_extra "FRESH") (by k_extra "FRESH") hnd.ne (by k_extra "AT?") (by k_extra "AT?") (by k_extra "AT?") (by k_extra "KEPT")
theorem lam_pragmaGet (C : Cx w mean mg mb A₀ base h₀ outer L m cs s.heap) (LA : LamAt h₀ 12 f cell)
    (N : News h₀ L s.heap [(cell, co), (asked, listOf vs.toArray n)]) (hco : co.data = .cell (some (.ref asked))) (S : ND [cell, asked]) (hz : vs.length ≤ 1000) (hx : x.length ≤ 1000) (hd : dp + 8 < recursionLimit)
    (k : ∀ (r : Addr) (q q2 n' tk : Nat) h', Fr h₀ L h' m → s.heap.get? r = none → h'.get? r = some (tupOf #[.str "pragma_get" q, .str x tx]) → h'.get? asked = some (listOf (vs ++ [Value.ref r]).toArray n') → Kept [asked] s.heap h' → Q (.int x.length q2) { s with heap := h', toks := tk }) :
    wpAny (model prog0 w) (AR dp un (envX cn cs L ea ccd cl) outer) (call (.ref f) [.str x tx]) Q E s := by
  obtain ⟨X, T, B, F, hk⟩ := C
  obtain ⟨name, qual, pm, c', ctv, ho, hcd⟩ := LA.keeps F.keep
  refine' enterL (binds := [(("setting" : Str), .str x tx)]) X T B F N rfl hk ho hcd ?k8 ?k9 ?kL ?_ ?c2 ?c3 ?c4 ?c5
  k_extra "ENTERL"
  k_extra "GO"
  rename Fr h₀ L _ m => hF
  exact k _ _ _ _ _ _ hF (by k_extra "FRESH") (by k_extra "AT?") (by k_extra "AT?") (by k_extra "KEPT")
theorem lam_pragmaSet (C : Cx w mean mg mb A₀ base h₀ outer L m cs s.heap) (LA : LamAt h₀ 13 f cell)
    (N : News h₀ L s.heap [(cell, co), (asked, listOf vs.toArray n)]) (hco : co.data = .cell (some (.ref asked))) (S : ND [cell, asked]) (hz : vs.length ≤ 1000) (hd : dp + 8 < recursionLimit)
    (k : ∀ (r ans : Addr) (q q2 q3 q4 n' tk : Nat) h', Fr h₀ L h' m → s.heap.get? r = none → s.heap.get? ans = none → ans ≠ r → h'.get? r = some (tupOf #[.str "pragma_set" q, u, v]) → h'.get? ans = some (listOf #[u, v, .int 7 q3] 0) → h'.get? asked = some (listOf (vs ++ [Value.ref r]).toArray n') → Kept [asked] s.heap h' → Q (.ref ans) { s with heap := h', toks := tk }) :
    wpAny (model prog0 w) (AR dp un (envX cn cs L ea ccd cl) outer) (call (.ref f) [u, v]) Q E s := by
  obtain ⟨X, T, B, F, hk⟩ := C
  obtain ⟨name, qual, pm, c', ctv, ho, hcd⟩ := LA.keeps F.keep
  refine' enterL (binds := [(("setting" : Str), u), (("value" : Str), v)]) X T B F N rfl hk ho hcd ?k8 ?k9 ?kL ?_ ?c2 ?c3 ?c4 ?c5
  k_extra "ENTERL"
  k_extra "GO"
  rename Fr h₀ L _ m => hF
  rename ND _ => hnd
  exact k _ _ _ 0 _ 0 _ _ _ hF (by k_extra "FRESH") (by k_extra "FRESH") hnd.ne (by k_extra "AT?") (by k_extra "AT?") (by k_extra "AT?") (by k_extra "KEPT")
theorem lam_create (C : Cx w mean mg mb A₀ base h₀ outer L m cs s.heap) (LA : LamAt h₀ 14 f cell)
    (N : News h₀ L s.heap [(cell, co), (asked, listOf vs.toArray n)]) (hco : co.data = .cell (some (.ref asked))) (S : ND [cell, asked]) (hz : vs.length ≤ 1000) (hx : x.length ≤ 1000) (hd : dp + 8 < recursionLimit)
    (k : ∀ (r : Addr) (q q2 n' tk : Nat) h', Fr h₀ L h' m → s.heap.get? r = none → h'.get? r = some (tupOf #[.str "create" q, .str x tx]) → h'.get? asked = some (listOf (vs ++ [Value.ref r]).toArray n') → Kept [asked] s.heap h' → Q (.int (40 + x.length) q2) { s with heap := h', toks := tk }) :
    wpAny (model prog0 w) (AR dp un (envX cn cs L ea ccd cl) outer) (call (.ref f) [.str x tx]) Q E s := by
  obtain ⟨X, T, B, F, hk⟩ := C
  obtain ⟨name, qual, pm, c', ctv, ho, hcd⟩ := LA.keeps F.keep
  refine' enterL (binds := [(("kind" : Str), .str x tx)]) X T B F N rfl hk ho hcd ?k8 ?k9 ?kL ?_ ?c2 ?c3 ?c4 ?c5
  k_extra "ENTERL"
  k_extra "GO"
  rename Fr h₀ L _ m => hF
  exact k _ _ _ _ _ _ hF (by k_extra "FRESH") (by k_extra "AT?") (by k_extra "AT?") (by k_extra "KEPT")
theorem lam_drop (C : Cx w mean mg mb A₀ base h₀ outer L m cs s.heap) (LA : LamAt h₀ 15 f cell)
    (N : News h₀ L s.heap [(cell, co), (asked, listOf vs.toArray n)]) (hco : co.data = .cell (some (.ref asked))) (S : ND [cell, asked]) (hz : vs.length ≤ 1000) (hd : dp + 8 < recursionLimit)
    (k : ∀ (r : Addr) (q q2 n' tk : Nat) h', Fr h₀ L h' m → s.heap.get? r = none → h'.get? r = some (tupOf #[.str "drop" q, v]) → h'.get? asked = some (listOf (vs ++ [Value.ref r]).toArray n') → Kept [asked] s.heap h' → Q (.none) { s with heap := h', toks := tk }) :
    wpAny (model prog0 w) (AR dp un (envX cn cs L ea ccd cl) outer) (call (.ref f) [v]) Q E s := by
  obtain ⟨X, T, B, F, hk⟩ := C
  obtain ⟨name, qual, pm, c', ctv, ho, hcd⟩ := LA.keeps F.keep
  refine' enterL (binds := [(("root" : Str), v)]) X T B F N rfl hk ho hcd ?k8 ?k9 ?kL ?_ ?c2 ?c3 ?c4 ?c5
  k_extra "ENTERL"
  k_extra "GO"
  rename Fr h₀ L _ m => hF
  exact k _ _ 0 _ _ _ hF (by k_extra "FRESH") (by k_extra "AT?") (by k_extra "AT?") (by k_extra "KEPT")
theorem lam_clear (C : Cx w mean mg mb A₀ base h₀ outer L m cs s.heap) (LA : LamAt h₀ 16 f cell)
    (N : News h₀ L s.heap [(cell, co), (asked, listOf vs.toArray n)]) (hco : co.data = .cell (some (.ref asked))) (S : ND [cell, asked]) (hz : vs.length ≤ 1000) (hi : 0 ≤ i) (hi2 : i < 1000) (hd : dp + 8 < recursionLimit)
    (k : ∀ (r : Addr) (q q2 n' tk : Nat) h', Fr h₀ L h' m → s.heap.get? r = none → h'.get? r = some (tupOf #[.str "clear" q, .int i ti]) → h'.get? asked = some (listOf (vs ++ [Value.ref r]).toArray n') → Kept [asked] s.heap h' → Q (.int (3 * i) q2) { s with heap := h', toks := tk }) :
    wpAny (model prog0 w) (AR dp un (envX cn cs L ea ccd cl) outer) (call (.ref f) [.int i ti]) Q E s := by
  obtain ⟨X, T, B, F, hk⟩ := C
  obtain ⟨name, qual, pm, c', ctv, ho, hcd⟩ := LA.keeps F.keep
  refine' enterL (binds := [(("root" : Str), .int i ti)]) X T B F N rfl hk ho hcd ?k8 ?k9 ?kL ?_ ?c2 ?c3 ?c4 ?c5
  k_extra "ENTERL"
  k_extra "GO"
  rename Fr h₀ L _ m => hF
  exact k _ _ _ _ _ _ hF (by k_extra "FRESH") (by k_extra "AT?") (by k_extra "AT?") (by k_extra "KEPT")
end

theorem fillIt8 : PySem.Challenge.rw_pb0451_01 = PySem.Challenge.rw_pb0451_01 ∧ KH = KH := by k_fill; exact ⟨rfl, rfl⟩
theorem klines_C8_0 : True := by
  k_with_none
  (k_with "subscriptTail Name Constant ref int" => ((k_here; (with_reducible show wpAny _ _ (subscriptTail _ _ (Value.ref _) (Value.int _ _)) _ _ _); (with_unfolding_all refine' item_litK ?z73ea9d_k1 ?z73ea9d_k2 ?z73ea9d_k3 ?z73ea9d_k4 ?_ ?z73ea9d_k6; (case z73ea9d_k1 => is_list); (case z73ea9d_k2 => decide); (case z73ea9d_k3 => decide); (case z73ea9d_k4 => rfl); (case z73ea9d_k6 => with_unfolding_all rfl); k_whole))))
  (k_with "ENTER" => (((case k6 => k_is); (case k7 => k_is); (case k8 => omega); (case k9 => exact BindsTo.of_eq rfl); (case kB => (conv => lhs; whnf)); (case kL => exact locs rfl); (case c2 => exact rfl); (case c3 => exact rfl); (case c4 => exact rfl); (case c5 => decide); intro g' L' h' HG' FG' F' N' B' X' T' l'; (try dsimp only); k_fold)))
  (k_with "GO" => (repeat' (first | (k_unfold; (try dsimp only)) | (k_end; wrow_close) | walk1 | (dsimp only; walk1))))
  (k_with "ATF" => (first | refine' AtF.head | (refine' AtF.tail ?zaeb911_b; (case zaeb911_b => k_extra "ATF"))))
  (k_with "AT" => (first | refine' At.head | (refine' At.tail ?z4c4c10_b; (case z4c4c10_b => k_extra "AT"))))
  (k_with "M k_upd" => ((rename ND _ => hS; refine' upd_sd ?z531fe4_a hS ?z531fe4_e; (case z531fe4_a => k_extra "AT"); (case z531fe4_e => rfl))))
  (k_with "M k_updF" => ((rename ND _ => hS; refine' updF_sd ?zc7fe0e_a hS ?zc7fe0e_e; (case zc7fe0e_a => k_extra "ATF"); (case zc7fe0e_e => rfl))))
  (k_with "M kn_among" => ((simp [codeAmong, rawInt]; done)))
  (k_with "M kn_triples" => ((simp [TriplesOk, rawInt]; done)))
  (k_with "M k_room" => ((first | omega | ((try simp only [depth_mark, depth_under_make, depth_under_kw, depth_in1, depth_deeper, depth_caller]); omega))))
  (k_with "SUB" => (first | exact List.forall_mem_nil _ | (refine' List.forall_mem_cons.mpr ⟨?z3be472_h, ?z3be472_t⟩; (case z3be472_h => k_mem); (case z3be472_t => k_extra "SUB"))))
  (k_with "ATS" => (first | refine' Ats.nil | (refine' Ats.hit ?z9e6f72_b; (case z9e6f72_b => k_extra "ATS")) | (refine' Ats.skip ?z9e6f72_b; (case z9e6f72_b => k_extra "ATS"))))
  (k_with "CX" => ((refine' ⟨?za4188e_x1, ?za4188e_x2, ?za4188e_x3, ?za4188e_x4, ?za4188e_x5⟩; (case za4188e_x1 => k_asm); (case za4188e_x2 => k_asm); (case za4188e_x3 => k_asm); (case za4188e_x4 => k_asm); (case za4188e_x5 => first | rfl | assumption))))
  (k_with "NSUB" => ((refine' news_sub ?za7b379_N ?za7b379_s; (case za7b379_N => k_asm); (case za7b379_s => k_extra "SUB"))))
  (k_with "getMethod ref" => ((k_here; (with_reducible show wpAny _ _ (getMethod (Value.ref _) (Str.ofString "get") _) _ _ _); k_dflt (refine' kdg_method (knd := intKind prog0 _) ?z1e447a_N ?z1e447a_m ?z1e447a_d ?_; (case z1e447a_N => k_asm); (case z1e447a_m => k_mem); (case z1e447a_d => assumption)))))
  (k_with "call builtin:dict.get" => ((k_here; k_dflt (refine' kdg_get1 (knd := intKind prog0 _) ?z9e4d13_N ?z9e4d13_m ?z9e4d13_d ?z9e4d13_l ?z9e4d13_k _ rfl ?_; (case z9e4d13_N => k_asm); (case z9e4d13_m => k_mem); (case z9e4d13_d => assumption); (case z9e4d13_l => assumption); (case z9e4d13_k => exact intKind_is _ _ _ _)))))
  (k_with "KSEL" => (first | exact fun _ h => absurd h List.not_mem_nil | (refine' List.forall_mem_cons.mpr ⟨?zf64061_h, ?zf64061_t⟩; (case zf64061_h => first | exact Or.inl (by k_mem) | (refine' Or.inr ⟨_, News.get ?zf64061_n1 ?zf64061_m1, News.get ?zf64061_n2 ?zf64061_m2⟩; (case zf64061_n1 => k_asm); (case zf64061_m1 => k_mem); (case zf64061_n2 => k_asm); (case zf64061_m2 => k_mem))); (case zf64061_t => k_extra "KSEL"))))
  (k_with "KEPT" => ((refine' Kept.sel (kept_of ?z6ac77d_hg ?z6ac77d_f) ?z6ac77d_s; (case z6ac77d_hg => assumption); (case z6ac77d_f => assumption); (case z6ac77d_s => k_extra "KSEL"))))
  (k_with "SUBM" => (first | exact fun _ h => absurd h List.not_mem_nil | (refine' List.forall_mem_cons.mpr ⟨?zaff134_h, ?zaff134_t⟩; (case zaff134_h => k_mem); (case zaff134_t => k_extra "SUBM"))))
  (k_with "FRESH" => ((refine' fresh_of ?z9e8148_hg ?z9e8148_n ?z9e8148_m ?z9e8148_nd ?z9e8148_hs; (case z9e8148_hg => assumption); (case z9e8148_n => assumption); (case z9e8148_m => k_mem); (case z9e8148_nd => first | assumption | exact ND.tl (by assumption) | exact ND.tl (ND.tl (by assumption)) | exact ND.tl (ND.tl (ND.tl (by assumption)))); (case z9e8148_hs => k_extra "SUBM"))))
  (k_with "AT?" => ((refine' News.get ?z4603e9_n1 ?z4603e9_m1; (case z4603e9_n1 => k_asm); (case z4603e9_m1 => k_mem))))
  trivial
/-- an if-chain `if x == 'a': .. elif x == 'b': .. else: ..` over a local that holds a str -/
def eqTest (x : Str) : Stmt → Option (Str × List Stmt × List Stmt)
  | .If (.Compare (.Name y _) [.Eq] [.Constant (.str l) _ _] _) yes no _ => if y = x then some (l, yes, no) else none
  | _ => none
theorem eqTest_some {x l : Str} {yes no : List Stmt} : ∀ {st : Stmt}, eqTest x st = some (l, yes, no) → ∃ p1 kd p2 p3 p4, st = .If (.Compare (.Name x p1) [.Eq] [.Constant (.str l) kd p2] p3) yes no p4 := by
  intro st e
  unfold eqTest at e
  split at e
  · split at e
    · rename_i hy
      cases e; subst hy
      exact ⟨_, _, _, _, _, rfl⟩
    · cases e
  · cases e
def pick (x n : Str) : Nat → Stmt → List Stmt ⊕ Stmt
  | 0, st => .inr st
  | k + 1, st => match eqTest x st with
    | some (l, yes, no) => if n == l then .inl yes else (match no with | [st'] => pick x n k st' | ss => .inl ss)
    | none => .inr st
abbrev After (M : Model) (A : Around) (E : Value → Shared → Prop) (Q : Flow → Shared → Prop) (env : Env) (s : Shared) : List Stmt ⊕ Stmt → Prop
  | .inl ss => wpAny M A (execs ss env) Q E s
  | .inr st => wpAny M A (exec st env) Q E s
section
variable {w : World} {A : Around} {E : Value → Shared → Prop} {h₀ : Heap} {L ea : Addr} {m : Str → Option Value} {cn : Str} {cs : Scope} {ccd : Value} {cl : List (Str × Addr)} {x n : Str} {t : Nat} {Q : Flow → Shared → Prop}
theorem chain_one {l : Str} {yes no : List Stmt} {s : Shared} {p1 p2 p3 p4 : Pos} {kd : Nat} (F : Fr h₀ L s.heap m) (hv : m x = some (.str n t)) (hk : cs.kind = .function) (hx : (envX cn cs L ea ccd cl).kindOf x = some .local) (hd : (x == ("__debug__" : Str)) = false)
    (h : if n == l then wpAny (model prog0 w) A (execs yes (envX cn cs L ea ccd cl)) Q E { s with toks := s.toks + 1 } else wpAny (model prog0 w) A (execs no (envX cn cs L ea ccd cl)) Q E { s with toks := s.toks + 1 }) :
    wpAny (model prog0 w) A (exec (.If (.Compare (.Name x p1) [.Eq] [.Constant (.str l) kd p2] p3) yes no p4) (envX cn cs L ea ccd cl)) Q E s :=
  wpAny_If (wpAny_isTrue_Compare1 (nameX_L F hv (wpAny_Constant_str (eq_str (wpAny_truthy_bool h))) hk hx hd))
theorem chainX (hv : m x = some (.str n t)) (hk : cs.kind = .function) (hx : (envX cn cs L ea ccd cl).kindOf x = some .local) (hd : (x == ("__debug__" : Str)) = false) : ∀ (k : Nat) (st : Stmt) (s : Shared) (_ : Fr h₀ L s.heap m) {r : List Stmt ⊕ Stmt} (_ : pick x n k st = r)
    (_ : ∀ tk, After (model prog0 w) A E Q (envX cn cs L ea ccd cl) { s with toks := tk } r), wpAny (model prog0 w) A (exec st (envX cn cs L ea ccd cl)) Q E s
  | 0, st, s, F, r, e, h => by subst e; exact h s.toks
  | k + 1, st, s, F, r, e, h => by
    unfold pick at e
    split at e
    · rename_i l yes no he
      obtain ⟨p1, kd, p2, p3, p4, rfl⟩ := eqTest_some he
      refine chain_one F hv hk hx hd ?_
      split at e
      · rename_i q
        rw [if_pos q]; subst e; exact h _
      · rename_i q
        rw [if_neg q]
        split at e
        · rename_i st'
          refine wpAny_execs_cons (wpAny_mono (chainX hv hk hx hd k st' { s with toks := s.toks + 1 } F e fun tk => h tk) (fun f s' hq => ?_) fun _ _ x => x)
          cases f <;> first | exact wpAny_execs_nil hq | exact hq
        · subst e; exact h _
    · subst e; exact h s.toks
theorem chainN {l : Str} {yes no : List Stmt} {s : Shared} {p1 p2 p3 p4 : Pos} {kd : Nat} {r : List Stmt ⊕ Stmt} (F : Fr h₀ L s.heap m) (hv : m x = some (.str n t)) (hk : cs.kind = .function) (hx : (envX cn cs L ea ccd cl).kindOf x = some .local) (hd : (x == ("__debug__" : Str)) = false)
    (e : pick x n 20 (.If (.Compare (.Name x p1) [.Eq] [.Constant (.str l) kd p2] p3) yes no p4) = r) (h : ∀ tk, After (model prog0 w) A E Q (envX cn cs L ea ccd cl) { s with toks := tk } r) :
    wpAny (model prog0 w) A (exec (.If (.Compare (.Name x p1) [.Eq] [.Constant (.str l) kd p2] p3) yes no p4) (envX cn cs L ea ccd cl)) Q E s := chainX hv hk hx hd 20 _ s F e h
end
theorem LamAt.fn {h h' : Heap} {i : Nat} {f cell : Addr} (x : LamAt h i f cell) (k : ∀ b o, h.get? b = some o → h'.get? b = some o) : FnAt f h' :=
  let ⟨_, _, _, _, _, h1, _⟩ := x; ⟨_, _, _, _, k _ _ h1⟩
section
variable {w : World} {mean : ExcName → Option Value} {mg mb : Str → Option Value} {A₀ : Around} {base h₀ : Heap} {outer : List Env} {env : Env} {L : Addr} {m : Str → Option Value} {dp un : Nat} {s : Shared} {news : List (Addr × Obj)}
  {Q : Value → Shared → Prop} {E : Value → Shared → Prop} {name qual : Str} {fs : Stmt} {dV kV doc pm cdv ct oc : Value} {an od : Option Addr} {osl : Array (Option Value)} {f : Addr}
theorem enterB2 (x1 x2 : Str) {a b : Value} (X : (KH w.params).In h₀) (T : Top topProg lawLoose mean mg mb h₀) (B : Below A₀ base outer h₀) (F : Fr h₀ L s.heap m) (N : News h₀ L s.heap news) (hf : env.frame = some L) (hk : env.scope.kind = .function)
    (ho : (KH w.params).lookup f = some ⟨oc, od, .func (FN name qual fs dV kV doc pm an cdv ct), osl⟩) (hcd : codeIn (KH w.params) cdv qual = true) (hroom : dp < recursionLimit)
    (hbind : BindsTo s (FN name qual fs dV kV doc pm an cdv ct) ⟨[a, b], []⟩ [(x1, a), (x2, b)]) (hloc : ∀ y ∈ [(x1, a), (x2, b)], (fScope fs).names.lookup y.1 = some .local) {body : List Stmt} (hb : fBody fs = body)
    (h : ∀ g L' h₁, (∀ b o, s.heap.get? b = some o → b ∉ news.map (·.1) → g.get? b = some o) → Fr h₀ L g m → Fr g L' h₁ (fun y => [(x1, a), (x2, b)].reverse.lookup y) → News g L' h₁ news → Below (AR dp un env outer) base (env :: outer) g → (KH w.params).In g → Top topProg lawLoose mean mg mb g → (∀ p ∈ news, p.1 < L') →
      wpAny (model prog0 w) (AR (dp + 1) (un + 3) (envOf qual (fScope fs) L' f cdv) (env :: outer)) (execs body (envOf qual (fScope fs) L' f cdv))
        (fun fl s' => LeaveK h₀ L m g (fun r s' => match r with | .ok (.ret v) => Q v s' | .ok _ => False | .error e => E e s') (match fl with | .ret v => v | _ => .none) s')
        (fun _ _ => False) { s with heap := h₁, toks := s.toks + 2 })
    (hco : (fScope fs).isCoroutine = false) (hgen : (fScope fs).isGenerator = false) (hk' : (fScope fs).kind = .function)
    (hcell : ∀ x ∈ (fScope fs).names, x.2 ≠ .cell) : wpAny (model prog0 w) (AR dp un env outer) (call (.ref f) [a, b]) Q E s := enter (pos := [a, b]) (binds := [(x1, a), (x2, b)]) X T B F N hf hk ho hcd hroom hbind hloc hb h hco hgen hk' hcell
end
/-- the law's standing objects: their addresses, and what is never looked at -/
structure W0 where
  src : Addr
  asked : Addr
  cell : Addr
  co : Obj
  core : Addr
  cd : Addr
  regs : Addr
  mach : Addr
  md : Addr
  conn : Addr
  cnd : Addr
  btree : Addr
  btd : Addr
  lam : Nat → Addr
  t : Nat → Nat
  v : Nat → Value
abbrev connD (P : Params) (z : W0) (cc : Int) (ct : Nat) : List DictEntry := [KE P "ops" (z.t 1) (z.v 1), KE P "columns" (z.t 2) (z.v 2), KE P "registers" (z.t 3) (z.v 3), KE P "cursors" (z.t 4) (z.v 4), KE P "slots" (z.t 5) (z.v 5), KE P "writes" (z.t 6) (z.v 6), KE P "labels" (z.t 7) (z.v 7), KE P "next_label" (z.t 8) (z.v 8),
  KE P "btree" (z.t 9) (.ref z.btree), KE P "change_count" (z.t 10) (.int cc ct), KE P "start" (z.t 11) (.ref (z.lam 2)), KE P "begin" (z.t 12) (.ref (z.lam 3)), KE P "rollback_statement" (z.t 13) (.ref (z.lam 4)), KE P "commit_statement" (z.t 14) (.ref (z.lam 5)), KE P "savepoint" (z.t 15) (.ref (z.lam 6)), KE P "load_schema" (z.t 16) (.ref (z.lam 7)),
  KE P "raise_cookie" (z.t 17) (.ref (z.lam 8)), KE P "verify_cookie" (z.t 18) (.ref (z.lam 9)), KE P "vacuum" (z.t 19) (.ref (z.lam 10)), KE P "integrity_texts" (z.t 20) (.ref (z.lam 11)), KE P "pragma_get" (z.t 21) (.ref (z.lam 12)), KE P "pragma_set" (z.t 22) (.ref (z.lam 13))]
abbrev btreeD (P : Params) (z : W0) : List DictEntry := [KE P "ops" (z.t 31) (z.v 31), KE P "columns" (z.t 32) (z.v 32), KE P "registers" (z.t 33) (z.v 33), KE P "cursors" (z.t 34) (z.v 34), KE P "slots" (z.t 35) (z.v 35), KE P "writes" (z.t 36) (z.v 36), KE P "labels" (z.t 37) (z.v 37), KE P "next_label" (z.t 38) (z.v 38),
  KE P "create" (z.t 39) (.ref (z.lam 14)), KE P "drop" (z.t 40) (.ref (z.lam 15)), KE P "clear" (z.t 41) (.ref (z.lam 16))]
abbrev machD (P : Params) (z : W0) (texts : Addr) : List DictEntry := [KE P "core" (z.t 51) (.ref z.core), KE P "connection" (z.t 52) (.ref z.conn), KE P "texts" (z.t 53) (.ref texts)]
abbrev coreZ (P : Params) (z : W0) : List DictEntry := coreD P (z.t 61) (z.t 62) (z.t 63) (z.v 61) (z.v 63) z.regs
theorem with_back1 {h₀ h h' : Heap} {L r : Addr} {or : Obj} {ch l l' : List (Addr × Obj)} {as : List Addr} {P : Prop} {m : Str → Option Value} (N : News h₀ L h l) (s : ND as) (e : l.map (·.1) = as) (k : Kept (ch.map (·.1)) h h') (hc : ∀ p ∈ ch, h'.get? p.1 = some p.2) (hf : h.get? r = none) (hr : h'.get? r = some or) (F : Fr h₀ L h m) (a : Ats ch l l') (x : News h₀ L h' ((r, or) :: l') → P) : P := by
  refine x fun p hp => ?_
  rcases List.mem_cons.mp hp with rfl | hp
  · refine ⟨hr, fun q => ?_, ?_⟩
    · obtain ⟨oL, _, _, hL, _⟩ := F.ns
      have q : r = L := q
      rw [q, hL] at hf; cases hf
    · cases q : h₀.get? r with
      | none => rfl
      | some o => have := F.keep _ _ q; rw [hf] at this; cases this
  · exact news_back N a s e k hc p hp
theorem ND.fresh2 {h₀ h : Heap} {L a r : Addr} {as : List Addr} {l : List (Addr × Obj)} (s : ND (r :: as)) (N : News h₀ L h l) (e : l.map (·.1) = as) (hf : h.get? a = none) (ne : a ≠ r) : ND (a :: r :: as) := by
  refine List.nodup_cons.mpr ⟨fun hb => ?_, s⟩
  rcases List.mem_cons.mp hb with e' | hb
  · exact ne e'
  · exact (List.nodup_cons.mp (ND.fresh (List.nodup_cons.mp s).2 N e hf)).1 hb
theorem ND.succ {i : Addr} {as : List Addr} {news : List (Addr × Obj)} (l1 : ∀ p ∈ news, p.1 < i) (s : ND (i :: as)) (e : news.map (·.1) = as) : ND ((i + 1 : Addr) :: i :: as) := by
  subst e
  refine List.nodup_cons.mpr ⟨fun hb => ?_, s⟩
  rcases List.mem_cons.mp hb with e' | hb
  · exact absurd e' (Nat.succ_ne_self i)
  · obtain ⟨p, hp, e'⟩ := List.mem_map.mp hb
    exact absurd (l1 p hp) (by rw [e']; exact Nat.not_lt.mpr (Nat.le_succ i))
theorem ND.off {p q : Addr} {as : List Addr} (s : ND (q :: as)) (h : p ∈ as) : p ≠ q := fun e => (List.nodup_cons.mp s).1 (e ▸ h)
theorem with_back2 {h₀ h h' : Heap} {L r r2 : Addr} {or or2 : Obj} {ch l l' : List (Addr × Obj)} {as : List Addr} {P : Prop} {m : Str → Option Value} (N : News h₀ L h l) (s : ND as) (e : l.map (·.1) = as) (k : Kept (ch.map (·.1)) h h') (hc : ∀ p ∈ ch, h'.get? p.1 = some p.2) (hf : h.get? r = none) (hr : h'.get? r = some or) (hf2 : h.get? r2 = none) (hr2 : h'.get? r2 = some or2) (F : Fr h₀ L h m) (a : Ats ch l l') (x : News h₀ L h' ((r2, or2) :: (r, or) :: l') → P) : P :=
  with_back1 N s e k hc hf hr F a fun N1 => with_back1 N s e k hc hf2 hr2 F a fun N2 => x fun p hp => by
    rcases List.mem_cons.mp hp with rfl | hp
    · exact N2 _ (.head _)
    · exact N1 p hp
theorem klines_C8_1 : True := by
  (k_with "PRE" => ((intro g' L' h' tk' HG' FG' F' N' B' X' T' l'; (conv => arg 3; arg 1; whnf); k_fold)))
  (k_with "NDSUB" => ((refine' ND.sub ?zb41ab3_s ?zb41ab3_l; (case zb41ab3_s => assumption); (case zb41ab3_l => k_extra "SUBL"))))
  (k_with "SUBL" => (first | exact List.nil_sublist _ | (refine' List.Sublist.cons_cons _ ?ze75662_b; (case ze75662_b => k_extra "SUBL")) | (refine' List.Sublist.cons _ ?ze75662_b; (case ze75662_b => k_extra "SUBL"))))
  (k_with "LAMC" => (((case lmxc => k_extra "CX"); (case lmxla => k_extra "LAMK"); (case lmxhc => assumption); (case lmxz => assumption); (case lmxn => k_extra "NSUB"); (case lmxs => k_extra "NDSUB"); (case lmxd => omega))))
  (k_with "BACK1" => ((intro r' q' q2' n' tk' h' F' f1' g1' hs' hK'; rename ND _ => hS; (rename News _ _ _ _ => oN); (have hS2 := ND.fresh hS oN rfl f1'); refine' with_back1 (ch := [(_, _)]) oN hS rfl hK' (List.forall_mem_cons.mpr ⟨hs', List.forall_mem_nil _⟩) f1' g1' ?z825330_fr ?z825330_at' ?_; (case z825330_fr => assumption); (case z825330_at' => k_extra "ATS"); intro N'; clear oN hK' hs' g1' f1')))
  (k_with "BACK2" => ((intro r' ans' q' q2' q3' q4' n' tk' h' F' f1' f2' ne' g1' g2' hs' hK'; rename ND _ => hS; (rename News _ _ _ _ => oN); (have hS2 := ND.fresh hS oN rfl f1'); (have hS3 := ND.fresh2 hS2 oN rfl f2' ne'); refine' with_back2 (ch := [(_, _)]) oN hS rfl hK' (List.forall_mem_cons.mpr ⟨hs', List.forall_mem_nil _⟩) f1' g1' f2' g2' ?zcb3c6e_fr ?zcb3c6e_at' ?_; (case zcb3c6e_fr => assumption); (case zcb3c6e_at' => k_extra "ATS"); intro N'; clear oN hK' hs' g1' f1' g2' f2' ne')))
  (k_with "BACKP" => ((intro ro' tk' h' F' g1' hr' hK'; rename ND _ => hS; (rename News _ _ _ _ => oN); refine' with_back (ch := [(_, _)]) oN hS rfl hK' (List.forall_mem_cons.mpr ⟨g1', List.forall_mem_nil _⟩) ?z13acb0_at' ?_; (case z13acb0_at' => k_extra "ATS"); intro N'; clear oN hK' g1')))
  (k_with "BACK0" => ((intro tk' h' F' hK'; (rename News _ _ _ _ => oN); have N' := news_kept oN hK' (fun _ _ h => nomatch h); clear oN hK')))
  trivial
section
variable {w : World} {mean : ExcName → Option Value} {mg mb : Str → Option Value} {A₀ : Around} {base h₀ : Heap} {outer : List Env} {cn : Str} {cs : Scope} {L ea : Addr} {ccd : Value} {cl : List (Str × Addr)} {m : Str → Option Value} {dp un : Nat} {s : Shared} {Q : Value → Shared → Prop} {E : Value → Shared → Prop}
variable {z : W0} {opl texts : Addr} {ro : Obj} {kvs : List (Int × Value)} {vs : List Value} {n on tn : Nat} {cc : Int} {ct : Nat} {fv v u p1 p2 p3 p4 a b gv : Value} {q0 q1 q2 q3 q4 : Nat} {x : Str} {tx : Nat} {i : Int} {ti tj : Nat} {tp : Addr}
theorem get_v {core cd regs : Addr} {t1 t2 t3 : Nat} {bnd once : Value} {r : Int} {rt : Nat} (C : Cx w mean mg mb A₀ base h₀ outer L m cs s.heap)
    (N : News h₀ L s.heap [(core, instObj 391 cd), (cd, dictOf (coreD w.params t1 t2 t3 bnd once regs) 3), (regs, ro)]) (S : ND [core, cd, regs]) (hr : ro.IsDictOf (intKind prog0 w) kvs) (hsm : (regs == sysModules) = false) (hd : dp + 5 < recursionLimit) (hv : (valueAt kvs r).getD .none = gv)
    (k : ∀ (tk : Nat) h', Fr h₀ L h' m → Kept [] s.heap h' → Q gv { s with heap := h', toks := tk }) :
    wpAny (model prog0 w) (AR dp un (envX cn cs L ea ccd cl) outer) (call (.ref 348) [.ref core, .int r rt]) Q E s := get_c C N S hr hsm hd (by rw [hv]; exact k)
theorem length_stored_le {kvs : List (Int × Value)} {k : Int} {v : Value} : (stored kvs k v).length ≤ kvs.length + 1 := by
  induction kvs with
  | nil => simp [stored]
  | cons p l ih => unfold stored; split <;> simp <;> omega
theorem step_pre {nm : Str} {rest : List (Addr × Obj)} (C : Cx w mean mg mb A₀ base h₀ outer L m cs s.heap) (N : News h₀ L s.heap ((opl, listOf #[.str nm q0, p1, p2, p3, p4] on) :: (z.mach, instObj 60 z.md) :: (z.md, dictOf (machD w.params z texts) 3) :: rest)) (hd : dp + 15 < recursionLimit) (hu : un + 60 < cLine)
    (h : ∀ g L' h₁ tk, (∀ b o, s.heap.get? b = some o → b ∉ ((opl, listOf #[.str nm q0, p1, p2, p3, p4] on) :: (z.mach, instObj 60 z.md) :: (z.md, dictOf (machD w.params z texts) 3) :: rest).map (·.1) → g.get? b = some o) → Fr h₀ L g m →
      Fr g L' h₁ (fun y => if y = "connection" then some (.ref z.conn) else if y = "p4" then some p4 else if y = "p3" then some p3 else if y = "p2" then some p2 else if y = "p1" then some p1 else if y = "name" then some (.str nm q0) else List.lookup y [(("self" : Str), .ref z.mach), (("op" : Str), .ref opl), (("following" : Str), fv)].reverse) →
      News g L' h₁ ((opl, listOf #[.str nm q0, p1, p2, p3, p4] on) :: (z.mach, instObj 60 z.md) :: (z.md, dictOf (machD w.params z texts) 3) :: rest) → Below (AR dp un (envX cn cs L ea ccd cl) outer) base (envX cn cs L ea ccd cl :: outer) g → (KH w.params).In g → Top topProg lawLoose mean mg mb g → (∀ p ∈ ((opl, listOf #[.str nm q0, p1, p2, p3, p4] on) :: (z.mach, instObj 60 z.md) :: (z.md, dictOf (machD w.params z texts) 3) :: rest), p.1 < L') →
      wpAny (model prog0 w) (AR (dp + 1) (un + 3) (envOf "Database.step" (fScope (mth 3 2)) L' 50 (.ref 49)) (envX cn cs L ea ccd cl :: outer)) (execs ((fBody (mth 3 2)).drop 2) (envOf "Database.step" (fScope (mth 3 2)) L' 50 (.ref 49)))
        (fun fl s' => LeaveK h₀ L m g (fun r s' => match r with | .ok (.ret v) => Q v s' | .ok _ => False | .error e => E e s') (match fl with | .ret v => v | _ => .none) s')
        (fun _ _ => False) { s with heap := h₁, toks := tk }) :
    wpAny (model prog0 w) (AR dp un (envX cn cs L ea ccd cl) outer) (call (.ref 50) [.ref z.mach, .ref opl, fv]) Q E s := by
  obtain ⟨X, T, B, F, hk⟩ := C
  refine' enter (binds := [(("self" : Str), .ref z.mach), (("op" : Str), .ref opl), (("following" : Str), fv)]) X T B F N rfl hk ?k6 ?k7 ?k8 ?k9 ?kL ?kB ?_ ?c2 ?c3 ?c4 ?c5
  k_extra "ENTER"
  iterate 27 (first | (k_unfold; (try dsimp only)) | walk1 | (dsimp only; walk1))
  exact h _ _ _ _ (by assumption) (by assumption) (by assumption) (by assumption) (by assumption) (by assumption) (by assumption) (by assumption)
theorem setting_pre {nm : Str} {rest : List (Addr × Obj)} (C : Cx w mean mg mb A₀ base h₀ outer L m cs s.heap) (N : News h₀ L s.heap ((opl, listOf #[.str nm q0, p1, p2, p3, p4] on) :: (z.mach, instObj 60 z.md) :: (z.md, dictOf (machD w.params z texts) 3) :: rest)) (hd : dp + 10 < recursionLimit) (hu : un + 40 < cLine)
    (h : ∀ g L' h₁ tk, (∀ b o, s.heap.get? b = some o → b ∉ ((opl, listOf #[.str nm q0, p1, p2, p3, p4] on) :: (z.mach, instObj 60 z.md) :: (z.md, dictOf (machD w.params z texts) 3) :: rest).map (·.1) → g.get? b = some o) → Fr h₀ L g m →
      Fr g L' h₁ (fun y => if y = "connection" then some (.ref z.conn) else if y = "p4" then some p4 else if y = "p3" then some p3 else if y = "p2" then some p2 else if y = "p1" then some p1 else if y = "name" then some (.str nm q0) else List.lookup y [(("self" : Str), .ref z.mach), (("op" : Str), .ref opl)].reverse) →
      News g L' h₁ ((opl, listOf #[.str nm q0, p1, p2, p3, p4] on) :: (z.mach, instObj 60 z.md) :: (z.md, dictOf (machD w.params z texts) 3) :: rest) → Below (AR dp un (envX cn cs L ea ccd cl) outer) base (envX cn cs L ea ccd cl :: outer) g → (KH w.params).In g → Top topProg lawLoose mean mg mb g → (∀ p ∈ ((opl, listOf #[.str nm q0, p1, p2, p3, p4] on) :: (z.mach, instObj 60 z.md) :: (z.md, dictOf (machD w.params z texts) 3) :: rest), p.1 < L') →
      wpAny (model prog0 w) (AR (dp + 1) (un + 3) (envOf "Database.setting" (fScope (mth 3 3)) L' 57 (.ref 56)) (envX cn cs L ea ccd cl :: outer)) (execs ((fBody (mth 3 3)).drop 2) (envOf "Database.setting" (fScope (mth 3 3)) L' 57 (.ref 56)))
        (fun fl s' => LeaveK h₀ L m g (fun r s' => match r with | .ok (.ret v) => Q v s' | .ok _ => False | .error e => E e s') (match fl with | .ret v => v | _ => .none) s')
        (fun _ _ => False) { s with heap := h₁, toks := tk }) :
    wpAny (model prog0 w) (AR dp un (envX cn cs L ea ccd cl) outer) (call (.ref 57) [.ref z.mach, .ref opl]) Q E s := by
  obtain ⟨X, T, B, F, hk⟩ := C
  refine' enter (binds := [(("self" : Str), .ref z.mach), (("op" : Str), .ref opl)]) X T B F N rfl hk ?k6 ?k7 ?k8 ?k9 ?kL ?kB ?_ ?c2 ?c3 ?c4 ?c5
  k_extra "ENTER"
  iterate 27 (first | (k_unfold; (try dsimp only)) | walk1 | (dsimp only; walk1))
  exact h _ _ _ _ (by assumption) (by assumption) (by assumption) (by assumption) (by assumption) (by assumption) (by assumption) (by assumption)
theorem klines_C8_2 : True := by
  (k_with "M ktu_off" => ((refine' Or.inl ?zf5502d_h; (case zf5502d_h => (try dsimp only); first | (refine' ND.off ?zf5502d_s ?zf5502d_m; (case zf5502d_s => assumption); (case zf5502d_m => k_mem)) | (refine' ND.off (ND.tl ?zf5502d_s) ?zf5502d_m; (case zf5502d_s => assumption); (case zf5502d_m => k_mem))))))
  (k_with "call type:enumerate" => ((k_here; (with_reducible show wpAny _ _ (call (Value.type _) [Value.ref _]) (fun xv s₁ => wpAny _ _ (pyIter xv) (fun it s₂ => TurnsAt _ _ _ _ _ _ _ _ _ it s₂) _ s₁) _ _); ktu_enumCall; (rename ND _ => hS; rename (∀ p ∈ _, Prod.fst p < _) => hl; have hS3 := ND.succ hl hS rfl))))
  (k_with "exec For Tuple Call cons nil" => ((k_here; (rename Fr _ _ _ _ => lF'); (with_unfolding_all refine' For_turns lF' ?_; k_whole))))
  (k_with "call ref" => ((k_here; (with_reducible show wpAny _ _ (call (Value.ref 57) _) _ _ _); k_dflt (refine' setting_pre ?zb53f9_c ?zb53f9_n ?zb53f9_d ?zb53f9_u ?_; (case zb53f9_c => k_extra "CX"); (case zb53f9_n => k_asm); (case zb53f9_d => omega); (case zb53f9_u => omega); k_extra "PRE"))))
  (k_with "exec If" => ((k_here; (with_reducible show wpAny _ _ (exec (Stmt.If (Expr.Compare (Expr.Name _ _) [CmpOp.Eq] [Expr.Constant (Const.str _) _ _] _) _ _ _) _) _ _ _); k_dflt (refine' chainN ?z8a6960_F ?z8a6960_v ?z8a6960_a ?z8a6960_b ?z8a6960_c ?z8a6960_e ?_; (case z8a6960_F => k_asm); (case z8a6960_v => exact rfl); (case z8a6960_a => exact rfl); (case z8a6960_b => exact rfl); (case z8a6960_c => decide); (case z8a6960_e => (conv => lhs; whnf)); intro tk; dsimp only))))
  (k_with "LAMK" => (first | assumption | (refine' LamAt.keeps ?z711d6a_la (Fr.keep ?z711d6a_fg); (case z711d6a_fg => assumption); (case z711d6a_la => k_extra "LAMK"))))
  (k_with "LAMFN" => ((refine' LamAt.fn ?z796dfd_la (Fr.keep ?z796dfd_f); (case z796dfd_f => k_asm); (case z796dfd_la => k_extra "LAMK"))))
  (k_with "callWith ref" => ((k_here; (with_reducible show wpAny _ _ (callWith _ (Value.ref (W0.lam _ _)) _ _ _) _ _ _); k_dflt (first | (refine' callWith_F ?z63c5fb_k1 ?_; (case z63c5fb_k1 => k_extra "LAMFN"); k_whole) | (refine' callWith_F0 ?z63c5fb_k1 ?_; (case z63c5fb_k1 => k_extra "LAMFN"); k_whole; try dsimp only [List.nil_append, List.cons_append])))))
  (k_with "And" => (((with_reducible show FnAt _ _ ∧ _); refine' ⟨?z5f8060_l, ?_⟩; (case z5f8060_l => k_extra "LAMFN"); try dsimp only [List.nil_append, List.cons_append])))
  (k_with "getMethod ref" => ((k_here; (with_reducible show wpAny _ _ (getMethod (Value.ref _) _ _) _ _ _); k_dflt (refine' kmu_own ?zfe51d9_k1 ?zfe51d9_k2 ?zfe51d9_k3 ?zfe51d9_k4 ?zfe51d9_k5 ?_; (case zfe51d9_k1 => k_asm); (case zfe51d9_k2 => k_asm); (case zfe51d9_k3 => k_inst); (case zfe51d9_k4 => k_is); (case zfe51d9_k5 => k_is); k_whole))))
  (k_with "call ref" => ((k_here; (with_reducible show wpAny _ _ (call (Value.ref (W0.lam _ _)) _) _ _ _); k_dflt (first | (refine' lam_start ?lmxc ?lmxla ?lmxn ?lmxhc ?lmxs ?lmxz ?lmxd ?_; k_extra "LAMC"; k_extra "BACK1") | (refine' lam_begin ?lmxc ?lmxla ?lmxn ?lmxhc ?lmxs ?lmxz ?lmxd ?_; k_extra "LAMC"; k_extra "BACK1") | (refine' lam_rollbackS ?lmxc ?lmxla ?lmxn ?lmxhc ?lmxs ?lmxz ?lmxd ?_; k_extra "LAMC"; k_extra "BACK1") | (refine' lam_commitS ?lmxc ?lmxla ?lmxn ?lmxhc ?lmxs ?lmxz ?lmxd ?_; k_extra "LAMC"; k_extra "BACK1") | (refine' lam_savepoint ?lmxc ?lmxla ?lmxn ?lmxhc ?lmxs ?lmxz ?lmxd ?_; k_extra "LAMC"; k_extra "BACK1") | (refine' lam_loadSchema ?lmxc ?lmxla ?lmxn ?lmxhc ?lmxs ?lmxz ?lmxd ?_; k_extra "LAMC"; k_extra "BACK1") | (refine' lam_raiseCookie ?lmxc ?lmxla ?lmxn ?lmxhc ?lmxs ?lmxz ?lmxd ?_; k_extra "LAMC"; k_extra "BACK1") | (refine' lam_verifyCookie ?lmxc ?lmxla ?lmxn ?lmxhc ?lmxs ?lmxz ?lmxd ?_; k_extra "LAMC"; k_extra "BACK1") | (refine' lam_vacuum ?lmxc ?lmxla ?lmxn ?lmxhc ?lmxs ?lmxz ?lmxd ?_; k_extra "LAMC"; k_extra "BACK1") | (refine' lam_integrity ?lmxc ?lmxla ?lmxn ?lmxhc ?lmxs ?lmxz ?lmxd ?_; k_extra "LAMC"; k_extra "BACK2") | (refine' lam_pragmaGet ?lmxc ?lmxla ?lmxn ?lmxhc ?lmxs ?lmxz ?z9696c_hx ?lmxd ?_; k_extra "LAMC"; (case z9696c_hx => assumption); k_extra "BACK1") | (refine' lam_pragmaSet ?lmxc ?lmxla ?lmxn ?lmxhc ?lmxs ?lmxz ?lmxd ?_; k_extra "LAMC"; k_extra "BACK2") | (refine' lam_create ?lmxc ?lmxla ?lmxn ?lmxhc ?lmxs ?lmxz ?z9696c_hx ?lmxd ?_; k_extra "LAMC"; (case z9696c_hx => first | assumption | decide); k_extra "BACK1") | (refine' lam_drop ?lmxc ?lmxla ?lmxn ?lmxhc ?lmxs ?lmxz ?lmxd ?_; k_extra "LAMC"; k_extra "BACK1") | (refine' lam_clear ?lmxc ?lmxla ?lmxn ?lmxhc ?lmxs ?lmxz ?z9696c_hi ?z9696c_hj ?lmxd ?_; k_extra "LAMC"; (case z9696c_hi => assumption); (case z9696c_hj => omega); k_extra "BACK1")))))
  (k_with "call ref" => ((k_here; (with_reducible show wpAny _ _ (call (Value.ref 355) _) _ _ _); k_dflt (refine' put_c ?zc433b0_c ?zc433b0_n ?zc433b0_s ?zc433b0_hr ?zc433b0_z ?zc433b0_d ?_; (case zc433b0_c => k_extra "CX"); (case zc433b0_n => k_extra "NSUB"); (case zc433b0_hr => assumption); (case zc433b0_z => first | omega | exact Nat.le_trans length_stored_le (by omega) | exact Nat.le_trans length_stored_le (Nat.succ_le_succ (Nat.le_trans length_stored_le (by omega)))); (case zc433b0_s => k_extra "NDSUB"); (case zc433b0_d => omega); k_extra "BACKP"))))
  (k_with "call ref" => ((k_here; (with_reducible show wpAny _ _ (call (Value.ref 348) _) _ _ _); k_dflt (refine' get_v ?z22b6ec_c ?z22b6ec_n ?z22b6ec_s ?z22b6ec_hr ?z22b6ec_sm ?z22b6ec_d ?z22b6ec_hv ?_; (case z22b6ec_c => k_extra "CX"); (case z22b6ec_n => k_extra "NSUB"); (case z22b6ec_hr => assumption); (case z22b6ec_sm => assumption); (case z22b6ec_s => k_extra "NDSUB"); (case z22b6ec_d => omega); (case z22b6ec_hv => first | assumption | rfl); k_extra "BACK0"))))
  trivial
theorem step_begin (C : Cx w mean mg mb A₀ base h₀ outer L m cs s.heap) (LA : LamAt h₀ 3 (z.lam 3) z.cell) 
    (N : News h₀ L s.heap [(opl, listOf #[.str "BeginTransaction" q0, p1, p2, p3, v] on), (z.mach, instObj 60 z.md), (z.md, dictOf (machD w.params z texts) 3), (z.conn, instObj 485 z.cnd), (z.cnd, dictOf (connD w.params z cc ct) 22), (z.btree, instObj 485 z.btd), (z.btd, dictOf (btreeD w.params z) 11), (z.core, instObj 391 z.cd), (z.cd, dictOf (coreZ w.params z) 3), (z.regs, ro), (z.cell, z.co), (z.asked, listOf vs.toArray n)]) (S : ND [opl, z.mach, z.md, z.conn, z.cnd, z.btree, z.btd, z.core, z.cd, z.regs, z.cell, z.asked]) (hco : z.co.data = .cell (some (.ref z.asked))) (hz : vs.length ≤ 1000) (hd : dp + 15 < recursionLimit) (hu : un + 60 < cLine)
    (k : ∀ (r : Addr) (q n' tk : Nat) h', Fr h₀ L h' m → h'.get? r = some (tupOf #[.str "begin" q, v]) → s.heap.get? r = none → h'.get? z.asked = some (listOf (vs ++ [Value.ref r]).toArray n') → Kept [z.asked] s.heap h' → Q fv { s with heap := h', toks := tk }) :
    wpAny (model prog0 w) (AR dp un (envX cn cs L ea ccd cl) outer) (call (.ref 50) [.ref z.mach, .ref opl, fv]) Q E s := by
  refine' step_pre C N ?d ?u ?_
  (case d => omega)
  (case u => omega)
  obtain ⟨X, T, B, F, hk⟩ := C
  k_extra "PRE"
  k_extra "GO"
  rename Fr h₀ L _ m => hF
  exact k _ _ _ _ _ hF (by k_extra "AT?") (by k_extra "FRESH") (by k_extra "AT?") (by k_extra "KEPT")
theorem step_commit (C : Cx w mean mg mb A₀ base h₀ outer L m cs s.heap) (LA : LamAt h₀ 5 (z.lam 5) z.cell) 
    (N : News h₀ L s.heap [(opl, listOf #[.str "AutoCommit" q0, p1, .int 0 q2, p3, p4] on), (z.mach, instObj 60 z.md), (z.md, dictOf (machD w.params z texts) 3), (z.conn, instObj 485 z.cnd), (z.cnd, dictOf (connD w.params z cc ct) 22), (z.btree, instObj 485 z.btd), (z.btd, dictOf (btreeD w.params z) 11), (z.core, instObj 391 z.cd), (z.cd, dictOf (coreZ w.params z) 3), (z.regs, ro), (z.cell, z.co), (z.asked, listOf vs.toArray n)]) (S : ND [opl, z.mach, z.md, z.conn, z.cnd, z.btree, z.btd, z.core, z.cd, z.regs, z.cell, z.asked]) (hco : z.co.data = .cell (some (.ref z.asked))) (hz : vs.length ≤ 1000) (hd : dp + 15 < recursionLimit) (hu : un + 60 < cLine)
    (k : ∀ (r : Addr) (q n' tk : Nat) h', Fr h₀ L h' m → h'.get? r = some (tupOf #[.str "commit_statement" q]) → s.heap.get? r = none → h'.get? z.asked = some (listOf (vs ++ [Value.ref r]).toArray n') → Kept [z.asked] s.heap h' → Q fv { s with heap := h', toks := tk }) :
    wpAny (model prog0 w) (AR dp un (envX cn cs L ea ccd cl) outer) (call (.ref 50) [.ref z.mach, .ref opl, fv]) Q E s := by
  refine' step_pre C N ?d ?u ?_
  (case d => omega)
  (case u => omega)
  obtain ⟨X, T, B, F, hk⟩ := C
  k_extra "PRE"
  k_extra "GO"
  rename Fr h₀ L _ m => hF
  exact k _ _ _ _ _ hF (by k_extra "AT?") (by k_extra "FRESH") (by k_extra "AT?") (by k_extra "KEPT")
theorem step_rollback (C : Cx w mean mg mb A₀ base h₀ outer L m cs s.heap) (LA : LamAt h₀ 4 (z.lam 4) z.cell) 
    (N : News h₀ L s.heap [(opl, listOf #[.str "AutoCommit" q0, p1, .int 1 q2, p3, p4] on), (z.mach, instObj 60 z.md), (z.md, dictOf (machD w.params z texts) 3), (z.conn, instObj 485 z.cnd), (z.cnd, dictOf (connD w.params z cc ct) 22), (z.btree, instObj 485 z.btd), (z.btd, dictOf (btreeD w.params z) 11), (z.core, instObj 391 z.cd), (z.cd, dictOf (coreZ w.params z) 3), (z.regs, ro), (z.cell, z.co), (z.asked, listOf vs.toArray n)]) (S : ND [opl, z.mach, z.md, z.conn, z.cnd, z.btree, z.btd, z.core, z.cd, z.regs, z.cell, z.asked]) (hco : z.co.data = .cell (some (.ref z.asked))) (hz : vs.length ≤ 1000) (hd : dp + 15 < recursionLimit) (hu : un + 60 < cLine)
    (k : ∀ (r : Addr) (q n' tk : Nat) h', Fr h₀ L h' m → h'.get? r = some (tupOf #[.str "rollback_statement" q]) → s.heap.get? r = none → h'.get? z.asked = some (listOf (vs ++ [Value.ref r]).toArray n') → Kept [z.asked] s.heap h' → Q fv { s with heap := h', toks := tk }) :
    wpAny (model prog0 w) (AR dp un (envX cn cs L ea ccd cl) outer) (call (.ref 50) [.ref z.mach, .ref opl, fv]) Q E s := by
  refine' step_pre C N ?d ?u ?_
  (case d => omega)
  (case u => omega)
  obtain ⟨X, T, B, F, hk⟩ := C
  k_extra "PRE"
  k_extra "GO"
  rename Fr h₀ L _ m => hF
  exact k _ _ _ _ _ hF (by k_extra "AT?") (by k_extra "FRESH") (by k_extra "AT?") (by k_extra "KEPT")
theorem step_savepoint (C : Cx w mean mg mb A₀ base h₀ outer L m cs s.heap) (LA : LamAt h₀ 6 (z.lam 6) z.cell) 
    (N : News h₀ L s.heap [(opl, listOf #[.str "Savepoint" q0, p1, p2, p3, .ref tp] on), (z.mach, instObj 60 z.md), (z.md, dictOf (machD w.params z texts) 3), (tp, tupOf #[a, b]), (z.conn, instObj 485 z.cnd), (z.cnd, dictOf (connD w.params z cc ct) 22), (z.btree, instObj 485 z.btd), (z.btd, dictOf (btreeD w.params z) 11), (z.core, instObj 391 z.cd), (z.cd, dictOf (coreZ w.params z) 3), (z.regs, ro), (z.cell, z.co), (z.asked, listOf vs.toArray n)]) (S : ND [opl, z.mach, z.md, tp, z.conn, z.cnd, z.btree, z.btd, z.core, z.cd, z.regs, z.cell, z.asked]) (hco : z.co.data = .cell (some (.ref z.asked))) (hz : vs.length ≤ 1000) (hd : dp + 15 < recursionLimit) (hu : un + 60 < cLine)
    (k : ∀ (r : Addr) (q n' tk : Nat) h', Fr h₀ L h' m → h'.get? r = some (tupOf #[.str "savepoint" q, a, b]) → s.heap.get? r = none → h'.get? z.asked = some (listOf (vs ++ [Value.ref r]).toArray n') → Kept [z.asked] s.heap h' → Q fv { s with heap := h', toks := tk }) :
    wpAny (model prog0 w) (AR dp un (envX cn cs L ea ccd cl) outer) (call (.ref 50) [.ref z.mach, .ref opl, fv]) Q E s := by
  refine' step_pre C N ?d ?u ?_
  (case d => omega)
  (case u => omega)
  obtain ⟨X, T, B, F, hk⟩ := C
  k_extra "PRE"
  k_extra "GO"
  rename Fr h₀ L _ m => hF
  exact k _ _ _ _ _ hF (by k_extra "AT?") (by k_extra "FRESH") (by k_extra "AT?") (by k_extra "KEPT")
theorem step_vacuum (C : Cx w mean mg mb A₀ base h₀ outer L m cs s.heap) (LA : LamAt h₀ 10 (z.lam 10) z.cell) 
    (N : News h₀ L s.heap [(opl, listOf #[.str "Vacuum" q0, p1, p2, p3, p4] on), (z.mach, instObj 60 z.md), (z.md, dictOf (machD w.params z texts) 3), (z.conn, instObj 485 z.cnd), (z.cnd, dictOf (connD w.params z cc ct) 22), (z.btree, instObj 485 z.btd), (z.btd, dictOf (btreeD w.params z) 11), (z.core, instObj 391 z.cd), (z.cd, dictOf (coreZ w.params z) 3), (z.regs, ro), (z.cell, z.co), (z.asked, listOf vs.toArray n)]) (S : ND [opl, z.mach, z.md, z.conn, z.cnd, z.btree, z.btd, z.core, z.cd, z.regs, z.cell, z.asked]) (hco : z.co.data = .cell (some (.ref z.asked))) (hz : vs.length ≤ 1000) (hd : dp + 15 < recursionLimit) (hu : un + 60 < cLine)
    (k : ∀ (r : Addr) (q n' tk : Nat) h', Fr h₀ L h' m → h'.get? r = some (tupOf #[.str "vacuum" q]) → s.heap.get? r = none → h'.get? z.asked = some (listOf (vs ++ [Value.ref r]).toArray n') → Kept [z.asked] s.heap h' → Q fv { s with heap := h', toks := tk }) :
    wpAny (model prog0 w) (AR dp un (envX cn cs L ea ccd cl) outer) (call (.ref 50) [.ref z.mach, .ref opl, fv]) Q E s := by
  refine' step_pre C N ?d ?u ?_
  (case d => omega)
  (case u => omega)
  obtain ⟨X, T, B, F, hk⟩ := C
  k_extra "PRE"
  k_extra "GO"
  rename Fr h₀ L _ m => hF
  exact k _ _ _ _ _ hF (by k_extra "AT?") (by k_extra "FRESH") (by k_extra "AT?") (by k_extra "KEPT")
theorem step_start (C : Cx w mean mg mb A₀ base h₀ outer L m cs s.heap) (LA : LamAt h₀ 2 (z.lam 2) z.cell) 
    (N : News h₀ L s.heap [(opl, listOf #[.str "Transaction" q0, .int i q1, p2, p3, p4] on), (z.mach, instObj 60 z.md), (z.md, dictOf (machD w.params z texts) 3), (z.conn, instObj 485 z.cnd), (z.cnd, dictOf (connD w.params z cc ct) 22), (z.btree, instObj 485 z.btd), (z.btd, dictOf (btreeD w.params z) 11), (z.core, instObj 391 z.cd), (z.cd, dictOf (coreZ w.params z) 3), (z.regs, ro), (z.cell, z.co), (z.asked, listOf vs.toArray n)]) (S : ND [opl, z.mach, z.md, z.conn, z.cnd, z.btree, z.btd, z.core, z.cd, z.regs, z.cell, z.asked]) (hco : z.co.data = .cell (some (.ref z.asked))) (hz : vs.length ≤ 1000) (hd : dp + 15 < recursionLimit) (hu : un + 60 < cLine)
    (k : ∀ (r : Addr) (q n' tk : Nat) h', Fr h₀ L h' m → h'.get? r = some (tupOf #[.str "start" q, .bool (i != 0)]) → s.heap.get? r = none → h'.get? z.asked = some (listOf (vs ++ [Value.ref r]).toArray n') → Kept [z.asked] s.heap h' → Q fv { s with heap := h', toks := tk }) :
    wpAny (model prog0 w) (AR dp un (envX cn cs L ea ccd cl) outer) (call (.ref 50) [.ref z.mach, .ref opl, fv]) Q E s := by
  refine' step_pre C N ?d ?u ?_
  (case d => omega)
  (case u => omega)
  obtain ⟨X, T, B, F, hk⟩ := C
  k_extra "PRE"
  k_extra "GO"
  rename Fr h₀ L _ m => hF
  exact k _ _ _ _ _ hF (by k_extra "AT?") (by k_extra "FRESH") (by k_extra "AT?") (by k_extra "KEPT")
theorem step_create1 (C : Cx w mean mg mb A₀ base h₀ outer L m cs s.heap) (LA : LamAt h₀ 14 (z.lam 14) z.cell) (hr : ro.IsDictOf (intKind prog0 w) kvs) (hkz : kvs.length ≤ 900) (hsm : (z.regs == sysModules) = false) 
    (N : News h₀ L s.heap [(opl, listOf #[.str "CreateBtree" q0, .int i q1, .int 1 q2, p3, p4] on), (z.mach, instObj 60 z.md), (z.md, dictOf (machD w.params z texts) 3), (z.conn, instObj 485 z.cnd), (z.cnd, dictOf (connD w.params z cc ct) 22), (z.btree, instObj 485 z.btd), (z.btd, dictOf (btreeD w.params z) 11), (z.core, instObj 391 z.cd), (z.cd, dictOf (coreZ w.params z) 3), (z.regs, ro), (z.cell, z.co), (z.asked, listOf vs.toArray n)]) (S : ND [opl, z.mach, z.md, z.conn, z.cnd, z.btree, z.btd, z.core, z.cd, z.regs, z.cell, z.asked]) (hco : z.co.data = .cell (some (.ref z.asked))) (hz : vs.length ≤ 1000) (hd : dp + 15 < recursionLimit) (hu : un + 60 < cLine)
    (k : ∀ (r : Addr) (q q2 n' tk : Nat) (qv : Nat) (ro' : Obj) h', Fr h₀ L h' m → h'.get? r = some (tupOf #[.str "create" q, .str "rows" q2]) → s.heap.get? r = none → h'.get? z.asked = some (listOf (vs ++ [Value.ref r]).toArray n') → h'.get? z.regs = some ro' → ro'.IsDictOf (intKind prog0 w) (stored kvs (i) (.int 44 qv)) → Kept [z.regs, z.asked] s.heap h' → Q fv { s with heap := h', toks := tk }) :
    wpAny (model prog0 w) (AR dp un (envX cn cs L ea ccd cl) outer) (call (.ref 50) [.ref z.mach, .ref opl, fv]) Q E s := by
  refine' step_pre C N ?d ?u ?_
  (case d => omega)
  (case u => omega)
  obtain ⟨X, T, B, F, hk⟩ := C
  k_extra "PRE"
  k_extra "GO"
  rename Fr h₀ L _ m => hF
  exact k _ _ _ _ _ _ _ _ hF (by k_extra "AT?") (by k_extra "FRESH") (by k_extra "AT?") (by k_extra "AT?") (by assumption) (by k_extra "KEPT")
theorem step_create2 (C : Cx w mean mg mb A₀ base h₀ outer L m cs s.heap) (LA : LamAt h₀ 14 (z.lam 14) z.cell) (hr : ro.IsDictOf (intKind prog0 w) kvs) (hkz : kvs.length ≤ 900) (hsm : (z.regs == sysModules) = false) 
    (N : News h₀ L s.heap [(opl, listOf #[.str "CreateBtree" q0, .int i q1, .int 2 q2, p3, p4] on), (z.mach, instObj 60 z.md), (z.md, dictOf (machD w.params z texts) 3), (z.conn, instObj 485 z.cnd), (z.cnd, dictOf (connD w.params z cc ct) 22), (z.btree, instObj 485 z.btd), (z.btd, dictOf (btreeD w.params z) 11), (z.core, instObj 391 z.cd), (z.cd, dictOf (coreZ w.params z) 3), (z.regs, ro), (z.cell, z.co), (z.asked, listOf vs.toArray n)]) (S : ND [opl, z.mach, z.md, z.conn, z.cnd, z.btree, z.btd, z.core, z.cd, z.regs, z.cell, z.asked]) (hco : z.co.data = .cell (some (.ref z.asked))) (hz : vs.length ≤ 1000) (hd : dp + 15 < recursionLimit) (hu : un + 60 < cLine)
    (k : ∀ (r : Addr) (q q2 n' tk : Nat) (qv : Nat) (ro' : Obj) h', Fr h₀ L h' m → h'.get? r = some (tupOf #[.str "create" q, .str "keys" q2]) → s.heap.get? r = none → h'.get? z.asked = some (listOf (vs ++ [Value.ref r]).toArray n') → h'.get? z.regs = some ro' → ro'.IsDictOf (intKind prog0 w) (stored kvs (i) (.int 44 qv)) → Kept [z.regs, z.asked] s.heap h' → Q fv { s with heap := h', toks := tk }) :
    wpAny (model prog0 w) (AR dp un (envX cn cs L ea ccd cl) outer) (call (.ref 50) [.ref z.mach, .ref opl, fv]) Q E s := by
  refine' step_pre C N ?d ?u ?_
  (case d => omega)
  (case u => omega)
  obtain ⟨X, T, B, F, hk⟩ := C
  k_extra "PRE"
  k_extra "GO"
  rename Fr h₀ L _ m => hF
  exact k _ _ _ _ _ _ _ _ hF (by k_extra "AT?") (by k_extra "FRESH") (by k_extra "AT?") (by k_extra "AT?") (by assumption) (by k_extra "KEPT")
theorem step_drop (C : Cx w mean mg mb A₀ base h₀ outer L m cs s.heap) (LA : LamAt h₀ 15 (z.lam 15) z.cell) 
    (N : News h₀ L s.heap [(opl, listOf #[.str "Destroy" q0, v, p2, p3, p4] on), (z.mach, instObj 60 z.md), (z.md, dictOf (machD w.params z texts) 3), (z.conn, instObj 485 z.cnd), (z.cnd, dictOf (connD w.params z cc ct) 22), (z.btree, instObj 485 z.btd), (z.btd, dictOf (btreeD w.params z) 11), (z.core, instObj 391 z.cd), (z.cd, dictOf (coreZ w.params z) 3), (z.regs, ro), (z.cell, z.co), (z.asked, listOf vs.toArray n)]) (S : ND [opl, z.mach, z.md, z.conn, z.cnd, z.btree, z.btd, z.core, z.cd, z.regs, z.cell, z.asked]) (hco : z.co.data = .cell (some (.ref z.asked))) (hz : vs.length ≤ 1000) (hd : dp + 15 < recursionLimit) (hu : un + 60 < cLine)
    (k : ∀ (r : Addr) (q n' tk : Nat) h', Fr h₀ L h' m → h'.get? r = some (tupOf #[.str "drop" q, v]) → s.heap.get? r = none → h'.get? z.asked = some (listOf (vs ++ [Value.ref r]).toArray n') → Kept [z.asked] s.heap h' → Q fv { s with heap := h', toks := tk }) :
    wpAny (model prog0 w) (AR dp un (envX cn cs L ea ccd cl) outer) (call (.ref 50) [.ref z.mach, .ref opl, fv]) Q E s := by
  refine' step_pre C N ?d ?u ?_
  (case d => omega)
  (case u => omega)
  obtain ⟨X, T, B, F, hk⟩ := C
  k_extra "PRE"
  k_extra "GO"
  rename Fr h₀ L _ m => hF
  exact k _ _ _ _ _ hF (by k_extra "AT?") (by k_extra "FRESH") (by k_extra "AT?") (by k_extra "KEPT")
theorem step_clear {j : Int} (C : Cx w mean mg mb A₀ base h₀ outer L m cs s.heap) (LA : LamAt h₀ 16 (z.lam 16) z.cell) (hr : ro.IsDictOf (intKind prog0 w) kvs) (hkz : kvs.length ≤ 900) (hsm : (z.regs == sysModules) = false) (hi : 0 ≤ i) (hj : i < 1000) 
    (N : News h₀ L s.heap [(opl, listOf #[.str "Clear" q0, .int i ti, .int j tj, p3, p4] on), (z.mach, instObj 60 z.md), (z.md, dictOf (machD w.params z texts) 3), (z.conn, instObj 485 z.cnd), (z.cnd, dictOf (connD w.params z cc ct) 22), (z.btree, instObj 485 z.btd), (z.btd, dictOf (btreeD w.params z) 11), (z.core, instObj 391 z.cd), (z.cd, dictOf (coreZ w.params z) 3), (z.regs, ro), (z.cell, z.co), (z.asked, listOf vs.toArray n)]) (S : ND [opl, z.mach, z.md, z.conn, z.cnd, z.btree, z.btd, z.core, z.cd, z.regs, z.cell, z.asked]) (hco : z.co.data = .cell (some (.ref z.asked))) (hz : vs.length ≤ 1000) (hd : dp + 15 < recursionLimit) (hu : un + 60 < cLine)
    (k : ∀ (r : Addr) (q n' tk : Nat) (qv : Nat) (ro' : Obj) h', Fr h₀ L h' m → h'.get? r = some (tupOf #[.str "clear" q, .int i ti]) → s.heap.get? r = none → h'.get? z.asked = some (listOf (vs ++ [Value.ref r]).toArray n') → h'.get? z.regs = some ro' → ro'.IsDictOf (intKind prog0 w) (stored kvs (j) (.int (3 * i) qv)) → Kept [z.regs, z.asked] s.heap h' → Q fv { s with heap := h', toks := tk }) :
    wpAny (model prog0 w) (AR dp un (envX cn cs L ea ccd cl) outer) (call (.ref 50) [.ref z.mach, .ref opl, fv]) Q E s := by
  refine' step_pre C N ?d ?u ?_
  (case d => omega)
  (case u => omega)
  obtain ⟨X, T, B, F, hk⟩ := C
  k_extra "PRE"
  k_extra "GO"
  rename Fr h₀ L _ m => hF
  exact k _ _ _ _ _ _ _ hF (by k_extra "AT?") (by k_extra "FRESH") (by k_extra "AT?") (by k_extra "AT?") (by assumption) (by k_extra "KEPT")
theorem step_loadSchema (C : Cx w mean mg mb A₀ base h₀ outer L m cs s.heap) (LA : LamAt h₀ 7 (z.lam 7) z.cell) 
    (N : News h₀ L s.heap [(opl, listOf #[.str "LoadSchema" q0, p1, p2, p3, p4] on), (z.mach, instObj 60 z.md), (z.md, dictOf (machD w.params z texts) 3), (z.conn, instObj 485 z.cnd), (z.cnd, dictOf (connD w.params z cc ct) 22), (z.btree, instObj 485 z.btd), (z.btd, dictOf (btreeD w.params z) 11), (z.core, instObj 391 z.cd), (z.cd, dictOf (coreZ w.params z) 3), (z.regs, ro), (z.cell, z.co), (z.asked, listOf vs.toArray n)]) (S : ND [opl, z.mach, z.md, z.conn, z.cnd, z.btree, z.btd, z.core, z.cd, z.regs, z.cell, z.asked]) (hco : z.co.data = .cell (some (.ref z.asked))) (hz : vs.length ≤ 1000) (hd : dp + 15 < recursionLimit) (hu : un + 60 < cLine)
    (k : ∀ (r : Addr) (q n' tk : Nat) h', Fr h₀ L h' m → h'.get? r = some (tupOf #[.str "load_schema" q]) → s.heap.get? r = none → h'.get? z.asked = some (listOf (vs ++ [Value.ref r]).toArray n') → Kept [z.asked] s.heap h' → Q fv { s with heap := h', toks := tk }) :
    wpAny (model prog0 w) (AR dp un (envX cn cs L ea ccd cl) outer) (call (.ref 50) [.ref z.mach, .ref opl, fv]) Q E s := by
  refine' step_pre C N ?d ?u ?_
  (case d => omega)
  (case u => omega)
  obtain ⟨X, T, B, F, hk⟩ := C
  k_extra "PRE"
  k_extra "GO"
  rename Fr h₀ L _ m => hF
  exact k _ _ _ _ _ hF (by k_extra "AT?") (by k_extra "FRESH") (by k_extra "AT?") (by k_extra "KEPT")
theorem step_setCookie (C : Cx w mean mg mb A₀ base h₀ outer L m cs s.heap) (LA : LamAt h₀ 8 (z.lam 8) z.cell) 
    (N : News h₀ L s.heap [(opl, listOf #[.str "SetCookie" q0, p1, p2, p3, p4] on), (z.mach, instObj 60 z.md), (z.md, dictOf (machD w.params z texts) 3), (z.conn, instObj 485 z.cnd), (z.cnd, dictOf (connD w.params z cc ct) 22), (z.btree, instObj 485 z.btd), (z.btd, dictOf (btreeD w.params z) 11), (z.core, instObj 391 z.cd), (z.cd, dictOf (coreZ w.params z) 3), (z.regs, ro), (z.cell, z.co), (z.asked, listOf vs.toArray n)]) (S : ND [opl, z.mach, z.md, z.conn, z.cnd, z.btree, z.btd, z.core, z.cd, z.regs, z.cell, z.asked]) (hco : z.co.data = .cell (some (.ref z.asked))) (hz : vs.length ≤ 1000) (hd : dp + 15 < recursionLimit) (hu : un + 60 < cLine)
    (k : ∀ (r : Addr) (q n' tk : Nat) h', Fr h₀ L h' m → h'.get? r = some (tupOf #[.str "raise_cookie" q]) → s.heap.get? r = none → h'.get? z.asked = some (listOf (vs ++ [Value.ref r]).toArray n') → Kept [z.asked] s.heap h' → Q fv { s with heap := h', toks := tk }) :
    wpAny (model prog0 w) (AR dp un (envX cn cs L ea ccd cl) outer) (call (.ref 50) [.ref z.mach, .ref opl, fv]) Q E s := by
  refine' step_pre C N ?d ?u ?_
  (case d => omega)
  (case u => omega)
  obtain ⟨X, T, B, F, hk⟩ := C
  k_extra "PRE"
  k_extra "GO"
  rename Fr h₀ L _ m => hF
  exact k _ _ _ _ _ hF (by k_extra "AT?") (by k_extra "FRESH") (by k_extra "AT?") (by k_extra "KEPT")
theorem step_verifyCookie (C : Cx w mean mg mb A₀ base h₀ outer L m cs s.heap) (LA : LamAt h₀ 9 (z.lam 9) z.cell) 
    (N : News h₀ L s.heap [(opl, listOf #[.str "VerifyCookie" q0, v, p2, p3, p4] on), (z.mach, instObj 60 z.md), (z.md, dictOf (machD w.params z texts) 3), (z.conn, instObj 485 z.cnd), (z.cnd, dictOf (connD w.params z cc ct) 22), (z.btree, instObj 485 z.btd), (z.btd, dictOf (btreeD w.params z) 11), (z.core, instObj 391 z.cd), (z.cd, dictOf (coreZ w.params z) 3), (z.regs, ro), (z.cell, z.co), (z.asked, listOf vs.toArray n)]) (S : ND [opl, z.mach, z.md, z.conn, z.cnd, z.btree, z.btd, z.core, z.cd, z.regs, z.cell, z.asked]) (hco : z.co.data = .cell (some (.ref z.asked))) (hz : vs.length ≤ 1000) (hd : dp + 15 < recursionLimit) (hu : un + 60 < cLine)
    (k : ∀ (r : Addr) (q n' tk : Nat) h', Fr h₀ L h' m → h'.get? r = some (tupOf #[.str "verify_cookie" q, v]) → s.heap.get? r = none → h'.get? z.asked = some (listOf (vs ++ [Value.ref r]).toArray n') → Kept [z.asked] s.heap h' → Q fv { s with heap := h', toks := tk }) :
    wpAny (model prog0 w) (AR dp un (envX cn cs L ea ccd cl) outer) (call (.ref 50) [.ref z.mach, .ref opl, fv]) Q E s := by
  refine' step_pre C N ?d ?u ?_
  (case d => omega)
  (case u => omega)
  obtain ⟨X, T, B, F, hk⟩ := C
  k_extra "PRE"
  k_extra "GO"
  rename Fr h₀ L _ m => hF
  exact k _ _ _ _ _ hF (by k_extra "AT?") (by k_extra "FRESH") (by k_extra "AT?") (by k_extra "KEPT")
theorem step_pragmaGet (C : Cx w mean mg mb A₀ base h₀ outer L m cs s.heap) (LA : LamAt h₀ 12 (z.lam 12) z.cell) (hr : ro.IsDictOf (intKind prog0 w) kvs) (hkz : kvs.length ≤ 900) (hsm : (z.regs == sysModules) = false) (hx : x.length ≤ 1000) 
    (N : News h₀ L s.heap [(opl, listOf #[.str "PragmaGet" q0, .int i ti, p2, p3, .str x tx] on), (z.mach, instObj 60 z.md), (z.md, dictOf (machD w.params z texts) 3), (z.conn, instObj 485 z.cnd), (z.cnd, dictOf (connD w.params z cc ct) 22), (z.btree, instObj 485 z.btd), (z.btd, dictOf (btreeD w.params z) 11), (z.core, instObj 391 z.cd), (z.cd, dictOf (coreZ w.params z) 3), (z.regs, ro), (z.cell, z.co), (z.asked, listOf vs.toArray n)]) (S : ND [opl, z.mach, z.md, z.conn, z.cnd, z.btree, z.btd, z.core, z.cd, z.regs, z.cell, z.asked]) (hco : z.co.data = .cell (some (.ref z.asked))) (hz : vs.length ≤ 1000) (hd : dp + 15 < recursionLimit) (hu : un + 60 < cLine)
    (k : ∀ (r : Addr) (q n' tk : Nat) (qv : Nat) (ro' : Obj) h', Fr h₀ L h' m → h'.get? r = some (tupOf #[.str "pragma_get" q, .str x tx]) → s.heap.get? r = none → h'.get? z.asked = some (listOf (vs ++ [Value.ref r]).toArray n') → h'.get? z.regs = some ro' → ro'.IsDictOf (intKind prog0 w) (stored kvs (i) (.int x.length qv)) → Kept [z.regs, z.asked] s.heap h' → Q fv { s with heap := h', toks := tk }) :
    wpAny (model prog0 w) (AR dp un (envX cn cs L ea ccd cl) outer) (call (.ref 50) [.ref z.mach, .ref opl, fv]) Q E s := by
  refine' step_pre C N ?d ?u ?_
  (case d => omega)
  (case u => omega)
  obtain ⟨X, T, B, F, hk⟩ := C
  k_extra "PRE"
  k_extra "GO"
  rename Fr h₀ L _ m => hF
  exact k _ _ _ _ _ _ _ hF (by k_extra "AT?") (by k_extra "FRESH") (by k_extra "AT?") (by k_extra "AT?") (by assumption) (by k_extra "KEPT")
theorem step_check (C : Cx w mean mg mb A₀ base h₀ outer L m cs s.heap) (LA : LamAt h₀ 11 (z.lam 11) z.cell) 
    (N : News h₀ L s.heap [(opl, listOf #[.str "IntegrityCheck" q0, p1, p2, p3, p4] on), (z.mach, instObj 60 z.md), (z.md, dictOf (machD w.params z texts) 3), (z.conn, instObj 485 z.cnd), (z.cnd, dictOf (connD w.params z cc ct) 22), (z.btree, instObj 485 z.btd), (z.btd, dictOf (btreeD w.params z) 11), (z.core, instObj 391 z.cd), (z.cd, dictOf (coreZ w.params z) 3), (z.regs, ro), (z.cell, z.co), (z.asked, listOf vs.toArray n)]) (S : ND [opl, z.mach, z.md, z.conn, z.cnd, z.btree, z.btd, z.core, z.cd, z.regs, z.cell, z.asked]) (hco : z.co.data = .cell (some (.ref z.asked))) (hz : vs.length ≤ 1000) (hd : dp + 15 < recursionLimit) (hu : un + 60 < cLine)
    (k : ∀ (r : Addr) (q n' tk : Nat) (ans : Addr) (q3 q4 : Nat) h', Fr h₀ L h' m → h'.get? r = some (tupOf #[.str "integrity_texts" q]) → s.heap.get? r = none → h'.get? z.asked = some (listOf (vs ++ [Value.ref r]).toArray n') → h'.get? ans = some (listOf #[.str "one" q3, .str "two" q4] 0) → s.heap.get? ans = none → ans ≠ r → h'.get? z.md = some (dictOf (machD w.params z ans) 3) → Kept [z.md, z.asked] s.heap h' → Q fv { s with heap := h', toks := tk }) :
    wpAny (model prog0 w) (AR dp un (envX cn cs L ea ccd cl) outer) (call (.ref 50) [.ref z.mach, .ref opl, fv]) Q E s := by
  refine' step_pre C N ?d ?u ?_
  (case d => omega)
  (case u => omega)
  obtain ⟨X, T, B, F, hk⟩ := C
  k_extra "PRE"
  k_extra "GO"
  rename Fr h₀ L _ m => hF
  exact k _ _ _ _ _ _ _ _ hF (by k_extra "AT?") (by k_extra "FRESH") (by k_extra "AT?") (by k_extra "AT?") (by k_extra "FRESH") (ND.ne (by assumption)) (by k_extra "AT?") (by k_extra "KEPT")
theorem step_rows0 (C : Cx w mean mg mb A₀ base h₀ outer L m cs s.heap) 
    (N : News h₀ L s.heap [(opl, listOf #[.str "IntegrityRows" q0, p1, p2, p3, p4] on), (z.mach, instObj 60 z.md), (z.md, dictOf (machD w.params z texts) 3), (texts, listOf #[] tn), (z.conn, instObj 485 z.cnd), (z.cnd, dictOf (connD w.params z cc ct) 22), (z.btree, instObj 485 z.btd), (z.btd, dictOf (btreeD w.params z) 11), (z.core, instObj 391 z.cd), (z.cd, dictOf (coreZ w.params z) 3), (z.regs, ro), (z.cell, z.co), (z.asked, listOf vs.toArray n)]) (S : ND [opl, z.mach, z.md, texts, z.conn, z.cnd, z.btree, z.btd, z.core, z.cd, z.regs, z.cell, z.asked]) (hco : z.co.data = .cell (some (.ref z.asked))) (hz : vs.length ≤ 1000) (hd : dp + 15 < recursionLimit) (hu : un + 60 < cLine)
    (k : ∀ (tk : Nat) h', Fr h₀ L h' m → Kept [] s.heap h' → Q p2 { s with heap := h', toks := tk }) :
    wpAny (model prog0 w) (AR dp un (envX cn cs L ea ccd cl) outer) (call (.ref 50) [.ref z.mach, .ref opl, fv]) Q E s := by
  refine' step_pre C N ?d ?u ?_
  (case d => omega)
  (case u => omega)
  obtain ⟨X, T, B, F, hk⟩ := C
  k_extra "PRE"
  k_extra "GO"
  rename Fr h₀ L _ m => hF
  exact k _ _ hF (by k_extra "KEPT")
theorem step_rows1 (C : Cx w mean mg mb A₀ base h₀ outer L m cs s.heap) (hr : ro.IsDictOf (intKind prog0 w) kvs) (hkz : kvs.length ≤ 900) (hsm : (z.regs == sysModules) = false) 
    (N : News h₀ L s.heap [(opl, listOf #[.str "IntegrityRows" q0, .int i ti, p2, p3, p4] on), (z.mach, instObj 60 z.md), (z.md, dictOf (machD w.params z texts) 3), (texts, listOf #[a] tn), (z.conn, instObj 485 z.cnd), (z.cnd, dictOf (connD w.params z cc ct) 22), (z.btree, instObj 485 z.btd), (z.btd, dictOf (btreeD w.params z) 11), (z.core, instObj 391 z.cd), (z.cd, dictOf (coreZ w.params z) 3), (z.regs, ro), (z.cell, z.co), (z.asked, listOf vs.toArray n)]) (S : ND [opl, z.mach, z.md, texts, z.conn, z.cnd, z.btree, z.btd, z.core, z.cd, z.regs, z.cell, z.asked]) (hco : z.co.data = .cell (some (.ref z.asked))) (hz : vs.length ≤ 1000) (hd : dp + 15 < recursionLimit) (hu : un + 60 < cLine)
    (k : ∀ (tk : Nat) (ro' : Obj) (n' : Nat) h', Fr h₀ L h' m → h'.get? z.regs = some ro' → ro'.IsDictOf (intKind prog0 w) (stored kvs (i) (a)) → h'.get? texts = some (listOf #[] n') → Kept [texts, z.regs] s.heap h' → Q fv { s with heap := h', toks := tk }) :
    wpAny (model prog0 w) (AR dp un (envX cn cs L ea ccd cl) outer) (call (.ref 50) [.ref z.mach, .ref opl, fv]) Q E s := by
  refine' step_pre C N ?d ?u ?_
  (case d => omega)
  (case u => omega)
  obtain ⟨X, T, B, F, hk⟩ := C
  k_extra "PRE"
  k_extra "GO"
  rename Fr h₀ L _ m => hF
  exact k _ _ _ _ hF (by k_extra "AT?") (by assumption) (by k_extra "AT?") (by k_extra "KEPT")
theorem step_rows2 (C : Cx w mean mg mb A₀ base h₀ outer L m cs s.heap) (hr : ro.IsDictOf (intKind prog0 w) kvs) (hkz : kvs.length ≤ 900) (hsm : (z.regs == sysModules) = false) 
    (N : News h₀ L s.heap [(opl, listOf #[.str "IntegrityRows" q0, .int i ti, p2, p3, p4] on), (z.mach, instObj 60 z.md), (z.md, dictOf (machD w.params z texts) 3), (texts, listOf #[a, b] tn), (z.conn, instObj 485 z.cnd), (z.cnd, dictOf (connD w.params z cc ct) 22), (z.btree, instObj 485 z.btd), (z.btd, dictOf (btreeD w.params z) 11), (z.core, instObj 391 z.cd), (z.cd, dictOf (coreZ w.params z) 3), (z.regs, ro), (z.cell, z.co), (z.asked, listOf vs.toArray n)]) (S : ND [opl, z.mach, z.md, texts, z.conn, z.cnd, z.btree, z.btd, z.core, z.cd, z.regs, z.cell, z.asked]) (hco : z.co.data = .cell (some (.ref z.asked))) (hz : vs.length ≤ 1000) (hd : dp + 15 < recursionLimit) (hu : un + 60 < cLine)
    (k : ∀ (tk : Nat) (ro' : Obj) (n' : Nat) h', Fr h₀ L h' m → h'.get? z.regs = some ro' → ro'.IsDictOf (intKind prog0 w) (stored kvs (i) (a)) → h'.get? texts = some (listOf #[b] n') → Kept [texts, z.regs] s.heap h' → Q fv { s with heap := h', toks := tk }) :
    wpAny (model prog0 w) (AR dp un (envX cn cs L ea ccd cl) outer) (call (.ref 50) [.ref z.mach, .ref opl, fv]) Q E s := by
  refine' step_pre C N ?d ?u ?_
  (case d => omega)
  (case u => omega)
  obtain ⟨X, T, B, F, hk⟩ := C
  k_extra "PRE"
  k_extra "GO"
  rename Fr h₀ L _ m => hF
  exact k _ _ _ _ hF (by k_extra "AT?") (by assumption) (by k_extra "AT?") (by k_extra "KEPT")
theorem step_changesN (C : Cx w mean mg mb A₀ base h₀ outer L m cs s.heap) (hr : ro.IsDictOf (intKind prog0 w) kvs) (hkz : kvs.length ≤ 900) (hsm : (z.regs == sysModules) = false) (hv : (valueAt kvs i).getD .none = .none) (hc0 : 0 ≤ cc) (hc1 : cc < 1000) 
    (N : News h₀ L s.heap [(opl, listOf #[.str "Changes" q0, .int i ti, p2, p3, p4] on), (z.mach, instObj 60 z.md), (z.md, dictOf (machD w.params z texts) 3), (z.conn, instObj 485 z.cnd), (z.cnd, dictOf (connD w.params z cc ct) 22), (z.btree, instObj 485 z.btd), (z.btd, dictOf (btreeD w.params z) 11), (z.core, instObj 391 z.cd), (z.cd, dictOf (coreZ w.params z) 3), (z.regs, ro), (z.cell, z.co), (z.asked, listOf vs.toArray n)]) (S : ND [opl, z.mach, z.md, z.conn, z.cnd, z.btree, z.btd, z.core, z.cd, z.regs, z.cell, z.asked]) (hco : z.co.data = .cell (some (.ref z.asked))) (hz : vs.length ≤ 1000) (hd : dp + 15 < recursionLimit) (hu : un + 60 < cLine)
    (k : ∀ (tk : Nat) (ct' : Nat) h', Fr h₀ L h' m → h'.get? z.cnd = some (dictOf (connD w.params z (cc + 0) ct') 22) → Kept [z.cnd] s.heap h' → Q fv { s with heap := h', toks := tk }) :
    wpAny (model prog0 w) (AR dp un (envX cn cs L ea ccd cl) outer) (call (.ref 50) [.ref z.mach, .ref opl, fv]) Q E s := by
  refine' step_pre C N ?d ?u ?_
  (case d => omega)
  (case u => omega)
  obtain ⟨X, T, B, F, hk⟩ := C
  k_extra "PRE"
  k_extra "GO"
  rename Fr h₀ L _ m => hF
  exact k _ _ _ hF (by k_extra "AT?") (by k_extra "KEPT")
theorem step_changes0 (C : Cx w mean mg mb A₀ base h₀ outer L m cs s.heap) (hr : ro.IsDictOf (intKind prog0 w) kvs) (hkz : kvs.length ≤ 900) (hsm : (z.regs == sysModules) = false) (hv : (valueAt kvs i).getD .none = .int 0 tj) (hc0 : 0 ≤ cc) (hc1 : cc < 1000) 
    (N : News h₀ L s.heap [(opl, listOf #[.str "Changes" q0, .int i ti, p2, p3, p4] on), (z.mach, instObj 60 z.md), (z.md, dictOf (machD w.params z texts) 3), (z.conn, instObj 485 z.cnd), (z.cnd, dictOf (connD w.params z cc ct) 22), (z.btree, instObj 485 z.btd), (z.btd, dictOf (btreeD w.params z) 11), (z.core, instObj 391 z.cd), (z.cd, dictOf (coreZ w.params z) 3), (z.regs, ro), (z.cell, z.co), (z.asked, listOf vs.toArray n)]) (S : ND [opl, z.mach, z.md, z.conn, z.cnd, z.btree, z.btd, z.core, z.cd, z.regs, z.cell, z.asked]) (hco : z.co.data = .cell (some (.ref z.asked))) (hz : vs.length ≤ 1000) (hd : dp + 15 < recursionLimit) (hu : un + 60 < cLine)
    (k : ∀ (tk : Nat) (ct' : Nat) h', Fr h₀ L h' m → h'.get? z.cnd = some (dictOf (connD w.params z (cc + 0) ct') 22) → Kept [z.cnd] s.heap h' → Q fv { s with heap := h', toks := tk }) :
    wpAny (model prog0 w) (AR dp un (envX cn cs L ea ccd cl) outer) (call (.ref 50) [.ref z.mach, .ref opl, fv]) Q E s := by
  refine' step_pre C N ?d ?u ?_
  (case d => omega)
  (case u => omega)
  obtain ⟨X, T, B, F, hk⟩ := C
  k_extra "PRE"
  k_extra "GO"
  rename Fr h₀ L _ m => hF
  exact k _ _ _ hF (by k_extra "AT?") (by k_extra "KEPT")
theorem step_changes1 (C : Cx w mean mg mb A₀ base h₀ outer L m cs s.heap) (hr : ro.IsDictOf (intKind prog0 w) kvs) (hkz : kvs.length ≤ 900) (hsm : (z.regs == sysModules) = false) (hv : (valueAt kvs i).getD .none = .int 1 tj) (hc0 : 0 ≤ cc) (hc1 : cc < 1000) 
    (N : News h₀ L s.heap [(opl, listOf #[.str "Changes" q0, .int i ti, p2, p3, p4] on), (z.mach, instObj 60 z.md), (z.md, dictOf (machD w.params z texts) 3), (z.conn, instObj 485 z.cnd), (z.cnd, dictOf (connD w.params z cc ct) 22), (z.btree, instObj 485 z.btd), (z.btd, dictOf (btreeD w.params z) 11), (z.core, instObj 391 z.cd), (z.cd, dictOf (coreZ w.params z) 3), (z.regs, ro), (z.cell, z.co), (z.asked, listOf vs.toArray n)]) (S : ND [opl, z.mach, z.md, z.conn, z.cnd, z.btree, z.btd, z.core, z.cd, z.regs, z.cell, z.asked]) (hco : z.co.data = .cell (some (.ref z.asked))) (hz : vs.length ≤ 1000) (hd : dp + 15 < recursionLimit) (hu : un + 60 < cLine)
    (k : ∀ (tk : Nat) (ct' : Nat) h', Fr h₀ L h' m → h'.get? z.cnd = some (dictOf (connD w.params z (cc + 1) ct') 22) → Kept [z.cnd] s.heap h' → Q fv { s with heap := h', toks := tk }) :
    wpAny (model prog0 w) (AR dp un (envX cn cs L ea ccd cl) outer) (call (.ref 50) [.ref z.mach, .ref opl, fv]) Q E s := by
  refine' step_pre C N ?d ?u ?_
  (case d => omega)
  (case u => omega)
  obtain ⟨X, T, B, F, hk⟩ := C
  k_extra "PRE"
  k_extra "GO"
  rename Fr h₀ L _ m => hF
  exact k _ _ _ hF (by k_extra "AT?") (by k_extra "KEPT")
theorem step_changes12 (C : Cx w mean mg mb A₀ base h₀ outer L m cs s.heap) (hr : ro.IsDictOf (intKind prog0 w) kvs) (hkz : kvs.length ≤ 900) (hsm : (z.regs == sysModules) = false) (hv : (valueAt kvs i).getD .none = .int 12 tj) (hc0 : 0 ≤ cc) (hc1 : cc < 1000) 
    (N : News h₀ L s.heap [(opl, listOf #[.str "Changes" q0, .int i ti, p2, p3, p4] on), (z.mach, instObj 60 z.md), (z.md, dictOf (machD w.params z texts) 3), (z.conn, instObj 485 z.cnd), (z.cnd, dictOf (connD w.params z cc ct) 22), (z.btree, instObj 485 z.btd), (z.btd, dictOf (btreeD w.params z) 11), (z.core, instObj 391 z.cd), (z.cd, dictOf (coreZ w.params z) 3), (z.regs, ro), (z.cell, z.co), (z.asked, listOf vs.toArray n)]) (S : ND [opl, z.mach, z.md, z.conn, z.cnd, z.btree, z.btd, z.core, z.cd, z.regs, z.cell, z.asked]) (hco : z.co.data = .cell (some (.ref z.asked))) (hz : vs.length ≤ 1000) (hd : dp + 15 < recursionLimit) (hu : un + 60 < cLine)
    (k : ∀ (tk : Nat) (ct' : Nat) h', Fr h₀ L h' m → h'.get? z.cnd = some (dictOf (connD w.params z (cc + 12) ct') 22) → Kept [z.cnd] s.heap h' → Q fv { s with heap := h', toks := tk }) :
    wpAny (model prog0 w) (AR dp un (envX cn cs L ea ccd cl) outer) (call (.ref 50) [.ref z.mach, .ref opl, fv]) Q E s := by
  refine' step_pre C N ?d ?u ?_
  (case d => omega)
  (case u => omega)
  obtain ⟨X, T, B, F, hk⟩ := C
  k_extra "PRE"
  k_extra "GO"
  rename Fr h₀ L _ m => hF
  exact k _ _ _ hF (by k_extra "AT?") (by k_extra "KEPT")
theorem step_pragmaSet (C : Cx w mean mg mb A₀ base h₀ outer L m cs s.heap) (LA : LamAt h₀ 13 (z.lam 13) z.cell) (hr : ro.IsDictOf (intKind prog0 w) kvs) (hkz : kvs.length ≤ 900) (hsm : (z.regs == sysModules) = false) (hv : (valueAt kvs 1).getD .none = gv) 
    (N : News h₀ L s.heap [(opl, listOf #[.str "PragmaSet" q0, .int 1 q1, .int 4 q2, p3, .str x tx] on), (z.mach, instObj 60 z.md), (z.md, dictOf (machD w.params z texts) 3), (z.conn, instObj 485 z.cnd), (z.cnd, dictOf (connD w.params z cc ct) 22), (z.btree, instObj 485 z.btd), (z.btd, dictOf (btreeD w.params z) 11), (z.core, instObj 391 z.cd), (z.cd, dictOf (coreZ w.params z) 3), (z.regs, ro), (z.cell, z.co), (z.asked, listOf vs.toArray n)]) (S : ND [opl, z.mach, z.md, z.conn, z.cnd, z.btree, z.btd, z.core, z.cd, z.regs, z.cell, z.asked]) (hco : z.co.data = .cell (some (.ref z.asked))) (hz : vs.length ≤ 1000) (hd : dp + 15 < recursionLimit) (hu : un + 60 < cLine)
    (k : ∀ (r : Addr) (q n' tk : Nat) (qv : Nat) (ro' : Obj) h', Fr h₀ L h' m → h'.get? r = some (tupOf #[.str "pragma_set" q, .str x tx, gv]) → s.heap.get? r = none → h'.get? z.asked = some (listOf (vs ++ [Value.ref r]).toArray n') → h'.get? z.regs = some ro' → ro'.IsDictOf (intKind prog0 w) (stored (stored (stored kvs (4 + 0) (.str x tx)) (4 + 1) gv) (4 + 2) (.int 7 qv)) → Kept [z.regs, z.asked] s.heap h' → Q fv { s with heap := h', toks := tk }) :
    wpAny (model prog0 w) (AR dp un (envX cn cs L ea ccd cl) outer) (call (.ref 50) [.ref z.mach, .ref opl, fv]) Q E s := by
  refine' step_pre C N ?d ?u ?_
  (case d => omega)
  (case u => omega)
  obtain ⟨X, T, B, F, hk⟩ := C
  k_extra "PRE"
  k_extra "GO"
  rename Fr h₀ L _ m => hF
  exact k _ _ _ _ _ _ _ hF (by k_extra "AT?") (by k_extra "FRESH") (by k_extra "AT?") (by k_extra "AT?") (by assumption) (by k_extra "KEPT")
end

theorem d_entry_loop : entryFor table "dict.update.loop" = some Builtin.«dict.update.loop» := entryFor_of_tree (by kernel_rfl)
theorem d_plain_loop : plainId "dict.update.loop" = true := by decide +kernel
def PairAt (h : Heap) (ps : List (Int × Value)) (i : Nat) (v : Value) : Prop := ∃ a t kv, v = .ref a ∧ ps[i]? = some kv ∧ h.get? a = some (tupOf #[.int kv.1 t, kv.2])
section
variable {prog : Program} {w : World} {A : Around} {E : Value → Shared → Prop} {R : Result → Shared → Prop}
theorem wpAny_dictSet_pairs {d : Addr} {kvs : List (Int × Value)} {k : Int} {t : Tok} {v : Value} {s : Shared} {Q : Unit → Shared → Prop} (hm : s.heap.DictOf (intKind prog w) d kvs) (hz : kvs.length ≤ 1000)
    (hQ : ∀ h', h'.DictOf (intKind prog w) d (stored kvs k v) → Heap.SameBut d s.heap h' → Q () { s with heap := h', toks := s.toks + 1 }) :
    wpAny (model prog w) A (dictSet d (.int k t) v) Q E s := by
  unfold dictSet
  try with_reducible refine wpAny_holding ?_
  refine wpAny_bind ((intKind prog w).pyHash (k := k) (intKind_is _ _ _ _) ?_)
  exact wpAny_dictSetHashed_pairs (s := { s with toks := s.toks + 1 }) (intKind_is _ _ _ _) hm (fun h' a b => hQ h' a b) (Nat.le_trans hz (by decide))
theorem loop_pairs {d I l : Addr} {ps : List (Int × Value)} {items : Array Value} (hA : A.in1.handled = none) (hdI : d ≠ I) (hdl : d ≠ l) (hIl : l ≠ I) (hsz : items.size ≤ 900) (hps : ps.length = items.size) :
    ∀ (k i : Nat) (s : Shared), items.size - i = k → i ≤ items.size → s.heap.IsListIter I l i → s.heap.IsList l items → (∀ j v, items[j]? = some v → ∃ a, v = .ref a ∧ a ≠ d ∧ a ≠ I ∧ PairAt s.heap ps j v) →
      s.heap.DictOf (intKind prog w) d (merged [] (ps.take i)) →
      (∀ h' tk, h'.DictOf (intKind prog w) d (merged [] ps) → (∀ b o, b ≠ d → b ≠ I → s.heap.get? b = some o → h'.get? b = some o) → R (.ok (.ret .none)) { s with heap := h', toks := tk }) →
      codeAny (model prog w) A (.builtin "dict.update.loop" ⟨[.ref d, .ref I, rawInt i, .none], []⟩) R s := by
  intro k
  induction k with
  | zero =>
    intro i s hk hi hit hl hp hd hR
    have hin : i = items.size := by omega
    subst hin
    refine codeAny_builtin d_entry_loop ?_
    rw [Around.under_plainId d_plain_loop _]
    show wpAny _ A.in1 (pyNext (.ref I) >>= _) _ _ s
    refine wpAny_bind (wpAny_pyNext_list_end hA hit hl (by simp) fun h' he => ?_)
    have hd' : h'.DictOf (intKind prog w) d (merged [] ps) := by
      rw [← hps, List.take_length] at hd
      obtain ⟨o, es, ep, ho, r⟩ := hd
      exact ⟨o, es, ep, he d o hdI ho, r⟩
    exact wpAny_bind (wpAny_pure (wpAny_pure (hR h' s.toks hd' fun b o h1 h2 e => he b o h2 e)))
  | succ k ih =>
    intro i s hk hi hit hl hp hd hR
    have hlt : i < items.size := by omega
    have hx : items[i]? = some items[i] := by simp [hlt]
    obtain ⟨a, ea, had, haI, a', t, kv, ea', hkv, ha⟩ := hp i _ hx
    rw [ea] at ea'; cases ea'
    refine codeAny_builtin d_entry_loop ?_
    rw [Around.under_plainId d_plain_loop _]
    show wpAny _ A.in1 (pyNext (.ref I) >>= _) _ _ s
    refine wpAny_bind (wpAny_pyNext_list_item hit hl hx fun h' hit' hs' => ?_)
    rw [ea]
    have ha' : h'.get? a = some (tupOf #[.int kv.1 t, kv.2]) := by rw [hs'.2 a haI]; exact ha
    have hd' : h'.DictOf (intKind prog w) d (merged [] (ps.take i)) := by
      obtain ⟨o, es, ep, ho, r⟩ := hd
      exact ⟨o, es, ep, by rw [hs'.2 d hdI]; exact ho, r⟩
    have hT : (⟨h', s.gens, s.drawn, s.toks, s.os⟩ : Shared).TypeIs (.ref a) "tuple" := ⟨_, ha', rfl⟩
    show wpAny _ A.in1 (holding [Value.ref a] _ >>= _) _ _ _
    refine wpAny_bind (wpAny_holding (wpAny_bind (wpAny_tryCatch ?_)))
    unfold Builtin.Dict.pairItems
    refine wpAny_bind (wpAny_typeOf hT ?_)
    rw [if_pos (by decide)]
    refine wpAny_bind (wpAny_seqItems ha' rfl (wpAny_pure ?_))
    show wpAny _ A.in1 (holding _ (dictSet d (.int kv.1 t) kv.2)) _ _ _
    refine wpAny_holding (wpAny_dictSet_pairs hd' ?_ fun h2 hd2 hs2 => ?_)
    · have := merged_length_le [] (ps.take i)
      simp at this; omega
    · rw [← merged_take_succ _ _ _ _ hkv] at hd2
      refine wpAny_pure ⟨plainId_quiet d_plain_loop _, ih (i + 1) _ (by omega) hlt ?_ ?_ ?_ hd2 fun h3 tk hd3 hk3 => ?_⟩
      · obtain ⟨o, ho, r⟩ := hit'
        exact ⟨o, by rw [hs2.2 I (Ne.symm hdI)]; exact ho, r⟩
      · obtain ⟨o, ho, r⟩ := hl
        exact ⟨o, by rw [hs2.2 l (Ne.symm hdl), hs'.2 l hIl]; exact ho, r⟩
      · intro j v hv
        obtain ⟨b, eb, hbd, hbI, b', t', kv', eb', h1, h2⟩ := hp j v hv
        rw [eb] at eb'; cases eb'
        exact ⟨b, eb, hbd, hbI, b, t', kv', eb, h1, by rw [hs2.2 b hbd, hs'.2 b hbI]; exact h2⟩
      · exact hR h3 tk hd3 fun b o h1 h2 e => hk3 b o h1 h2 (by rw [hs2.2 b h1, hs'.2 b h2]; exact e)
end
section
variable {prog : Program} {w : World} {A : Around} {E : Value → Shared → Prop} {s : Shared}
theorem d_keys_miss : typeLookup (.type "list") (Str.ofString "keys") = pure none := am_miss_of_fast (by decide +kernel)
theorem getAttrQ_miss_list {a : Addr} {xs : Array Value} {k : Nat} {Q : Option Value → Shared → Prop}
    (hx : s.heap.get? a = some (listOf xs k)) (hA : A.handled = none)
    (h : ∀ h' tk, (∀ b o, s.heap.get? b = some o → h'.get? b = some o) → Q none { s with heap := h', toks := tk }) :
    wpAny (model prog w) A (getAttr? (.ref a) "keys") Q E s := by
  obtain ⟨hp, g, d, tk, os⟩ := s
  have hT : ∀ tk', (⟨hp, g, d, tk', os⟩ : Shared).TypeIs (.ref a) "list" := fun _ => ⟨_, hx, rfl⟩
  have f1 := sub_AttributeError
  have f3 := F.slot_list_getattribute.lookup
  have f4 := F.slot_list_getattribute.bind (.ref a)
  have f5 := am_list_getattr_none
  unfold getAttr? getAttrBy? getAttrBy
  repeat (any_goals (first | assumption | exact hT _ | ((with_reducible show wpAny _ _ (call (Value.builtin "list.__getattribute__") _ _) _ _ _); refine call_meets F.slot_list_getattribute (hT _) am_entry_list_getattribute (F.args_list_getattribute_2 _ _) (meets_getattribute_miss_list a xs k #[] "keys" _ d_keys_miss (by decide +kernel) (by decide +kernel)) ⟨hx, hA, fun h' tk' e hx' => ?_⟩) | wp_step))
  obtain ⟨t', u', he⟩ := hx'.there
  show wpAny _ _ (getattributeRaised _ _ _ _ _ _ _) _ _ _
  unfold getattributeRaised
  repeat (any_goals (first | assumption | wp_step))
  exact h _ _ hx'.keeps
theorem call_dict_list {l : Addr} {items : Array Value} {ps : List (Int × Value)} {n : Nat} {Q : Value → Shared → Prop} (hA : A.handled = none) (hl : s.heap.get? l = some (listOf items n)) (hsz : items.size ≤ 900) (hps : ps.length = items.size)
    (hp : ∀ j v, items[j]? = some v → PairAt s.heap ps j v)
    (h : ∀ h' tk, h'.DictOf (intKind prog w) s.heap.objs.size (merged [] ps) → (∀ b o, s.heap.get? b = some o → h'.get? b = some o) → Q (.ref s.heap.objs.size) { s with heap := h', toks := tk }) :
    wpAny (model prog w) A (call (.type "dict") [.ref l]) Q E s := by
  refine callType_codes (Q₁ := fun obj s₁ => obj = .ref s.heap.objs.size ∧ s₁ = { s with heap := s.heap.push { cls := .type "dict", data := .dict #[] } }) F.kt_called_dict (F.kt_typeCall_dict_1 _) F.entry_dict_init (kt_code_dict_new _ ⟨rfl, rfl⟩) ?_
  rintro obj s₁ ⟨rfl, rfl⟩
  have hnew : (s.heap.push { cls := .type "dict", data := .dict #[] }).DictOf (intKind prog w) s.heap.objs.size [] := Heap.DictOf.new s.heap
  have hl' : (s.heap.push { cls := .type "dict", data := .dict #[] }).get? l = some (listOf items n) := Heap.get?_push_of_some _ hl
  have hll : l < s.heap.objs.size := Heap.lt_size hl
  refine ⟨hnew.typeIs, F.args_dict_init_2 _ _, ?_⟩
  unfold Builtin.«dict.__init__»
  refine wpAny_bind ?_
  unfold Builtin.Dict.selfAndRest
  refine wpAny_bind (wpAny_notOrdered_dict hnew.typeIs ?_)
  show wpAny _ _ (pure (s.heap.objs.size, [Value.ref l])) _ _ _
  refine wpAny_pure ?_
  show wpAny _ _ (Builtin.Dict.updateFrom "dict.__init__" s.heap.objs.size (.ref l) [] .none) _ _ _
  unfold Builtin.Dict.updateFrom
  have hT : (⟨s.heap.push { cls := .type "dict", data := .dict #[] }, s.gens, s.drawn, s.toks, s.os⟩ : Shared).TypeIs (.ref l) "list" := ⟨_, hl', rfl⟩
  refine wpAny_bind (wpAny_typeOf hT ?_)
  rw [if_pos (by decide)]
  refine wpAny_bind (getAttrQ_miss_list (xs := items) (k := n) hl' (by show A.handled = none; exact hA) fun h1 tk1 hk1 => ?_)
  show wpAny _ _ (rule _ >>= _) _ _ _
  refine wpAny_bind (wpAny_rule ?_)
  have hl1 : h1.IsList l items := ⟨_, hk1 _ _ hl', rfl, n, rfl⟩
  refine wpAny_bind (wpAny_pyIter_list hl1 ?_)
  have hd1 : (h1.push { cls := .type "list_iterator", data := .fields #[.ref l, .int 0 0] }).DictOf (intKind prog w) s.heap.objs.size (merged [] (ps.take 0)) := by
    obtain ⟨o, es, ep, ho, r⟩ := hnew
    exact ⟨o, es, ep, Heap.get?_push_of_some _ (hk1 _ _ ho), r⟩
  have hb1 : s.heap.objs.size < h1.objs.size := Heap.lt_size (hk1 _ _ (Heap.get?_push_size s.heap rfl : (s.heap.push { cls := .type "dict", data := .dict #[] }).get? s.heap.objs.size = _))
  refine wpAny_pure ⟨plainId_quiet d_plain_loop _, loop_pairs (ps := ps) (items := items) (l := l) (by show A.handled = none; exact hA) (Nat.ne_of_lt hb1) (Nat.ne_of_gt hll) (Nat.ne_of_lt (Nat.lt_trans hll hb1)) hsz hps (items.size - 0) 0 _ rfl (Nat.zero_le _)
    ⟨_, Heap.get?_push_size _ rfl, rfl, rfl⟩ ⟨_, Heap.get?_push_of_some _ (hk1 _ _ hl'), rfl, n, rfl⟩ (fun j v hv => ?_) hd1 fun h2 tk2 hd2 hk2 => ?_⟩
  · obtain ⟨a, t, kv, rfl, e1, e2⟩ := hp j v hv
    have ha : a < s.heap.objs.size := Heap.lt_size e2
    exact ⟨a, rfl, Nat.ne_of_lt ha, Nat.ne_of_lt (Nat.lt_trans ha hb1), a, t, kv, rfl, e1, Heap.get?_push_of_some _ (hk1 _ _ (Heap.get?_push_of_some _ e2))⟩
  · refine ⟨rfl, h h2 tk2 hd2 fun b o e => ?_⟩
    have hb : b < s.heap.objs.size := Heap.lt_size e
    exact hk2 b o (Nat.ne_of_lt hb) (Nat.ne_of_lt (Nat.lt_trans hb hb1)) (Heap.get?_push_of_some _ (hk1 _ _ (Heap.get?_push_of_some _ e)))
end

/-- an expression that is a written value or a local: its value, and the next token -/
def simpV (m : Str → Option Value) (env : Env) : PySem.Expr → Nat → Option (Value × Nat)
  | .Constant (.str x) _ _, t => some (.str x t, t + 1)
  | .Constant (.int i) _ _, t => some (.int i t, t + 1)
  | .Constant .none _ _, t => some (.none, t)
  | .Constant (.bool b) _ _, t => some (.bool b, t)
  | .Name x _, t => if (env.kindOf x == some .local && !(x == ("__debug__" : Str))) = true then (m x).map fun v => (v, t) else none
  | _, _ => none
def simpVs (m : Str → Option Value) (env : Env) : List PySem.Expr → Nat → Option (List Value × Nat)
  | [], t => some ([], t)
  | e :: es, t => match simpV m env e t with
    | some (v, t') => match simpVs m env es t' with
      | some (vs, t'') => some (v :: vs, t'')
      | none => none
    | none => none
section
variable {prog : Program} {w : World} {A : Around} {E : Value → Shared → Prop} {h₀ : Heap} {cn : Str} {cs : Scope} {L ea : Addr} {ccd : Value} {cl : List (Str × Addr)} {m : Str → Option Value}
theorem simp_one (hk : cs.kind = .function) : ∀ {e : PySem.Expr} {s : Shared} {v : Value} {tk : Nat} {Q : Value → Shared → Prop}, Fr h₀ L s.heap m → simpV m (envX cn cs L ea ccd cl) e s.toks = some (v, tk) → Q v { s with toks := tk } → wpAny (model prog w) A (eval e (envX cn cs L ea ccd cl)) Q E s := by
  intro e s v tk Q F he h
  unfold simpV at he
  split at he
  · cases he; exact wpAny_Constant_str h
  · cases he; exact wpAny_Constant_int h
  · cases he; exact wpAny_Constant_none h
  · cases he; exact wpAny_Constant_bool h
  · split at he
    · rename_i hc
      obtain ⟨v', hv, e'⟩ := Option.map_eq_some_iff.mp he
      cases e'
      simp only [Bool.and_eq_true, beq_iff_eq, Bool.not_eq_true'] at hc
      exact nameX_L F hv h hk hc.1 hc.2
    · cases he
  · cases he
theorem simp_all (hk : cs.kind = .function) {pos : Pos} : ∀ {es : List PySem.Expr} {s : Shared} {vs : List Value} {tk : Nat} {Q : List Value → Shared → Prop}, Fr h₀ L s.heap m → simpVs m (envX cn cs L ea ccd cl) es s.toks = some (vs, tk) → Q vs { s with toks := tk } →
    wpAny (model prog w) A (spliced (backTo pos (starEach es (envX cn cs L ea ccd cl)))) Q E s
  | [], s, vs, tk, Q, F, he, h => by cases he; exact spliced_none h
  | e :: es, s, vs, tk, Q, F, he, h => by
    unfold simpVs at he
    split at he
    · rename_i v t' h1
      split at he
      · rename_i vs' t'' h2
        cases he
        refine spliced_more (simp_one hk F h1 (simp_all hk (s := { s with toks := t' }) F h2 h)) ?_
        cases e <;> first | rfl | (simp [simpV] at h1)
      · cases he
    · cases he
theorem disp_list {es : List PySem.Expr} {pos : Pos} {s : Shared} {vs : List Value} {tk : Nat} {news : List (Addr × Obj)} {Q : Value → Shared → Prop} (F : Fr h₀ L s.heap m) (N : News h₀ L s.heap news) (hk : cs.kind = .function)
    (he : simpVs m (envX cn cs L ea ccd cl) es s.toks = some (vs, tk)) (hz : Nat.ble vs.length 1000 = true)
    (h : ∀ l h', Fr h₀ L h' m → News h₀ L h' ((l, listOf vs.toArray 0) :: news) → (∀ p ∈ news, p.1 < l) → Q (.ref l) { s with heap := h', toks := tk }) :
    wpAny (model prog w) A (eval (.List es pos) (envX cn cs L ea ccd cl)) Q E s := by
  refine wpAny_List (simp_all hk F he ⟨Nat.le_trans (Nat.le_of_ble_eq_true hz) (by decide), ?_⟩)
  exact h _ _ (F.push _) (News.push F N _) fun p hp => Heap.lt_size (N p hp).1
theorem disp_tuple {es : List PySem.Expr} {kd : Nat} {pos : Pos} {s : Shared} {vs : List Value} {tk : Nat} {news : List (Addr × Obj)} {Q : Value → Shared → Prop} (F : Fr h₀ L s.heap m) (N : News h₀ L s.heap news) (hk : cs.kind = .function)
    (he : simpVs m (envX cn cs L ea ccd cl) es s.toks = some (vs, tk)) (hz : Nat.ble vs.length 1000 = true)
    (h : ∀ l h', Fr h₀ L h' m → News h₀ L h' ((l, ({ cls := .type "tuple", data := .seq vs.toArray } : Obj)) :: news) → (∀ p ∈ news, p.1 < l) → Q (.ref l) { s with heap := h', toks := tk }) :
    wpAny (model prog w) A (eval (.Tuple es kd pos) (envX cn cs L ea ccd cl)) Q E s := by
  refine wpAny_Tuple (simp_all hk F he ⟨Nat.le_trans (Nat.le_of_ble_eq_true hz) (by decide), ?_⟩)
  exact h _ _ (F.push _) (News.push F N _) fun p hp => Heap.lt_size (N p hp).1
end

theorem fillIt9 : PySem.Challenge.rw_pb0451_01 = PySem.Challenge.rw_pb0451_01 ∧ KH = KH := by k_fill; exact ⟨rfl, rfl⟩
theorem klines_C9_0 : True := by
  k_with_none
  (k_with "subscriptTail Name Constant ref int" => ((k_here; (with_reducible show wpAny _ _ (subscriptTail _ _ (Value.ref _) (Value.int _ _)) _ _ _); (with_unfolding_all refine' item_litK ?z73ea9d_k1 ?z73ea9d_k2 ?z73ea9d_k3 ?z73ea9d_k4 ?_ ?z73ea9d_k6; (case z73ea9d_k1 => is_list); (case z73ea9d_k2 => decide); (case z73ea9d_k3 => decide); (case z73ea9d_k4 => rfl); (case z73ea9d_k6 => with_unfolding_all rfl); k_whole))))
  (k_with "ENTER" => (((case k6 => k_is); (case k7 => k_is); (case k8 => omega); (case k9 => exact BindsTo.of_eq rfl); (case kB => (conv => lhs; whnf)); (case kL => exact locs rfl); (case c2 => exact rfl); (case c3 => exact rfl); (case c4 => exact rfl); (case c5 => decide); intro g' L' h' HG' FG' F' N' B' X' T' l'; (try dsimp only); k_fold)))
  (k_with "GO" => (repeat' (first | (k_unfold; (try dsimp only)) | (k_end; wrow_close) | walk1 | (dsimp only; walk1))))
  (k_with "ATF" => (first | refine' AtF.head | (refine' AtF.tail ?zaeb911_b; (case zaeb911_b => k_extra "ATF"))))
  (k_with "AT" => (first | refine' At.head | (refine' At.tail ?z4c4c10_b; (case z4c4c10_b => k_extra "AT"))))
  (k_with "M k_upd" => ((rename ND _ => hS; refine' upd_sd ?z531fe4_a hS ?z531fe4_e; (case z531fe4_a => k_extra "AT"); (case z531fe4_e => rfl))))
  (k_with "M k_updF" => ((rename ND _ => hS; refine' updF_sd ?zc7fe0e_a hS ?zc7fe0e_e; (case zc7fe0e_a => k_extra "ATF"); (case zc7fe0e_e => rfl))))
  (k_with "M kn_among" => ((simp [codeAmong, rawInt]; done)))
  (k_with "M kn_triples" => ((simp [TriplesOk, rawInt]; done)))
  (k_with "M k_room" => ((first | omega | ((try simp only [depth_mark, depth_under_make, depth_under_kw, depth_in1, depth_deeper, depth_caller]); omega))))
  (k_with "SUB" => (first | exact List.forall_mem_nil _ | (refine' List.forall_mem_cons.mpr ⟨?z3be472_h, ?z3be472_t⟩; (case z3be472_h => k_mem); (case z3be472_t => k_extra "SUB"))))
  (k_with "ATS" => (first | refine' Ats.nil | (refine' Ats.hit ?z9e6f72_b; (case z9e6f72_b => k_extra "ATS")) | (refine' Ats.skip ?z9e6f72_b; (case z9e6f72_b => k_extra "ATS"))))
  (k_with "CX" => ((refine' ⟨?za4188e_x1, ?za4188e_x2, ?za4188e_x3, ?za4188e_x4, ?za4188e_x5⟩; (case za4188e_x1 => k_asm); (case za4188e_x2 => k_asm); (case za4188e_x3 => k_asm); (case za4188e_x4 => k_asm); (case za4188e_x5 => first | rfl | assumption))))
  (k_with "NSUB" => ((refine' news_sub ?za05c2b_N ?za05c2b_s; (case za05c2b_N => (rename News _ _ _ _ => oN; exact oN)); (case za05c2b_s => k_extra "SUB"))))
  (k_with "getMethod ref" => ((k_here; (with_reducible show wpAny _ _ (getMethod (Value.ref _) (Str.ofString "get") _) _ _ _); k_dflt (refine' kdg_method (knd := intKind prog0 _) ?z1e447a_N ?z1e447a_m ?z1e447a_d ?_; (case z1e447a_N => k_asm); (case z1e447a_m => k_mem); (case z1e447a_d => assumption)))))
  (k_with "call builtin:dict.get" => ((k_here; k_dflt (refine' kdg_get1 (knd := intKind prog0 _) ?z9e4d13_N ?z9e4d13_m ?z9e4d13_d ?z9e4d13_l ?z9e4d13_k _ rfl ?_; (case z9e4d13_N => k_asm); (case z9e4d13_m => k_mem); (case z9e4d13_d => assumption); (case z9e4d13_l => assumption); (case z9e4d13_k => exact intKind_is _ _ _ _)))))
  (k_with "KSEL" => (first | exact fun _ h => absurd h List.not_mem_nil | (refine' List.forall_mem_cons.mpr ⟨?zf64061_h, ?zf64061_t⟩; (case zf64061_h => first | exact Or.inl (by k_mem) | (refine' Or.inr ⟨_, News.get ?zf64061_n1 ?zf64061_m1, News.get ?zf64061_n2 ?zf64061_m2⟩; (case zf64061_n1 => k_asm); (case zf64061_m1 => k_mem); (case zf64061_n2 => k_asm); (case zf64061_m2 => k_mem))); (case zf64061_t => k_extra "KSEL"))))
  (k_with "KEPT" => ((refine' Kept.sel (kept_of ?z6ac77d_hg ?z6ac77d_f) ?z6ac77d_s; (case z6ac77d_hg => assumption); (case z6ac77d_f => assumption); (case z6ac77d_s => k_extra "KSEL"))))
  (k_with "SUBM" => (first | exact fun _ h => absurd h List.not_mem_nil | (refine' List.forall_mem_cons.mpr ⟨?zaff134_h, ?zaff134_t⟩; (case zaff134_h => k_mem); (case zaff134_t => k_extra "SUBM"))))
  (k_with "FRESH" => ((refine' fresh_of ?z9e8148_hg ?z9e8148_n ?z9e8148_m ?z9e8148_nd ?z9e8148_hs; (case z9e8148_hg => assumption); (case z9e8148_n => assumption); (case z9e8148_m => k_mem); (case z9e8148_nd => first | assumption | exact ND.tl (by assumption) | exact ND.tl (ND.tl (by assumption)) | exact ND.tl (ND.tl (ND.tl (by assumption)))); (case z9e8148_hs => k_extra "SUBM"))))
  (k_with "AT?" => ((refine' News.get ?z4603e9_n1 ?z4603e9_m1; (case z4603e9_n1 => k_asm); (case z4603e9_m1 => k_mem))))
  trivial
theorem valueAt_stored {kvs : List (Int × Value)} {k j : Int} {v : Value} : valueAt (stored kvs k v) j = if k = j then some v else valueAt kvs j := by
  have A : ∀ l : List (Int × Value), valueAt (l.map (fun kv => if kv.1 = k then (kv.1, v) else kv)) j = if k = j then (if l.any (fun kv => decide (kv.1 = k)) then some v else none) else valueAt l j := by
    intro l
    induction l with
    | nil => simp [valueAt]
    | cons p l ih =>
      unfold valueAt at ih ⊢
      by_cases h1 : p.1 = k
      · by_cases h2 : k = j
        · simp [h1, h2]
        · have h3 : ¬ p.1 = j := by rw [h1]; exact h2
          simp only [List.map_cons, h1, if_true, List.find?_cons, h2, decide_false, if_false] at ih ⊢
          exact ih
      · by_cases h3 : p.1 = j
        · have h2 : ¬ k = j := fun e => h1 (by rw [h3, e])
          have h4 : ¬ j = k := fun e => h2 e.symm
          simp [h3, h2, h4]
        · simp only [List.map_cons, h1, if_false, List.find?_cons, h3, decide_false, List.any_cons, Bool.false_or]
          exact ih
  unfold stored
  split
  · rename_i h
    rw [A]
    split <;> simp_all
  · rename_i h
    unfold valueAt
    rw [List.find?_append]
    by_cases h2 : k = j
    · subst h2
      have : kvs.find? (fun kv => decide (kv.1 = k)) = none := by
        rw [List.find?_eq_none]
        intro x hx hx'
        exact h (List.any_eq_true.mpr ⟨x, hx, hx'⟩)
      simp [this]
    · simp [h2]
theorem get_stored {kvs : List (Int × Value)} {k : Int} {v : Value} : (valueAt (stored kvs k v) k).getD .none = v := by rw [valueAt_stored]; simp
theorem ND.ne_l {a b : Addr} {as : List Addr} (s : ND (a :: as)) (h : b ∈ as) : a ≠ b := fun e => (List.nodup_cons.mp s).1 (e ▸ h)
theorem ND.ne_r {a b : Addr} {as : List Addr} (s : ND (a :: as)) (h : b ∈ as) : b ≠ a := fun e => (List.nodup_cons.mp s).1 (e ▸ h)
inductive Pick (I : Addr) : List Addr → List Addr → Prop
  | head {as} : Pick I (I :: as) as
  | tail {a as bs} : Pick I as bs → Pick I (a :: as) (a :: bs)
theorem Pick.perm {I : Addr} {as bs : List Addr} (p : Pick I as bs) : List.Perm as (I :: bs) := by
  induction p with
  | head => exact List.Perm.refl _
  | tail _ ih => exact (ih.cons _).trans (List.Perm.swap _ _ _)
theorem ND.pick {I : Addr} {as bs : List Addr} (s : ND as) (p : Pick I as bs) : ND (I :: bs) := p.perm.nodup s
theorem unrEnd_pick {h₀ : Heap} {L I : Addr} {it : Obj} {rest : (Str → Option Value) → List (Addr × Obj) → Prop} {s₁ s₂ : Shared} {as bs : List Addr} (s : ND as) (p : Pick I as bs) (x : ND (I :: bs) → UnrEnd h₀ L s₁ I it rest s₂) : UnrEnd h₀ L s₁ I it rest s₂ := x (s.pick p)
theorem ND.p3 {o t a b : Addr} {r : List Addr} (h : ND (o :: t :: a :: b :: r)) : ND (o :: a :: b :: t :: r) :=
  List.Perm.nodup ((((List.Perm.swap a t (b :: r)).trans (List.Perm.cons a (List.Perm.swap b t r)))).cons o) h
def LamOff (h : Heap) (as : List Addr) (i : Nat) (f cell : Addr) : Prop := ∃ name qual pm c' ctv oc vs t, h.get? f = some (kla_obj name qual (lamS i).1 (lamS i).2.1 (lamS i).2.2 [(("asked" : Str), cell)] pm c' ctv) ∧ h.get? c' = some oc ∧ oc.data = .fields vs ∧ vs[1]? = some (.str qual t) ∧ f ∉ as ∧ c' ∉ as
def Lams (h : Heap) (as : List Addr) (z : W0) : Prop := ∀ i, 2 ≤ i → i ≤ 16 → LamOff h as i (z.lam i) z.cell
theorem Lams.at {h g : Heap} {as : List Addr} {z : W0} (x : Lams h as z) {ps : List Addr} (HG : ∀ b o, h.get? b = some o → b ∉ ps → g.get? b = some o) (hs : ∀ b ∈ ps, b ∈ as) : ∀ i, 2 ≤ i → i ≤ 16 → LamAt g i (z.lam i) z.cell := by
  intro i h1 h2
  obtain ⟨name, qual, pm, c', ctv, oc, vs, t, e1, e2, e3, e4, n1, n2⟩ := x i h1 h2
  exact ⟨name, qual, pm, c', ctv, HG _ _ e1 (fun m => n1 (hs _ m)), ⟨c', oc, vs, t, rfl, HG _ _ e2 (fun m => n2 (hs _ m)), e3, e4⟩⟩
theorem klines_C9_1 : True := by
  (k_with "NDSUB" => ((refine' ND.sub ?zb41ab3_s ?zb41ab3_l; (case zb41ab3_s => assumption); (case zb41ab3_l => k_extra "SUBL"))))
  (k_with "SUBL" => (first | exact List.nil_sublist _ | (refine' List.Sublist.cons_cons _ ?ze75662_b; (case ze75662_b => k_extra "SUBL")) | (refine' List.Sublist.cons _ ?ze75662_b; (case ze75662_b => k_extra "SUBL"))))
  (k_with "BACK0" => ((intro tk' h' F' hK'; (rename News _ _ _ _ => oN); have N' := news_kept oN hK' (fun _ _ h => nomatch h); clear oN hK')))
  (k_with "LAMK" => (first | assumption | (refine' LamAt.keeps ?z711d6a_la (Fr.keep ?z711d6a_fg); (case z711d6a_fg => assumption); (case z711d6a_la => k_extra "LAMK"))))
  (k_with "NDSUB" => (first | (refine' ND.sub ?ze76779_s ?ze76779_l; (case ze76779_s => assumption); (case ze76779_l => k_extra "SUBL")) | (refine' ND.p3 (ND.sub ?ze76779_s ?ze76779_l); (case ze76779_s => assumption); (case ze76779_l => k_extra "SUBL"))))
  (k_with "NEQ" => ((rename ND _ => hS; first | exact ND.ne_l hS (by k_mem) | exact ND.ne_r hS (by k_mem) | (have hS2 := ND.tl hS; k_extra "NEQ"))))
  (k_with "PICK" => (first | refine' Pick.head | (refine' Pick.tail ?z677e40_b; (case z677e40_b => k_extra "PICK"))))
  (k_with "RangeRest" => ((with_unfolding_all first | (refine RangeRest.succ (fun t' h' tk' F' N' => ?_)) | (refine RangeRest.zero (fun h' tk' F' N' => ?_); rename ND _ => hS; have hS9 := ND.tl hS))))
  (k_with "UnrEnd" => ((refine' unrEnd_pick ?z76e4c1_s ?z76e4c1_p ?_; (case z76e4c1_s => assumption); (case z76e4c1_p => k_extra "PICK"); intro hS9; first | ktu_endR | k_unrEnd)))
  (k_with "M ktu_off" => ((refine' Or.inl ?z3326b3_h; (case z3326b3_h => (try dsimp only); k_extra "NEQ"))))
  (k_with "call ref" => ((k_here; (with_reducible show wpAny _ _ (call (Value.ref 348) _) _ _ _); k_dflt (refine' get_v ?zdb1ea9_c ?zdb1ea9_n ?zdb1ea9_s ?zdb1ea9_hr ?zdb1ea9_sm ?zdb1ea9_d ?zdb1ea9_hv ?_; (case zdb1ea9_c => k_extra "CX"); (case zdb1ea9_n => k_extra "NSUB"); (case zdb1ea9_hr => assumption); (case zdb1ea9_sm => assumption); (case zdb1ea9_s => k_extra "NDSUB"); (case zdb1ea9_d => omega); (case zdb1ea9_hv => first | assumption | exact get_stored | rfl); k_extra "BACK0"))))
  (k_with "call ref" => ((k_here; (with_reducible show wpAny _ _ (call (Value.ref 50) _) _ _ _); k_dflt (first | (refine' step_rows0 ?z3f1ea5_c ?z3f1ea5_N ?z3f1ea5_S ?z3f1ea5_hco ?z3f1ea5_hz ?z3f1ea5_hd ?z3f1ea5_hu ?_; (case z3f1ea5_c => k_extra "CX"); (case z3f1ea5_N => k_extra "NSUB"); (case z3f1ea5_S => k_extra "NDSUB"); (case z3f1ea5_hco => assumption); (case z3f1ea5_hz => first | assumption | omega | (simp only [List.length_append, List.length_cons, List.length_nil]; omega)); (case z3f1ea5_hd => omega); (case z3f1ea5_hu => omega); intro tk' h' F' hK'; (rename ND _ => hS); (rename News _ _ _ _ => oN); have N' := news_kept oN hK' (fun _ _ h => nomatch h); clear oN hK') | (refine' step_check ?z3f1ea5_c ?z3f1ea5_la ?z3f1ea5_N ?z3f1ea5_S ?z3f1ea5_hco ?z3f1ea5_hz ?z3f1ea5_hd ?z3f1ea5_hu ?_; (case z3f1ea5_c => k_extra "CX"); (case z3f1ea5_N => k_extra "NSUB"); (case z3f1ea5_S => k_extra "NDSUB"); (case z3f1ea5_hco => assumption); (case z3f1ea5_hz => first | assumption | omega | (simp only [List.length_append, List.length_cons, List.length_nil]; omega)); (case z3f1ea5_hd => omega); (case z3f1ea5_hu => omega); (case z3f1ea5_la => first | exact (by assumption : ∀ i, 2 ≤ i → i ≤ 16 → LamAt _ i _ _) _ (by decide) (by decide) | k_extra "LAMK"); intro r' q' n' tk' ans' q3' q4' h' F' g1' f1' hs' g2' f2' ne' hm' hK'; (rename ND _ => hS); (rename News _ _ _ _ => oN); (have hS2 := ND.fresh hS oN rfl f1'); (have hS3 := ND.fresh2 hS2 oN rfl f2' ne'); refine' with_back2 (ch := [(_, _), (_, _)]) oN hS rfl hK' (List.forall_mem_cons.mpr ⟨hm', List.forall_mem_cons.mpr ⟨hs', List.forall_mem_nil _⟩⟩) f1' g1' f2' g2' ?z3f1ea5_fr ?z3f1ea5_at' ?_; (case z3f1ea5_fr => assumption); (case z3f1ea5_at' => k_extra "ATS"); intro N'; clear oN hK') | (refine' step_rows2 ?z3f1ea5_c ?z3f1ea5_hr ?z3f1ea5_hkz ?z3f1ea5_hsm ?z3f1ea5_N ?z3f1ea5_S ?z3f1ea5_hco ?z3f1ea5_hz ?z3f1ea5_hd ?z3f1ea5_hu ?_; (case z3f1ea5_c => k_extra "CX"); (case z3f1ea5_N => k_extra "NSUB"); (case z3f1ea5_S => k_extra "NDSUB"); (case z3f1ea5_hco => assumption); (case z3f1ea5_hz => first | assumption | omega | (simp only [List.length_append, List.length_cons, List.length_nil]; omega)); (case z3f1ea5_hd => omega); (case z3f1ea5_hu => omega); (case z3f1ea5_hr => assumption); (case z3f1ea5_hkz => first | assumption | omega | exact Nat.le_trans length_stored_le (by omega) | exact Nat.le_trans length_stored_le (Nat.succ_le_succ (Nat.le_trans length_stored_le (by omega)))); (case z3f1ea5_hsm => assumption); intro tk' ro' n' h' F' hg' hdk' ht' hK'; (rename ND _ => hS); (rename News _ _ _ _ => oN); refine' with_back (ch := [(_, _), (_, _)]) oN hS rfl hK' (List.forall_mem_cons.mpr ⟨ht', List.forall_mem_cons.mpr ⟨hg', List.forall_mem_nil _⟩⟩) ?z3f1ea5_at' ?_; (case z3f1ea5_at' => k_extra "ATS"); intro N'; clear oN hK') | (refine' step_rows1 ?z3f1ea5_c ?z3f1ea5_hr ?z3f1ea5_hkz ?z3f1ea5_hsm ?z3f1ea5_N ?z3f1ea5_S ?z3f1ea5_hco ?z3f1ea5_hz ?z3f1ea5_hd ?z3f1ea5_hu ?_; (case z3f1ea5_c => k_extra "CX"); (case z3f1ea5_N => k_extra "NSUB"); (case z3f1ea5_S => k_extra "NDSUB"); (case z3f1ea5_hco => assumption); (case z3f1ea5_hz => first | assumption | omega | (simp only [List.length_append, List.length_cons, List.length_nil]; omega)); (case z3f1ea5_hd => omega); (case z3f1ea5_hu => omega); (case z3f1ea5_hr => assumption); (case z3f1ea5_hkz => first | assumption | omega | exact Nat.le_trans length_stored_le (by omega) | exact Nat.le_trans length_stored_le (Nat.succ_le_succ (Nat.le_trans length_stored_le (by omega)))); (case z3f1ea5_hsm => assumption); intro tk' ro' n' h' F' hg' hdk' ht' hK'; (rename ND _ => hS); (rename News _ _ _ _ => oN); refine' with_back (ch := [(_, _), (_, _)]) oN hS rfl hK' (List.forall_mem_cons.mpr ⟨ht', List.forall_mem_cons.mpr ⟨hg', List.forall_mem_nil _⟩⟩) ?z3f1ea5_at' ?_; (case z3f1ea5_at' => k_extra "ATS"); intro N'; clear oN hK')))))
  trivial
section
variable {w : World} {mean : ExcName → Option Value} {mg mb : Str → Option Value} {A₀ : Around} {base h₀ : Heap} {outer : List Env} {cn : Str} {cs : Scope} {L ea : Addr} {ccd : Value} {cl : List (Str × Addr)} {m : Str → Option Value} {dp un : Nat} {s : Shared} {Q : Value → Shared → Prop} {E : Value → Shared → Prop}
variable {z : W0} {opl texts : Addr} {ro : Obj} {kvs : List (Int × Value)} {vs : List Value} {n on tn : Nat} {cc : Int} {ct : Nat} {fv v u p1 p2 p3 p4 a b gv : Value} {q0 q1 q2 q3 q4 : Nat} {x : Str} {tx : Nat} {i : Int} {ti tj : Nat} {tp : Addr}
theorem check_c {L1 : List Addr} (C : Cx w mean mg mb A₀ base h₀ outer L m cs s.heap) (LA : Lams s.heap [z.mach, z.md, texts, z.conn, z.cnd, z.btree, z.btd, z.core, z.cd, z.regs, z.cell, z.asked] z) (hr : ro.IsDictOf (intKind prog0 w) kvs) (hkz : kvs.length ≤ 800) (hsm : (z.regs == sysModules) = false)
    (N : News h₀ L s.heap [(z.mach, instObj 60 z.md), (z.md, dictOf (machD w.params z texts) 3), (texts, listOf #[] tn), (z.conn, instObj 485 z.cnd), (z.cnd, dictOf (connD w.params z cc ct) 22), (z.btree, instObj 485 z.btd), (z.btd, dictOf (btreeD w.params z) 11), (z.core, instObj 391 z.cd), (z.cd, dictOf (coreZ w.params z) 3), (z.regs, ro), (z.cell, z.co), (z.asked, listOf vs.toArray n)]) (S : ND [z.mach, z.md, texts, z.conn, z.cnd, z.btree, z.btd, z.core, z.cd, z.regs, z.cell, z.asked]) (hco : z.co.data = .cell (some (.ref z.asked))) (hz : vs.length ≤ 900) (hd : dp + 25 < recursionLimit) (hu : un + 100 < cLine)
    (k : ∀ (tk : Nat) h', Fr h₀ L h' m → Kept [z.md, z.regs, z.asked] s.heap h' → Q (.bool true) { s with heap := h', toks := tk }) :
    wpAny (model prog0 w) (AR dp un (envX cn cs L ea ccd cl) outer) (call (.ref 548) [.ref z.core, .ref z.mach]) Q E s := by
  obtain ⟨X, T, B, F, hk⟩ := C
  refine' enter (binds := [(("core" : Str), .ref z.core), (("machine" : Str), .ref z.mach)]) X T B F N rfl hk ?k6 ?k7 ?k8 ?k9 ?kL ?kB ?_ ?c2 ?c3 ?c4 ?c5
  k_extra "ENTER"
  rename (∀ b o, s.heap.get? b = some o → ¬ _ → _ = some o) => hG
  have LG := LA.at hG (fun _ h => h)
  k_extra "GO"
  rename Fr h₀ L _ m => hF
  exact k _ _ hF (by k_extra "KEPT")
end

theorem fillIt11 : PySem.Challenge.rw_pb0451_01 = PySem.Challenge.rw_pb0451_01 ∧ KH = KH := by k_fill; exact ⟨rfl, rfl⟩
theorem klines_C11_0 : True := by
  k_with_none
  (k_with "subscriptTail Name Constant ref int" => ((k_here; (with_reducible show wpAny _ _ (subscriptTail _ _ (Value.ref _) (Value.int _ _)) _ _ _); (with_unfolding_all refine' item_litK ?z73ea9d_k1 ?z73ea9d_k2 ?z73ea9d_k3 ?z73ea9d_k4 ?_ ?z73ea9d_k6; (case z73ea9d_k1 => is_list); (case z73ea9d_k2 => decide); (case z73ea9d_k3 => decide); (case z73ea9d_k4 => rfl); (case z73ea9d_k6 => with_unfolding_all rfl); k_whole))))
  (k_with "ENTER" => (((case k6 => k_is); (case k7 => k_is); (case k8 => omega); (case k9 => exact BindsTo.of_eq rfl); (case kB => (conv => lhs; whnf)); (case kL => exact locs rfl); (case c2 => exact rfl); (case c3 => exact rfl); (case c4 => exact rfl); (case c5 => decide); intro g' L' h' HG' FG' F' N' B' X' T' l'; (try dsimp only); k_fold)))
  (k_with "GO" => (repeat' (first | (k_unfold; (try dsimp only)) | (k_end; wrow_close) | walk1 | (dsimp only; walk1))))
  (k_with "ATF" => (first | refine' AtF.head | (refine' AtF.tail ?zaeb911_b; (case zaeb911_b => k_extra "ATF"))))
  (k_with "AT" => (first | refine' At.head | (refine' At.tail ?z4c4c10_b; (case z4c4c10_b => k_extra "AT"))))
  (k_with "M k_upd" => ((rename ND _ => hS; refine' upd_sd ?z531fe4_a hS ?z531fe4_e; (case z531fe4_a => k_extra "AT"); (case z531fe4_e => rfl))))
  (k_with "M k_updF" => ((rename ND _ => hS; refine' updF_sd ?zc7fe0e_a hS ?zc7fe0e_e; (case zc7fe0e_a => k_extra "ATF"); (case zc7fe0e_e => rfl))))
  (k_with "M kn_among" => ((simp [codeAmong, rawInt]; done)))
  (k_with "M kn_triples" => ((simp [TriplesOk, rawInt]; done)))
  (k_with "M k_room" => ((first | omega | ((try simp only [depth_mark, depth_under_make, depth_under_kw, depth_in1, depth_deeper, depth_caller]); omega))))
  (k_with "SUB" => (first | exact List.forall_mem_nil _ | (refine' List.forall_mem_cons.mpr ⟨?z3be472_h, ?z3be472_t⟩; (case z3be472_h => k_mem); (case z3be472_t => k_extra "SUB"))))
  (k_with "ATS" => (first | refine' Ats.nil | (refine' Ats.hit ?z9e6f72_b; (case z9e6f72_b => k_extra "ATS")) | (refine' Ats.skip ?z9e6f72_b; (case z9e6f72_b => k_extra "ATS"))))
  (k_with "CX" => ((refine' ⟨?za4188e_x1, ?za4188e_x2, ?za4188e_x3, ?za4188e_x4, ?za4188e_x5⟩; (case za4188e_x1 => k_asm); (case za4188e_x2 => k_asm); (case za4188e_x3 => k_asm); (case za4188e_x4 => k_asm); (case za4188e_x5 => first | rfl | assumption))))
  (k_with "NSUB" => ((refine' news_sub ?za05c2b_N ?za05c2b_s; (case za05c2b_N => (rename News _ _ _ _ => oN; exact oN)); (case za05c2b_s => k_extra "SUB"))))
  (k_with "getMethod ref" => ((k_here; (with_reducible show wpAny _ _ (getMethod (Value.ref _) (Str.ofString "get") _) _ _ _); k_dflt (refine' kdg_method (knd := intKind prog0 _) ?z1e447a_N ?z1e447a_m ?z1e447a_d ?_; (case z1e447a_N => k_asm); (case z1e447a_m => k_mem); (case z1e447a_d => assumption)))))
  (k_with "call builtin:dict.get" => ((k_here; k_dflt (refine' kdg_get1 (knd := intKind prog0 _) ?z9e4d13_N ?z9e4d13_m ?z9e4d13_d ?z9e4d13_l ?z9e4d13_k _ rfl ?_; (case z9e4d13_N => k_asm); (case z9e4d13_m => k_mem); (case z9e4d13_d => assumption); (case z9e4d13_l => assumption); (case z9e4d13_k => exact intKind_is _ _ _ _)))))
  (k_with "KSEL" => (first | exact fun _ h => absurd h List.not_mem_nil | (refine' List.forall_mem_cons.mpr ⟨?zf64061_h, ?zf64061_t⟩; (case zf64061_h => first | exact Or.inl (by k_mem) | (refine' Or.inr ⟨_, News.get ?zf64061_n1 ?zf64061_m1, News.get ?zf64061_n2 ?zf64061_m2⟩; (case zf64061_n1 => k_asm); (case zf64061_m1 => k_mem); (case zf64061_n2 => k_asm); (case zf64061_m2 => k_mem))); (case zf64061_t => k_extra "KSEL"))))
  (k_with "KEPT" => ((refine' Kept.sel (kept_of ?z6ac77d_hg ?z6ac77d_f) ?z6ac77d_s; (case z6ac77d_hg => assumption); (case z6ac77d_f => assumption); (case z6ac77d_s => k_extra "KSEL"))))
  (k_with "SUBM" => (first | exact fun _ h => absurd h List.not_mem_nil | (refine' List.forall_mem_cons.mpr ⟨?zaff134_h, ?zaff134_t⟩; (case zaff134_h => k_mem); (case zaff134_t => k_extra "SUBM"))))
  (k_with "FRESH" => ((refine' fresh_of ?z9e8148_hg ?z9e8148_n ?z9e8148_m ?z9e8148_nd ?z9e8148_hs; (case z9e8148_hg => assumption); (case z9e8148_n => assumption); (case z9e8148_m => k_mem); (case z9e8148_nd => first | assumption | exact ND.tl (by assumption) | exact ND.tl (ND.tl (by assumption)) | exact ND.tl (ND.tl (ND.tl (by assumption)))); (case z9e8148_hs => k_extra "SUBM"))))
  (k_with "AT?" => ((refine' News.get ?z4603e9_n1 ?z4603e9_m1; (case z4603e9_n1 => k_asm); (case z4603e9_m1 => k_mem))))
  (k_with "eval List" => ((k_here; k_dflt (refine' disp_list ?z72c816_F ?z72c816_N ?z72c816_hk ?z72c816_he ?z72c816_hz ?_; (case z72c816_F => k_asm); (case z72c816_N => k_asm); (case z72c816_hk => first | rfl | assumption); (case z72c816_he => exact rfl); (case z72c816_hz => exact rfl)); intro l' h' F' N' l1; (try k_lt l1))))
  (k_with "eval Tuple" => ((k_here; k_dflt (refine' disp_tuple ?zcd943b_F ?zcd943b_N ?zcd943b_hk ?zcd943b_he ?zcd943b_hz ?_; (case zcd943b_F => k_asm); (case zcd943b_N => k_asm); (case zcd943b_hk => first | rfl | assumption); (case zcd943b_he => exact rfl); (case zcd943b_hz => exact rfl)); intro l' h' F' N' l1; (try k_lt l1))))
  trivial
section
variable {w : World} {mean : ExcName → Option Value} {mg mb : Str → Option Value} {A₀ : Around} {base h₀ : Heap} {outer : List Env} {cn : Str} {cs : Scope} {L ea : Addr} {ccd : Value} {cl : List (Str × Addr)} {m : Str → Option Value} {dp un : Nat} {s : Shared} {Q : Value → Shared → Prop} {E : Value → Shared → Prop}
theorem enterC {news : List (Addr × Obj)} {env : Env} {R : Result → Shared → Prop} {A : Around} {name qual : Str} {fs : Stmt} {dV kV doc pm cdv ct oc : Value} {an od : Option Addr} {osl : Array (Option Value)} {f : Addr} {pos : List Value} {binds : List (Str × Value)}
    (X : (KH w.params).In h₀) (T : Top topProg lawLoose mean mg mb h₀) (B : Below A₀ base outer h₀) (F : Fr h₀ L s.heap m) (N : News h₀ L s.heap news) (hA : A.frames = some (env :: outer)) (hf : env.frame = some L) (hk : env.scope.kind = .function)
    (ho : (KH w.params).lookup f = some ⟨oc, od, .func (FN name qual fs dV kV doc pm an cdv ct), osl⟩) (hcd : codeIn (KH w.params) cdv qual = true) (hroom : A.depth < recursionLimit)
    (hbind : BindsTo s (FN name qual fs dV kV doc pm an cdv ct) ⟨pos, []⟩ binds) (hloc : ∀ y ∈ binds, (fScope fs).names.lookup y.1 = some .local) {body : List Stmt} (hb : fBody fs = body)
    (h : ∀ g L' h₁, (∀ b o, s.heap.get? b = some o → b ∉ news.map (·.1) → g.get? b = some o) → Fr h₀ L g m → Fr g L' h₁ (fun y => binds.reverse.lookup y) → News g L' h₁ news → Below A base (env :: outer) g → (KH w.params).In g → Top topProg lawLoose mean mg mb g → (∀ p ∈ news, p.1 < L') →
      wpAny (model prog0 w) (A.deeper (envOf qual (fScope fs) L' f cdv)) (execs body (envOf qual (fScope fs) L' f cdv))
        (fun fl s' => LeaveK h₀ L m g R (match fl with | .ret v => v | _ => .none) s')
        (fun _ _ => False) { s with heap := h₁, toks := s.toks + binds.length })
    (hco : (fScope fs).isCoroutine = false) (hgen : (fScope fs).isGenerator = false) (hk' : (fScope fs).kind = .function)
    (hcell : ∀ x ∈ (fScope fs).names, x.2 ≠ .cell) : codeAny (model prog0 w) A (.call (.ref f) ⟨pos, []⟩) R s := by
  subst hb
  refine callG B F N T.nolimit hA hf hk ((X.keeps F.keep) _ _ ho) rfl (codeRec_of (X.keeps F.keep) hcd) hroom hbind hloc (fun g L' h₁ z a b c d e t => ?_) hcell hco hgen hk'
  exact wpAny_mono (h g L' h₁ z a b c d (X.keeps e) (T.keeps e) t) (fun _ _ x => x) fun _ _ x => x.elim
theorem prog_c {news : List (Addr × Obj)} {as : List Addr} (C : Cx w mean mg mb A₀ base h₀ outer L m cs s.heap) (N : News h₀ L s.heap news) (S : ND as) (e : news.map (·.1) = as) (hd : dp + 12 < recursionLimit) (hu : un + 60 < cLine)
    (k : ∀ (i d ops : Addr) (t1 t2 t3 t4 t5 t6 t7 t8 n tk : Nat) (v2 v3 v4 v5 v6 v7 v8 : Value) h', Fr h₀ L h' m → News h₀ L h' ((ops, listOf #[] n) :: (i, instObj 485 d) :: (d, dictOf (progD w.params ops t1 t2 t3 t4 t5 t6 t7 t8 v2 v3 v4 v5 v6 v7 v8) 8) :: news) → ND (ops :: i :: d :: as) → Q (.ref i) { s with heap := h', toks := tk }) :
    wpAny (model prog0 w) (AR dp un (envX cn cs L ea ccd cl) outer) (call (.ref 485) []) Q E s := by
  subst e
  obtain ⟨X, T, B, F, hk⟩ := C
  refine' call_cls ?k1 ?k2 ?k3 ?k4 ?k5 ?k6 ?_
  (case k1 => k_asm)
  (case k2 => k_asm)
  (case k3 => k_asm)
  (case k4 => k_is)
  (case k5 => k_is)
  (case k6 => k_is)
  intro x' d' h' F' N' l1 l2
  (try k_lt l1)
  (try k_lt2 l2)
  rename Fr h₀ L _ _ => F0
  rename News h₀ L _ _ => N0
  refine' enterC (binds := [(("self" : Str), .ref x')]) X T B F0 N0 rfl rfl hk ?k6 ?k7 ?k8 ?k9 ?kL ?kB ?_ ?c2 ?c3 ?c4 ?c5
  (case k8 => k_room)
  (case k6 => k_is)
  (case k7 => k_is)
  (case k9 => exact BindsTo.of_eq rfl)
  (case kB => (conv => lhs; whnf))
  (case kL => exact locs rfl)
  (case c2 => exact rfl)
  (case c3 => exact rfl)
  (case c4 => exact rfl)
  (case c5 => decide)
  intro g' L' h' HG' FG' F' N' B' X' T' l'
  (try dsimp only)
  k_fold
  k_extra "GO"
  rename Fr h₀ L _ m => hF
  rename News h₀ L _ _ => hN
  rename ND _ => hS
  exact k _ _ _ _ _ _ _ _ _ _ _ _ _ _ _ _ _ _ _ _ _ hF (news_sub hN (fun p hp => .tail _ (.tail _ hp))) (ND.tl (ND.tl hS))
end

/-- the seven statements: their class, their node's dict, the row that is due -/
inductive Kd where
  | beg | com | rb0 | vac | rb | sp | rel
def Kd.cls : Kd → Addr
  | .beg => 191 | .com => 210 | .rb0 => 236 | .vac => 307 | .rb => 236 | .sp => 262 | .rel => 288
def Kd.nodeO (P : Params) (k : Kd) (x y : Value) (tn : Nat) : Obj := match k with
  | .beg => dictOf [KE P "kind" tn y] 1
  | .com => dictOf [] 0
  | .rb0 => dictOf [KE P "name" tn .none] 1
  | .vac => dictOf [] 0
  | .rb => dictOf [KE P "name" tn x] 1
  | .sp => dictOf [KE P "name" tn x] 1
  | .rel => dictOf [KE P "name" tn x] 1
def Kd.due (k : Kd) (x y : Value) (q1 q2 : Nat) : Array Value := match k with
  | .beg => #[.str "begin" q1, y]
  | .com => #[.str "commit_statement" q1]
  | .rb0 => #[.str "rollback_statement" q1]
  | .vac => #[.str "vacuum" q1]
  | .rb => #[.str "savepoint" q1, .str "rollback" q2, x]
  | .sp => #[.str "savepoint" q1, .str "begin" q2, x]
  | .rel => #[.str "savepoint" q1, .str "release" q2, x]
def Kd.two : Kd → Bool
  | .beg | .com | .rb0 | .vac => false
  | _ => true
def Kd.dat (k : Kd) (x y : Str) : PyData := match k with
  | .beg => .tuple [.str "begin", .str y]
  | .com => .tuple [.str "commit_statement"]
  | .rb0 => .tuple [.str "rollback_statement"]
  | .vac => .tuple [.str "vacuum"]
  | .rb => .tuple [.str "savepoint", .str "rollback", .str x]
  | .sp => .tuple [.str "savepoint", .str "begin", .str x]
  | .rel => .tuple [.str "savepoint", .str "release", .str x]
theorem Kd.reads {h : Heap} {a : Addr} {k : Kd} {x y : Str} {tx ty q1 q2 : Nat} (e : h.get? a = some (tupOf (k.due (.str x tx) (.str y ty) q1 q2))) : Reads h (.ref a) (k.dat x y) [] := by
  cases k
  all_goals (refine Reads.tuple e rfl rfl ?_; first | exact ReadsAll.cons (Reads.str _ _) ReadsAll.nil | exact ReadsAll.cons (Reads.str _ _) (ReadsAll.cons (Reads.str _ _) ReadsAll.nil) | exact ReadsAll.cons (Reads.str _ _) (ReadsAll.cons (Reads.str _ _) (ReadsAll.cons (Reads.str _ _) ReadsAll.nil)))
abbrev XS : List Str := ["a", "B", "two words", ""]
abbrev YS : List Str := ["deferred", "immediate", "exclusive"]
theorem Kd.show_ok {k : Kd} {x y : Str} (hx : x ∈ XS) (hy : y ∈ YS) : (k.dat x y).hasDict = false ∧ (k.dat x y).showable = true ∧ (k.dat x y).depth ≤ 2 ∧ (k.dat x y).shown.length ≤ sizeLine ∧ PyData.strOk (k.dat x y).shown = true := by
  have h : (XS.all fun x => YS.all fun y => !(k.dat x y).hasDict && (k.dat x y).showable && decide ((k.dat x y).depth ≤ 2) && decide ((k.dat x y).shown.length ≤ sizeLine) && PyData.strOk (k.dat x y).shown) = true := by cases k <;> decide +kernel
  have := List.all_eq_true.mp (List.all_eq_true.mp h x hx) y hy
  simp only [Bool.and_eq_true, Bool.not_eq_true', decide_eq_true_eq] at this
  exact ⟨this.1.1.1.1, this.1.1.1.2, this.1.1.2, this.1.2, this.2⟩
theorem with_backN {h₀ h h' : Heap} {L : Addr} {new ch l l' : List (Addr × Obj)} {as : List Addr} {P : Prop} {m : Str → Option Value} (N : News h₀ L h l) (s : ND as) (e : l.map (·.1) = as) (k : Kept (ch.map (·.1)) h h') (hc : ∀ p ∈ ch, h'.get? p.1 = some p.2) (F : Fr h₀ L h m) (hf : ∀ p ∈ new, h.get? p.1 = none) (hr : ∀ p ∈ new, h'.get? p.1 = some p.2) (nd : ND (new.map (·.1)))
    (a : Ats ch l l') (x : News h₀ L h' (new ++ l') → ND (new.map (·.1) ++ as) → P) : P := by
  refine x (fun p hp => ?_) (List.nodup_append.mpr ⟨nd, s, fun a ha b hb e' => ?_⟩)
  · rcases List.mem_append.mp hp with hp | hp
    · refine ⟨hr p hp, fun q => ?_, ?_⟩
      · obtain ⟨oL, _, _, hL, _⟩ := F.ns
        have := hf p hp
        have q : p.1 = L := q
        rw [q, hL] at this; cases this
      · cases q : h₀.get? p.1 with
        | none => rfl
        | some o => have := F.keep _ _ q; rw [hf p hp] at this; cases this
    · exact news_back N a s e k hc p hp
  · subst e
    obtain ⟨p, hp, rfl⟩ := List.mem_map.mp ha
    obtain ⟨r, hr', e2⟩ := List.mem_map.mp hb
    have := (N r hr').1
    rw [e2, ← e', hf p hp] at this; cases this
theorem fresh_all {g h h' : Heap} {L : Addr} {l new : List (Addr × Obj)} {mods : List Addr} (HG : ∀ b o, h.get? b = some o → b ∉ mods → g.get? b = some o) (N : News g L h' l) (hs : ∀ p ∈ new, p ∈ l) (nd : ND (new.map (·.1) ++ mods)) : ∀ p ∈ new, h.get? p.1 = none := fun p hp => by
  cases q : h.get? p.1 with
  | none => rfl
  | some o' =>
    have := HG p.1 o' q (fun m => (List.nodup_append.mp nd).2.2 p.1 (List.mem_map.mpr ⟨p, hp, rfl⟩) p.1 m rfl)
    rw [(N p (hs p hp)).2.2] at this; cases this
theorem gets_all {g h' : Heap} {L : Addr} {l new : List (Addr × Obj)} (N : News g L h' l) (hs : ∀ p ∈ new, p ∈ l) : ∀ p ∈ new, h'.get? p.1 = some p.2 := fun p hp => (N p (hs p hp)).1
theorem strs4 {i : Nat} {v : Value} {t1 t2 t3 t4 : Nat} (h : [Value.str "a" t1, .str "B" t2, .str "two words" t3, .str "" t4][i]? = some v) : ∃ x t, v = .str x t ∧ x ∈ XS := by
  rcases i with _ | _ | _ | _ | i
  · cases h; exact ⟨_, _, rfl, .head _⟩
  · cases h; exact ⟨_, _, rfl, .tail _ (.head _)⟩
  · cases h; exact ⟨_, _, rfl, .tail _ (.tail _ (.head _))⟩
  · cases h; exact ⟨_, _, rfl, .tail _ (.tail _ (.tail _ (.head _)))⟩
  · simp at h
theorem strs3 {i : Nat} {v : Value} {t1 t2 t3 : Nat} (h : [Value.str "deferred" t1, .str "immediate" t2, .str "exclusive" t3][i]? = some v) : ∃ x t, v = .str x t ∧ x ∈ YS := by
  rcases i with _ | _ | _ | i
  · cases h; exact ⟨_, _, rfl, .head _⟩
  · cases h; exact ⟨_, _, rfl, .tail _ (.head _)⟩
  · cases h; exact ⟨_, _, rfl, .tail _ (.tail _ (.head _))⟩
  · simp at h
theorem pick7 {P : Value → Prop} {i : Nat} {v v1 v2 v3 v4 v5 v6 v7 : Value} (h : [v1, v2, v3, v4, v5, v6, v7][i]? = some v) (h1 : P v1) (h2 : P v2) (h3 : P v3) (h4 : P v4) (h5 : P v5) (h6 : P v6) (h7 : P v7) : P v := by
  rcases i with _ | _ | _ | _ | _ | _ | _ | i
  all_goals first | (cases h; assumption) | (simp at h)
theorem Ats.app {ch l l' : List (Addr × Obj)} (h : Ats ch l l') : ∀ (five : List (Addr × Obj)), Ats ch (five ++ l) (five ++ l')
  | [] => h
  | _ :: r => .skip (Ats.app h r)
/-- the things that were displayed, behind the draw -/
theorem pick_ledger {g h1 h2 : Heap} {L src : Addr} {p : Addr × Obj} {so : Obj} {objs five news news' : List (Addr × Obj)} (N : News g L h1 (p :: (objs ++ news))) (S : ND (p.1 :: (objs ++ news).map (·.1))) (hs : five.Sublist objs) (k : Kept [src] h1 h2) (e : h2.get? src = some so) (a : Ats [(src, so)] news news') :
    News g L h2 (five ++ news') ∧ ND ((five ++ news).map (·.1)) := by
  have hs2 : (five ++ news).Sublist (p :: (objs ++ news)) := .cons _ (hs.append (List.Sublist.refl _))
  have N1 : News g L h1 (five ++ news) := news_sub N fun q hq => hs2.subset hq
  have S1 : ND ((five ++ news).map (·.1)) := ND.sub (bs := (five ++ news).map (·.1)) (as := (p :: (objs ++ news)).map (·.1)) S (hs2.map _)
  exact ⟨news_back (ch := [(src, so)]) N1 (a.app five) S1 rfl k (List.forall_mem_cons.mpr ⟨e, List.forall_mem_nil _⟩), S1⟩
def stEs : List PySem.Expr := match (fBody (st 32))[(2 : Nat)]? with
  | some (.Return (some (.Call _ [_, .List es _] _ _)) _) => es
  | _ => []
def stE (i : Nat) : PySem.Expr := (stEs[i]?).getD (.Constant .none 0 ⟨0, 0, 0, 0⟩)
/-- a statement and its due row, as they lie -/
def InS (P : Params) (x y : Str) (tx ty : Nat) (objs : List (Addr × Obj)) (v : Value) : Prop := ∃ (kd : Kd) (tp due node nd : Addr) (q1 q2 tn : Nat), v = .ref tp ∧ [(tp, tupOf #[.ref node, .ref due]), (due, tupOf (kd.due (.str x tx) (.str y ty) q1 q2)), (node, instObj kd.cls nd), (nd, kd.nodeO P (.str x tx) (.str y ty) tn)].Sublist objs
theorem InS.more {P : Params} {x y : Str} {tx ty : Nat} {o1 o2 : List (Addr × Obj)} {v : Value} (h : InS P x y tx ty o1 v) (s : o1.Sublist o2) : InS P x y tx ty o2 v :=
  let ⟨kd, tp, due, node, nd, q1, q2, tn, e, hs⟩ := h; ⟨kd, tp, due, node, nd, q1, q2, tn, e, hs.trans s⟩
def DispS (w : World) (h₀ : Heap) (L : Addr) (A : Around) (env : Env) (m : Str → Option Value) (x y : Str) (tx ty : Nat) (e : PySem.Expr) : Prop :=
  ∀ (s : Shared) (news : List (Addr × Obj)) (Q : Value → Shared → Prop), Fr h₀ L s.heap m → News h₀ L s.heap news → ND (news.map (·.1)) → (∀ objs v tk h', InS w.params x y tx ty objs v → Fr h₀ L h' m → News h₀ L h' (objs ++ news) → ND ((objs ++ news).map (·.1)) → Q v { s with heap := h', toks := tk }) →
    wpAny (model prog0 w) A (eval e env) Q (fun _ _ => False) s
theorem dispS_many {w : World} {h₀ : Heap} {L : Addr} {A : Around} {env : Env} {m : Str → Option Value} {x y : Str} {tx ty : Nat} {pos : Pos} :
    ∀ (es : List PySem.Expr), (∀ e ∈ es, DispS w h₀ L A env m x y tx ty e ∧ ∀ r, starEach (e :: r) env = (false, eval e env) :: starEach r env) → ∀ (s : Shared) (news : List (Addr × Obj)) (Q : List Value → Shared → Prop), Fr h₀ L s.heap m → News h₀ L s.heap news → ND (news.map (·.1)) →
      (∀ objs us tk h', us.length = es.length → (∀ v ∈ us, InS w.params x y tx ty objs v) → Fr h₀ L h' m → News h₀ L h' (objs ++ news) → ND ((objs ++ news).map (·.1)) → Q us { s with heap := h', toks := tk }) →
      wpAny (model prog0 w) A (spliced (backTo pos (starEach es env))) Q (fun _ _ => False) s
  | [], _, s, news, Q, F, N, S, k => spliced_none (k [] [] _ _ rfl (fun _ h => nomatch h) F N S)
  | e :: es, he, s, news, Q, F, N, S, k => by
    refine spliced_more ((he e (.head _)).1 s news _ F N S fun o1 v tk h1 hv F1 N1 S1 => ?_) ((he e (.head _)).2 es)
    refine dispS_many es (fun e' h' => he e' (.tail _ h')) { s with heap := h1, toks := tk } (o1 ++ news) _ F1 N1 S1 fun o2 us tk2 h2 hl hus F2 N2 S2 => ?_
    rw [← List.append_assoc] at N2 S2
    refine k (o2 ++ o1) (v :: us) tk2 h2 (congrArg (· + 1) hl) (fun u hu => ?_) F2 N2 S2
    rcases List.mem_cons.mp hu with rfl | hu
    · exact hv.more (List.sublist_append_right _ _)
    · exact (hus u hu).more (List.sublist_append_left _ _)
theorem dispS_ops {w : World} {h₀ : Heap} {L : Addr} {A : Around} {env : Env} {m : Str → Option Value} {x y : Str} {tx ty : Nat} {pos : Pos} {es : List PySem.Expr} {s : Shared} {news : List (Addr × Obj)} {Q : Value → Shared → Prop} (F : Fr h₀ L s.heap m) (N : News h₀ L s.heap news) (S : ND (news.map (·.1)))
    (he : ∀ e ∈ es, DispS w h₀ L A env m x y tx ty e ∧ ∀ r, starEach (e :: r) env = (false, eval e env) :: starEach r env) (hl : es.length = 7)
    (k : ∀ (l : Addr) (objs : List (Addr × Obj)) (us : List Value) (tk : Nat) h', us.length = 7 → (∀ v ∈ us, InS w.params x y tx ty objs v) → Fr h₀ L h' m → News h₀ L h' ((l, listOf us.toArray 0) :: (objs ++ news)) → ND (l :: (objs ++ news).map (·.1)) → Q (.ref l) { s with heap := h', toks := tk }) :
    wpAny (model prog0 w) A (eval (.List es pos) env) Q (fun _ _ => False) s := by
  refine wpAny_List (dispS_many es he s news _ F N S fun objs us tk h' hl' hus F' N' S' => ⟨by rw [hl', hl]; decide, ?_⟩)
  exact k _ objs us _ _ (hl'.trans hl) hus (F'.push _) (News.push F' N' _) (ND.ofNews (fun p hp => Heap.lt_size (N' p hp).1) S' rfl)
theorem fillIt12 : PySem.Challenge.rw_pb0451_01 = PySem.Challenge.rw_pb0451_01 ∧ KH = KH := by k_fill; exact ⟨rfl, rfl⟩
theorem klines_C12_0 : True := by
  k_with_none
  (k_with "subscriptTail Name Constant ref int" => ((k_here; (with_reducible show wpAny _ _ (subscriptTail _ _ (Value.ref _) (Value.int _ _)) _ _ _); (with_unfolding_all refine' item_litK ?z73ea9d_k1 ?z73ea9d_k2 ?z73ea9d_k3 ?z73ea9d_k4 ?_ ?z73ea9d_k6; (case z73ea9d_k1 => is_list); (case z73ea9d_k2 => decide); (case z73ea9d_k3 => decide); (case z73ea9d_k4 => rfl); (case z73ea9d_k6 => with_unfolding_all rfl); k_whole))))
  (k_with "ENTER" => (((case k6 => k_is); (case k7 => k_is); (case k8 => omega); (case k9 => exact BindsTo.of_eq rfl); (case kB => (conv => lhs; whnf)); (case kL => exact locs rfl); (case c2 => exact rfl); (case c3 => exact rfl); (case c4 => exact rfl); (case c5 => decide); intro g' L' h' HG' FG' F' N' B' X' T' l'; (try dsimp only); k_fold)))
  (k_with "GO" => (repeat' (first | (k_unfold; (try dsimp only)) | (k_end; wrow_close) | walk1 | (dsimp only; walk1))))
  (k_with "ATF" => (first | refine' AtF.head | (refine' AtF.tail ?zaeb911_b; (case zaeb911_b => k_extra "ATF"))))
  (k_with "AT" => (first | refine' At.head | (refine' At.tail ?z4c4c10_b; (case z4c4c10_b => k_extra "AT"))))
  (k_with "M k_upd" => ((rename ND _ => hS; refine' upd_sd ?z531fe4_a hS ?z531fe4_e; (case z531fe4_a => k_extra "AT"); (case z531fe4_e => rfl))))
  (k_with "M k_updF" => ((rename ND _ => hS; refine' updF_sd ?zc7fe0e_a hS ?zc7fe0e_e; (case zc7fe0e_a => k_extra "ATF"); (case zc7fe0e_e => rfl))))
  (k_with "M kn_among" => ((simp [codeAmong, rawInt]; done)))
  (k_with "M kn_triples" => ((simp [TriplesOk, rawInt]; done)))
  (k_with "M k_room" => ((first | omega | ((try simp only [depth_mark, depth_under_make, depth_under_kw, depth_in1, depth_deeper, depth_caller]); omega))))
  (k_with "SUB" => (first | exact List.forall_mem_nil _ | (refine' List.forall_mem_cons.mpr ⟨?z3be472_h, ?z3be472_t⟩; (case z3be472_h => k_mem); (case z3be472_t => k_extra "SUB"))))
  (k_with "ATS" => (first | refine' Ats.nil | (refine' Ats.hit ?z9e6f72_b; (case z9e6f72_b => k_extra "ATS")) | (refine' Ats.skip ?z9e6f72_b; (case z9e6f72_b => k_extra "ATS"))))
  (k_with "CX" => ((refine' ⟨?za4188e_x1, ?za4188e_x2, ?za4188e_x3, ?za4188e_x4, ?za4188e_x5⟩; (case za4188e_x1 => k_asm); (case za4188e_x2 => k_asm); (case za4188e_x3 => k_asm); (case za4188e_x4 => k_asm); (case za4188e_x5 => first | rfl | assumption))))
  (k_with "NSUB" => ((refine' news_sub ?za05c2b_N ?za05c2b_s; (case za05c2b_N => (rename News _ _ _ _ => oN; exact oN)); (case za05c2b_s => k_extra "SUB"))))
  (k_with "getMethod ref" => ((k_here; (with_reducible show wpAny _ _ (getMethod (Value.ref _) (Str.ofString "get") _) _ _ _); k_dflt (refine' kdg_method (knd := intKind prog0 _) ?z1e447a_N ?z1e447a_m ?z1e447a_d ?_; (case z1e447a_N => k_asm); (case z1e447a_m => k_mem); (case z1e447a_d => assumption)))))
  (k_with "call builtin:dict.get" => ((k_here; k_dflt (refine' kdg_get1 (knd := intKind prog0 _) ?z9e4d13_N ?z9e4d13_m ?z9e4d13_d ?z9e4d13_l ?z9e4d13_k _ rfl ?_; (case z9e4d13_N => k_asm); (case z9e4d13_m => k_mem); (case z9e4d13_d => assumption); (case z9e4d13_l => assumption); (case z9e4d13_k => exact intKind_is _ _ _ _)))))
  (k_with "KSEL" => (first | exact fun _ h => absurd h List.not_mem_nil | (refine' List.forall_mem_cons.mpr ⟨?zf64061_h, ?zf64061_t⟩; (case zf64061_h => first | exact Or.inl (by k_mem) | (refine' Or.inr ⟨_, News.get ?zf64061_n1 ?zf64061_m1, News.get ?zf64061_n2 ?zf64061_m2⟩; (case zf64061_n1 => k_asm); (case zf64061_m1 => k_mem); (case zf64061_n2 => k_asm); (case zf64061_m2 => k_mem))); (case zf64061_t => k_extra "KSEL"))))
  (k_with "KEPT" => ((refine' Kept.sel (kept_of ?z6ac77d_hg ?z6ac77d_f) ?z6ac77d_s; (case z6ac77d_hg => assumption); (case z6ac77d_f => assumption); (case z6ac77d_s => k_extra "KSEL"))))
  (k_with "SUBM" => (first | exact fun _ h => absurd h List.not_mem_nil | (refine' List.forall_mem_cons.mpr ⟨?zaff134_h, ?zaff134_t⟩; (case zaff134_h => k_mem); (case zaff134_t => k_extra "SUBM"))))
  (k_with "FRESH" => ((refine' fresh_of ?z9e8148_hg ?z9e8148_n ?z9e8148_m ?z9e8148_nd ?z9e8148_hs; (case z9e8148_hg => assumption); (case z9e8148_n => assumption); (case z9e8148_m => k_mem); (case z9e8148_nd => first | assumption | exact ND.tl (by assumption) | exact ND.tl (ND.tl (by assumption)) | exact ND.tl (ND.tl (ND.tl (by assumption)))); (case z9e8148_hs => k_extra "SUBM"))))
  (k_with "AT?" => ((refine' News.get ?z4603e9_n1 ?z4603e9_m1; (case z4603e9_n1 => k_asm); (case z4603e9_m1 => k_mem))))
  (k_with "NDSUB" => ((refine' ND.sub ?zb41ab3_s ?zb41ab3_l; (case zb41ab3_s => assumption); (case zb41ab3_l => k_extra "SUBL"))))
  (k_with "SUBL" => (first | exact List.nil_sublist _ | (refine' List.Sublist.cons_cons _ ?ze75662_b; (case ze75662_b => k_extra "SUBL")) | (refine' List.Sublist.cons _ ?ze75662_b; (case ze75662_b => k_extra "SUBL"))))
  (k_with "NEQ" => ((rename ND _ => hS; first | exact ND.ne_l hS (by k_mem) | exact ND.ne_r hS (by k_mem) | (have hS2 := ND.tl hS; k_extra "NEQ"))))
  (k_with "eval List" => ((k_here; k_dflt (refine' disp_list ?z72c816_F ?z72c816_N ?z72c816_hk ?z72c816_he ?z72c816_hz ?_; (case z72c816_F => k_asm); (case z72c816_N => k_asm); (case z72c816_hk => first | rfl | assumption); (case z72c816_he => exact rfl); (case z72c816_hz => exact rfl)); intro l' h' F' N' l1; (try k_lt l1))))
  (k_with "eval Tuple" => ((k_here; k_dflt (refine' disp_tuple ?zcd943b_F ?zcd943b_N ?zcd943b_hk ?zcd943b_he ?zcd943b_hz ?_; (case zcd943b_F => k_asm); (case zcd943b_N => k_asm); (case zcd943b_hk => first | rfl | assumption); (case zcd943b_he => exact rfl); (case zcd943b_hz => exact rfl)); intro l' h' F' N' l1; (try k_lt l1))))
  (k_with "spliced" => ((k_here; (with_reducible show wpAny _ _ (spliced (backTo _ (starEach (_ :: _) _))) _ _ _); k_dflt (refine' simp_all ?z919f57_hk ?z919f57_F ?z919f57_he ?_; (case z919f57_F => k_asm); (case z919f57_hk => first | rfl | assumption); (case z919f57_he => exact rfl); try dsimp only))))
  (k_with "call ref" => ((k_here; (with_reducible show wpAny _ _ (call (Value.ref 510) _) _ _ _); k_dflt (refine' one_c ?z409c99_c ?z409c99_n ?z409c99_s ?z409c99_a ?z409c99_b ?z409c99_b2 ?z409c99_t1 ?z409c99_t2 ?z409c99_d ?_; (case z409c99_c => k_extra "CX"); (case z409c99_n => k_extra "NSUB"); (case z409c99_s => k_extra "NDSUB"); (case z409c99_a => assumption); (case z409c99_b => assumption); (case z409c99_b2 => assumption); (case z409c99_t1 => exact Nat.succ_pos _); (case z409c99_t2 => exact Nat.le_of_ble_eq_true rfl); (case z409c99_d => omega); intro i' v' a' b' ta' tb' n' tk' h' hv' h3' h4' h5' F' hs' hK'; (try first | (obtain ⟨x', t', e', hx'⟩ := strs4 hv'; subst e'; clear hv') | (obtain ⟨x', t', e', hx'⟩ := strs3 hv'; subst e'; clear hv')); rename ND _ => hS; (rename News _ _ _ _ => oN); refine' with_back (ch := [(_, _)]) oN hS rfl hK' (List.forall_mem_cons.mpr ⟨hs', List.forall_mem_nil _⟩) ?z409c99_at' ?_; (case z409c99_at' => k_extra "ATS"); intro N'; clear oN hK' hs'))))
  (k_with "NDAPP" => ((refine' ND.sub ?zce33ef_s ?zce33ef_l; (case zce33ef_s => assumption); (case zce33ef_l => ((try dsimp only [List.map_cons, List.map_nil, List.cons_append, List.nil_append]); k_extra "SUBL")))))
  trivial
section
variable {w : World} {mean : ExcName → Option Value} {mg mb : Str → Option Value} {A₀ : Around} {base h₀ : Heap} {outer : List Env} {cn : Str} {cs : Scope} {L ea : Addr} {ccd : Value} {cl : List (Str × Addr)} {m : Str → Option Value} {dp un : Nat} {s : Shared} {Q : Value → Shared → Prop} {E : Value → Shared → Prop}
variable {src : Addr} {x y : Str} {tx ty : Nat}
theorem dispS_0 (X : (KH w.params).In h₀) (T : Top topProg lawLoose mean mg mb h₀) (B : Below A₀ base outer h₀) (hd : dp + 10 < recursionLimit) (hu : un + 50 < cLine) : DispS w h₀ L (AR dp un (envOf "_law_statement" (fScope (st 32)) L 531 (.ref 530)) outer) (envOf "_law_statement" (fScope (st 32)) L 531 (.ref 530)) (fun i => if i = "kind" then some (.str y ty) else if i = "name" then some (.str x tx) else List.lookup i [(("source" : Str), Value.ref src)]) x y tx ty (stE 0) := by
  intro s news Q F N S k
  (conv => arg 3; arg 1; whnf)
  (try k_fold)
  k_extra "GO"
  rename Fr _ _ _ _ => hF
  rename News _ _ _ _ => hN
  rename ND _ => hS
  refine k [(_, _), (_, _), (_, _), (_, _)] _ _ _ ⟨.beg, _, _, _, _, _, 0, _, rfl, List.Sublist.refl _⟩ hF hN hS
theorem dispS_1 (X : (KH w.params).In h₀) (T : Top topProg lawLoose mean mg mb h₀) (B : Below A₀ base outer h₀) (hd : dp + 10 < recursionLimit) (hu : un + 50 < cLine) : DispS w h₀ L (AR dp un (envOf "_law_statement" (fScope (st 32)) L 531 (.ref 530)) outer) (envOf "_law_statement" (fScope (st 32)) L 531 (.ref 530)) (fun i => if i = "kind" then some (.str y ty) else if i = "name" then some (.str x tx) else List.lookup i [(("source" : Str), Value.ref src)]) x y tx ty (stE 1) := by
  intro s news Q F N S k
  (conv => arg 3; arg 1; whnf)
  (try k_fold)
  k_extra "GO"
  rename Fr _ _ _ _ => hF
  rename News _ _ _ _ => hN
  rename ND _ => hS
  refine k [(_, _), (_, _), (_, _), (_, _)] _ _ _ ⟨.com, _, _, _, _, _, 0, 0, rfl, List.Sublist.refl _⟩ hF hN hS
theorem dispS_2 (X : (KH w.params).In h₀) (T : Top topProg lawLoose mean mg mb h₀) (B : Below A₀ base outer h₀) (hd : dp + 10 < recursionLimit) (hu : un + 50 < cLine) : DispS w h₀ L (AR dp un (envOf "_law_statement" (fScope (st 32)) L 531 (.ref 530)) outer) (envOf "_law_statement" (fScope (st 32)) L 531 (.ref 530)) (fun i => if i = "kind" then some (.str y ty) else if i = "name" then some (.str x tx) else List.lookup i [(("source" : Str), Value.ref src)]) x y tx ty (stE 2) := by
  intro s news Q F N S k
  (conv => arg 3; arg 1; whnf)
  (try k_fold)
  k_extra "GO"
  rename Fr _ _ _ _ => hF
  rename News _ _ _ _ => hN
  rename ND _ => hS
  refine k [(_, _), (_, _), (_, _), (_, _)] _ _ _ ⟨.rb0, _, _, _, _, _, 0, _, rfl, List.Sublist.refl _⟩ hF hN hS
theorem dispS_3 (X : (KH w.params).In h₀) (T : Top topProg lawLoose mean mg mb h₀) (B : Below A₀ base outer h₀) (hd : dp + 10 < recursionLimit) (hu : un + 50 < cLine) : DispS w h₀ L (AR dp un (envOf "_law_statement" (fScope (st 32)) L 531 (.ref 530)) outer) (envOf "_law_statement" (fScope (st 32)) L 531 (.ref 530)) (fun i => if i = "kind" then some (.str y ty) else if i = "name" then some (.str x tx) else List.lookup i [(("source" : Str), Value.ref src)]) x y tx ty (stE 3) := by
  intro s news Q F N S k
  (conv => arg 3; arg 1; whnf)
  (try k_fold)
  k_extra "GO"
  rename Fr _ _ _ _ => hF
  rename News _ _ _ _ => hN
  rename ND _ => hS
  refine k [(_, _), (_, _), (_, _), (_, _)] _ _ _ ⟨.rb, _, _, _, _, _, _, _, rfl, List.Sublist.refl _⟩ hF hN hS
theorem dispS_4 (X : (KH w.params).In h₀) (T : Top topProg lawLoose mean mg mb h₀) (B : Below A₀ base outer h₀) (hd : dp + 10 < recursionLimit) (hu : un + 50 < cLine) : DispS w h₀ L (AR dp un (envOf "_law_statement" (fScope (st 32)) L 531 (.ref 530)) outer) (envOf "_law_statement" (fScope (st 32)) L 531 (.ref 530)) (fun i => if i = "kind" then some (.str y ty) else if i = "name" then some (.str x tx) else List.lookup i [(("source" : Str), Value.ref src)]) x y tx ty (stE 4) := by
  intro s news Q F N S k
  (conv => arg 3; arg 1; whnf)
  (try k_fold)
  k_extra "GO"
  rename Fr _ _ _ _ => hF
  rename News _ _ _ _ => hN
  rename ND _ => hS
  refine k [(_, _), (_, _), (_, _), (_, _)] _ _ _ ⟨.sp, _, _, _, _, _, _, _, rfl, List.Sublist.refl _⟩ hF hN hS
theorem dispS_5 (X : (KH w.params).In h₀) (T : Top topProg lawLoose mean mg mb h₀) (B : Below A₀ base outer h₀) (hd : dp + 10 < recursionLimit) (hu : un + 50 < cLine) : DispS w h₀ L (AR dp un (envOf "_law_statement" (fScope (st 32)) L 531 (.ref 530)) outer) (envOf "_law_statement" (fScope (st 32)) L 531 (.ref 530)) (fun i => if i = "kind" then some (.str y ty) else if i = "name" then some (.str x tx) else List.lookup i [(("source" : Str), Value.ref src)]) x y tx ty (stE 5) := by
  intro s news Q F N S k
  (conv => arg 3; arg 1; whnf)
  (try k_fold)
  k_extra "GO"
  rename Fr _ _ _ _ => hF
  rename News _ _ _ _ => hN
  rename ND _ => hS
  refine k [(_, _), (_, _), (_, _), (_, _)] _ _ _ ⟨.rel, _, _, _, _, _, _, _, rfl, List.Sublist.refl _⟩ hF hN hS
theorem dispS_6 (X : (KH w.params).In h₀) (T : Top topProg lawLoose mean mg mb h₀) (B : Below A₀ base outer h₀) (hd : dp + 10 < recursionLimit) (hu : un + 50 < cLine) : DispS w h₀ L (AR dp un (envOf "_law_statement" (fScope (st 32)) L 531 (.ref 530)) outer) (envOf "_law_statement" (fScope (st 32)) L 531 (.ref 530)) (fun i => if i = "kind" then some (.str y ty) else if i = "name" then some (.str x tx) else List.lookup i [(("source" : Str), Value.ref src)]) x y tx ty (stE 6) := by
  intro s news Q F N S k
  (conv => arg 3; arg 1; whnf)
  (try k_fold)
  k_extra "GO"
  rename Fr _ _ _ _ => hF
  rename News _ _ _ _ => hN
  rename ND _ => hS
  refine k [(_, _), (_, _), (_, _), (_, _)] _ _ _ ⟨.vac, _, _, _, _, _, 0, 0, rfl, List.Sublist.refl _⟩ hF hN hS
theorem stEs_ok (X : (KH w.params).In h₀) (T : Top topProg lawLoose mean mg mb h₀) (B : Below A₀ base outer h₀) (hd : dp + 10 < recursionLimit) (hu : un + 50 < cLine) : ∀ e ∈ stEs, DispS w h₀ L (AR dp un (envOf "_law_statement" (fScope (st 32)) L 531 (.ref 530)) outer) (envOf "_law_statement" (fScope (st 32)) L 531 (.ref 530)) (fun i => if i = "kind" then some (.str y ty) else if i = "name" then some (.str x tx) else List.lookup i [(("source" : Str), Value.ref src)]) x y tx ty e ∧ ∀ r, starEach (e :: r) (envOf "_law_statement" (fScope (st 32)) L 531 (.ref 530)) = (false, eval e (envOf "_law_statement" (fScope (st 32)) L 531 (.ref 530))) :: starEach r (envOf "_law_statement" (fScope (st 32)) L 531 (.ref 530)) := by
  have e : stEs = [stE 0, stE 1, stE 2, stE 3, stE 4, stE 5, stE 6] := rfl
  rw [e]
  refine List.forall_mem_cons.mpr ⟨⟨dispS_0 X T B hd hu, fun _ => rfl⟩, List.forall_mem_cons.mpr ⟨⟨dispS_1 X T B hd hu, fun _ => rfl⟩, List.forall_mem_cons.mpr ⟨⟨dispS_2 X T B hd hu, fun _ => rfl⟩, List.forall_mem_cons.mpr ⟨⟨dispS_3 X T B hd hu, fun _ => rfl⟩, List.forall_mem_cons.mpr ⟨⟨dispS_4 X T B hd hu, fun _ => rfl⟩, List.forall_mem_cons.mpr ⟨⟨dispS_5 X T B hd hu, fun _ => rfl⟩, List.forall_mem_cons.mpr ⟨⟨dispS_6 X T B hd hu, fun _ => rfl⟩, List.forall_mem_nil _⟩⟩⟩⟩⟩⟩⟩
theorem statement_c {src : Addr} {a b : Int} {ta tb n : Nat} (C : Cx w mean mg mb A₀ base h₀ outer L m cs s.heap)
    (N : News h₀ L s.heap [(src, listOf #[.int a ta, .int b tb] n)]) (ha : 0 ≤ a) (hb : 0 ≤ b) (hb' : b < 2147483647) (hd : dp + 15 < recursionLimit) (hu : un + 60 < cLine)
    (k : ∀ (kd : Kd) (x y : Str) (tp due node nd : Addr) (tx ty tn q1 q2 ta' tb' n' tk : Nat) (a' b' : Int) h', x ∈ XS → y ∈ YS → 0 ≤ a' → 0 ≤ b' → b' < 2147483647 → Fr h₀ L h' m →
      (∀ p ∈ [(tp, tupOf #[.ref node, .ref due]), (due, tupOf (kd.due (.str x tx) (.str y ty) q1 q2)), (node, instObj kd.cls nd), (nd, kd.nodeO w.params (.str x tx) (.str y ty) tn)], h'.get? p.1 = some p.2) →
      (∀ p ∈ [(tp, tupOf #[.ref node, .ref due]), (due, tupOf (kd.due (.str x tx) (.str y ty) q1 q2)), (node, instObj kd.cls nd), (nd, kd.nodeO w.params (.str x tx) (.str y ty) tn)], s.heap.get? p.1 = none) →
      ND [tp, due, node, nd] → h'.get? src = some (listOf #[.int a' ta', .int b' tb'] n') → Kept [src] s.heap h' → Q (.ref tp) { s with heap := h', toks := tk }) :
    wpAny (model prog0 w) (AR dp un (envX cn cs L ea ccd cl) outer) (call (.ref 531) [.ref src]) Q E s := by
  have S := ND.one src
  obtain ⟨X, T, B, F, hk⟩ := C
  refine' enter (binds := [(("source" : Str), .ref src)]) X T B F N rfl hk ?k6 ?k7 ?k8 ?k9 ?kL ?kB ?_ ?c2 ?c3 ?c4 ?c5
  k_extra "ENTER"
  iterate 37 (first | (k_unfold; (try dsimp only)) | walk1 | (dsimp only; walk1))
  rename Fr _ _ _ _ => hF
  rename News _ _ _ _ => hN
  rename ND _ => hS
  rename (_ ∈ XS) => hx
  rename (_ ∈ YS) => hy
  refine dispS_ops (es := stEs) hF hN hS (stEs_ok X' T' B' (by omega) (by omega)) rfl ?_
  intro l9 objs us tk1 h1 hl9 hus F1 N1 S1
  iterate 2 (first | (k_unfold; (try dsimp only)) | walk1 | (dsimp only; walk1))
  have N2 : News g' L' h1 [(l9, listOf us.toArray 0), (src, listOf #[.int a' ta', .int b' tb'] n')] := news_sub N1 (List.forall_mem_cons.mpr ⟨.head _, List.forall_mem_cons.mpr ⟨.tail _ (List.mem_append_right _ (.tail _ (.tail _ (.head _)))), List.forall_mem_nil _⟩⟩)
  have S9 : ND [l9, src] := List.nodup_cons.mpr ⟨fun hm => (List.nodup_cons.mp S1).1 (by rw [List.mem_singleton.mp hm]; exact List.mem_map.mpr ⟨(src, listOf #[.int a' ta', .int b' tb'] n'), List.mem_append_right _ (.tail _ (.tail _ (.head _))), rfl⟩), ND.one _⟩
  refine one_c ⟨X', T', B', F1, rfl⟩ N2 S9 h3' h4' h5' (by omega) (by omega) (by omega) ?_
  intro i9 v9 a9 b9 ta9 tb9 n9 tk9 h9 hv9 ha9 hb9 hb9' F9 hs9 hK9
  obtain ⟨kd, tp, due, node, nd, q1, q2, tn, rfl, hsub⟩ := hus v9 (List.mem_of_getElem? hv9)
  obtain ⟨N10, S10⟩ := pick_ledger N1 S1 hsub hK9 hs9 (by k_extra "ATS")
  clear N2 S9 N1 S1 F1 hus hsub hS hF hN hK9
  simp only [List.cons_append, List.nil_append, List.map_cons, List.map_nil] at N10 S10
  k_extra "GO"
  rename Fr h₀ L _ m => hF
  refine' k kd _ _ tp due node nd _ _ _ _ _ _ _ _ _ _ _ _ hx hy ha9 hb9 hb9' hF (gets_all ?zN ?zr) (fresh_all (by assumption) ?zN ?zr ?znd) (List.nodup_append.mp ?znd).1 ?zg ?zkp
  (case zN => k_asm)
  (case zg => k_extra "AT?")
  (case zr => k_extra "SUB")
  (case znd => k_extra "NDAPP")
  (case zkp => k_extra "KEPT")
end

theorem slice_end {vs ws : List Value} : (slicePick (vs ++ ws).toArray (some (vs.length : Int)) none none).toList = ws := by
  have e : sliceBounds (some (vs.length : Int)) none none (vs ++ ws).toArray.size = (((vs.length : Nat) : Int), (((vs ++ ws).toArray.size : Nat) : Int), 1) := by
    simp only [sliceBounds, Option.getD_none, show (1 : Int) > 0 by decide, if_true, if_neg (show ¬ ((vs.length : Int) < 0) by omega)]
    congr 1
    simp only [List.size_toArray, List.length_append]
    omega
  rw [kmk_pick_nat _ e]
  simp
theorem size_end {vs ws : List Value} (h : vs.length + ws.length ≤ 2000) : (vs ++ ws).toArray.size ≤ sizeLine := by
  rw [List.size_toArray, List.length_append]; exact Nat.le_trans h (by decide)
abbrev NAMES : List Str := ["Changes", "Transaction", "AutoCommit", "Savepoint", "BeginTransaction", "CreateBtree", "Destroy", "Clear", "LoadSchema", "SetCookie", "VerifyCookie", "Vacuum", "IntegrityCheck", "IntegrityRows", "PragmaGet", "PragmaSet"]
section
variable {w : World} {A : Around} {E : Value → Shared → Prop} {s : Shared} {h₀ : Heap} {L : Addr} {m : Str → Option Value} {news : List (Addr × Obj)}
theorem names_tup (X : (KH w.params).In h₀) (F : Fr h₀ L s.heap m) : ∃ items, IsTup s.heap 22 items ∧ StrsAre items.toList NAMES := by
  have h : (KH w.params).lookup (nat_lit 22) = some _ := rfl
  have h2 := (X.keeps F.keep) _ _ h
  refine ⟨_, ⟨_, h2, rfl, _, rfl⟩, ?_⟩
  repeat (first | exact .nil | refine .cons _ _ ?_)
theorem notin_names {x : Str} {t : Nat} {Q : Value → Shared → Prop} (X : (KH w.params).In h₀) (F : Fr h₀ L s.heap m) (hx : x ∈ NAMES) (h : Q (.bool false) s) : wpAny (model prog0 w) A (compareOp .NotIn (.str x t) (.ref 22)) Q E s := by
  obtain ⟨items, h1, h2⟩ := names_tup X F
  refine notin_tuple_strs h1 h2 ?_
  have : NAMES.any (· == x) = true := List.any_eq_true.mpr ⟨x, hx, by simp⟩
  rw [this]; exact h
theorem repr_kd {a : Addr} {kd : Kd} {x y : Str} {tx ty q1 q2 : Nat} {Q : Value → Shared → Prop} (F : Fr h₀ L s.heap m) (N : News h₀ L s.heap news) (hm : (a, tupOf (kd.due (.str x tx) (.str y ty) q1 q2)) ∈ news) (hx : x ∈ XS) (hy : y ∈ YS) (hg : A.guards = some []) (hu : A.units + 3 < cLine)
    (h : ∀ h' u tk, Fr h₀ L h' m → News h₀ L h' news → Q (.str (kd.dat x y).shown u) { s with heap := h', toks := tk }) : wpAny (model prog0 w) A (call (.builtin "repr") [.ref a]) Q E s :=
  have z := Kd.show_ok (k := kd) hx hy
  repr_HN F N (Kd.reads (N _ hm).1) z.1 z.2.1 hg (by have := z.2.2.1; omega) h z.2.2.2.1
end
def Kd.nm : Kd → Str
  | .beg => "BeginTransaction" | .com => "AutoCommit" | .rb0 => "AutoCommit" | .vac => "Vacuum" | _ => "Savepoint"
theorem Kd.nm_in (k : Kd) : k.nm ∈ NAMES := by cases k <;> decide
def Kd.op (k : Kd) (x y p1 p2 p3 p4 : Value) : Prop := match k with
  | .beg => p4 = y
  | .com => ∃ q, p2 = .int 0 q
  | .rb0 => ∃ q, p2 = .int 1 q
  | _ => True
def Kd.deed : Kd → Str
  | .rb => "rollback" | .sp => "begin" | _ => "release"
theorem Kd.due_two {k : Kd} {x y : Value} {q1 q2 : Nat} (h : k.two = true) : k.due x y q1 q2 = #[.str "savepoint" q1, .str k.deed q2, x] := by cases k <;> first | rfl | cases h
theorem ND.opn {a b c : Addr} {r : List Addr} (h : ND (a :: b :: c :: r)) : ND (b :: c :: a :: r) := List.Perm.nodup ((List.Perm.swap b a (c :: r)).trans (List.Perm.cons b (List.Perm.swap c a r))) h
theorem fillIt13 : PySem.Challenge.rw_pb0451_01 = PySem.Challenge.rw_pb0451_01 ∧ KH = KH := by k_fill; exact ⟨rfl, rfl⟩
theorem klines_C13_0 : True := by
  k_with_none
  (k_with "subscriptTail Name Constant ref int" => ((k_here; (with_reducible show wpAny _ _ (subscriptTail _ _ (Value.ref _) (Value.int _ _)) _ _ _); (with_unfolding_all refine' item_litK ?z73ea9d_k1 ?z73ea9d_k2 ?z73ea9d_k3 ?z73ea9d_k4 ?_ ?z73ea9d_k6; (case z73ea9d_k1 => is_list); (case z73ea9d_k2 => decide); (case z73ea9d_k3 => decide); (case z73ea9d_k4 => rfl); (case z73ea9d_k6 => with_unfolding_all rfl); k_whole))))
  (k_with "ENTER" => (((case k6 => k_is); (case k7 => k_is); (case k8 => omega); (case k9 => exact BindsTo.of_eq rfl); (case kB => (conv => lhs; whnf)); (case kL => exact locs rfl); (case c2 => exact rfl); (case c3 => exact rfl); (case c4 => exact rfl); (case c5 => decide); intro g' L' h' HG' FG' F' N' B' X' T' l'; (try dsimp only); k_fold)))
  (k_with "GO" => (repeat' (first | (k_unfold; (try dsimp only)) | (k_end; wrow_close) | walk1 | (dsimp only; walk1))))
  (k_with "ATF" => (first | refine' AtF.head | (refine' AtF.tail ?zaeb911_b; (case zaeb911_b => k_extra "ATF"))))
  (k_with "AT" => (first | refine' At.head | (refine' At.tail ?z4c4c10_b; (case z4c4c10_b => k_extra "AT"))))
  (k_with "M k_upd" => ((rename ND _ => hS; refine' upd_sd ?z531fe4_a hS ?z531fe4_e; (case z531fe4_a => k_extra "AT"); (case z531fe4_e => rfl))))
  (k_with "M k_updF" => ((rename ND _ => hS; refine' updF_sd ?zc7fe0e_a hS ?zc7fe0e_e; (case zc7fe0e_a => k_extra "ATF"); (case zc7fe0e_e => rfl))))
  (k_with "M kn_among" => ((simp [codeAmong, rawInt]; done)))
  (k_with "M kn_triples" => ((simp [TriplesOk, rawInt]; done)))
  (k_with "M k_room" => ((first | omega | ((try simp only [depth_mark, depth_under_make, depth_under_kw, depth_in1, depth_deeper, depth_caller]); omega))))
  (k_with "SUB" => (first | exact List.forall_mem_nil _ | (refine' List.forall_mem_cons.mpr ⟨?z3be472_h, ?z3be472_t⟩; (case z3be472_h => k_mem); (case z3be472_t => k_extra "SUB"))))
  (k_with "ATS" => (first | refine' Ats.nil | (refine' Ats.hit ?z9e6f72_b; (case z9e6f72_b => k_extra "ATS")) | (refine' Ats.skip ?z9e6f72_b; (case z9e6f72_b => k_extra "ATS"))))
  (k_with "CX" => ((refine' ⟨?za4188e_x1, ?za4188e_x2, ?za4188e_x3, ?za4188e_x4, ?za4188e_x5⟩; (case za4188e_x1 => k_asm); (case za4188e_x2 => k_asm); (case za4188e_x3 => k_asm); (case za4188e_x4 => k_asm); (case za4188e_x5 => first | rfl | assumption))))
  (k_with "NSUB" => ((refine' news_sub ?za05c2b_N ?za05c2b_s; (case za05c2b_N => (rename News _ _ _ _ => oN; exact oN)); (case za05c2b_s => k_extra "SUB"))))
  (k_with "getMethod ref" => ((k_here; (with_reducible show wpAny _ _ (getMethod (Value.ref _) (Str.ofString "get") _) _ _ _); k_dflt (refine' kdg_method (knd := intKind prog0 _) ?z1e447a_N ?z1e447a_m ?z1e447a_d ?_; (case z1e447a_N => k_asm); (case z1e447a_m => k_mem); (case z1e447a_d => assumption)))))
  (k_with "call builtin:dict.get" => ((k_here; k_dflt (refine' kdg_get1 (knd := intKind prog0 _) ?z9e4d13_N ?z9e4d13_m ?z9e4d13_d ?z9e4d13_l ?z9e4d13_k _ rfl ?_; (case z9e4d13_N => k_asm); (case z9e4d13_m => k_mem); (case z9e4d13_d => assumption); (case z9e4d13_l => assumption); (case z9e4d13_k => exact intKind_is _ _ _ _)))))
  (k_with "KSEL" => (first | exact fun _ h => absurd h List.not_mem_nil | (refine' List.forall_mem_cons.mpr ⟨?zf64061_h, ?zf64061_t⟩; (case zf64061_h => first | exact Or.inl (by k_mem) | (refine' Or.inr ⟨_, News.get ?zf64061_n1 ?zf64061_m1, News.get ?zf64061_n2 ?zf64061_m2⟩; (case zf64061_n1 => k_asm); (case zf64061_m1 => k_mem); (case zf64061_n2 => k_asm); (case zf64061_m2 => k_mem))); (case zf64061_t => k_extra "KSEL"))))
  (k_with "KEPT" => ((refine' Kept.sel (kept_of ?z6ac77d_hg ?z6ac77d_f) ?z6ac77d_s; (case z6ac77d_hg => assumption); (case z6ac77d_f => assumption); (case z6ac77d_s => k_extra "KSEL"))))
  (k_with "SUBM" => (first | exact fun _ h => absurd h List.not_mem_nil | (refine' List.forall_mem_cons.mpr ⟨?zaff134_h, ?zaff134_t⟩; (case zaff134_h => k_mem); (case zaff134_t => k_extra "SUBM"))))
  (k_with "FRESH" => ((refine' fresh_of ?z9e8148_hg ?z9e8148_n ?z9e8148_m ?z9e8148_nd ?z9e8148_hs; (case z9e8148_hg => assumption); (case z9e8148_n => assumption); (case z9e8148_m => k_mem); (case z9e8148_nd => first | assumption | exact ND.tl (by assumption) | exact ND.tl (ND.tl (by assumption)) | exact ND.tl (ND.tl (ND.tl (by assumption)))); (case z9e8148_hs => k_extra "SUBM"))))
  (k_with "AT?" => ((refine' News.get ?z4603e9_n1 ?z4603e9_m1; (case z4603e9_n1 => k_asm); (case z4603e9_m1 => k_mem))))
  (k_with "NDSUB" => ((refine' ND.sub ?zb41ab3_s ?zb41ab3_l; (case zb41ab3_s => assumption); (case zb41ab3_l => k_extra "SUBL"))))
  (k_with "SUBL" => (first | exact List.nil_sublist _ | (refine' List.Sublist.cons_cons _ ?ze75662_b; (case ze75662_b => k_extra "SUBL")) | (refine' List.Sublist.cons _ ?ze75662_b; (case ze75662_b => k_extra "SUBL"))))
  (k_with "NDSUB" => (first | (refine' ND.sub ?ze76779_s ?ze76779_l; (case ze76779_s => assumption); (case ze76779_l => k_extra "SUBL")) | (refine' ND.p3 (ND.sub ?ze76779_s ?ze76779_l); (case ze76779_s => assumption); (case ze76779_l => k_extra "SUBL"))))
  (k_with "NEQ" => ((rename ND _ => hS; first | exact ND.ne_l hS (by k_mem) | exact ND.ne_r hS (by k_mem) | (have hS2 := ND.tl hS; k_extra "NEQ"))))
  (k_with "PICK" => (first | refine' Pick.head | (refine' Pick.tail ?z677e40_b; (case z677e40_b => k_extra "PICK"))))
  (k_with "RangeRest" => ((with_unfolding_all first | (refine RangeRest.succ (fun t' h' tk' F' N' => ?_)) | (refine RangeRest.zero (fun h' tk' F' N' => ?_); rename ND _ => hS; have hS9 := ND.tl hS))))
  (k_with "UnrEnd" => ((refine' unrEnd_pick ?z76e4c1_s ?z76e4c1_p ?_; (case z76e4c1_s => assumption); (case z76e4c1_p => k_extra "PICK"); intro hS9; first | ktu_endR | k_unrEnd)))
  (k_with "M ktu_off" => ((refine' Or.inl ?z3326b3_h; (case z3326b3_h => (try dsimp only); k_extra "NEQ"))))
  trivial
section
variable {w : World} {mean : ExcName → Option Value} {mg mb : Str → Option Value} {A₀ : Around} {base h₀ : Heap} {outer : List Env} {cn : Str} {cs : Scope} {L ea : Addr} {ccd : Value} {cl : List (Str × Addr)} {m : Str → Option Value} {dp un : Nat} {s : Shared} {Q : Value → Shared → Prop} {E : Value → Shared → Prop}
variable {z : W0} {opl texts : Addr} {ro : Obj} {kvs : List (Int × Value)} {vs : List Value} {n on tn : Nat} {cc : Int} {ct : Nat} {fv v u p1 p2 p3 p4 a b gv : Value} {q0 q1 q2 q3 q4 : Nat} {x : Str} {tx : Nat} {i : Int} {ti tj : Nat} {tp : Addr}
variable {kd : Kd} {node nd prog pd ops : Addr} {t1 t2 t3 t4 t5 t6 t7 t8 tn ty : Nat} {v2 v3 v4 v5 v6 v7 v8 : Value} {y : Str}
theorem tr_A (hk : kd.two = false) (C : Cx w mean mg mb A₀ base h₀ outer L m cs s.heap)
    (N : News h₀ L s.heap [(ops, listOf #[] n), (prog, instObj 485 pd), (pd, dictOf (progD w.params ops t1 t2 t3 t4 t5 t6 t7 t8 v2 v3 v4 v5 v6 v7 v8) 8), (node, instObj kd.cls nd), (nd, kd.nodeO w.params (.str x tx) (.str y ty) tn)]) (S : ND [ops, prog, pd, node, nd]) (hd : dp + 15 < recursionLimit) (hu : un + 60 < cLine)
    (k : ∀ (l : Addr) (q0 n' tk : Nat) (p1 p2 p3 p4 : Value) h', kd.op (.str x tx) (.str y ty) p1 p2 p3 p4 → Fr h₀ L h' m → s.heap.get? l = none → h'.get? l = some (listOf #[.str kd.nm q0, p1, p2, p3, p4] 0) → h'.get? ops = some (listOf #[.ref l] n') → Kept [ops] s.heap h' → Q .none { s with heap := h', toks := tk }) :
    wpAny (model prog0 w) (AR dp un (envX cn cs L ea ccd cl) outer) (call (.ref 316) [.ref prog, .ref node]) Q E s := by
  have N' := news_sub (l' := [(prog, instObj 485 pd), (pd, dictOf (progD w.params ops t1 t2 t3 t4 t5 t6 t7 t8 v2 v3 v4 v5 v6 v7 v8) 8), (ops, listOf #[] n), (node, instObj kd.cls nd), (nd, kd.nodeO w.params (.str x tx) (.str y ty) tn)]) N (by k_extra "SUB")
  cases kd
  · exact tr_begin C N' S.opn hd hu fun l q0 q1 q2 q3 n' tk h' F a b c d => k l q0 n' tk _ _ _ _ h' rfl F a b c d
  · exact tr_commit C N' S.opn hd hu fun l q0 q1 q2 q3 n' tk h' F a b c d => k l q0 n' tk _ _ _ _ h' ⟨_, rfl⟩ F a b c d
  · exact tr_rollback0 C N' S.opn hd hu fun l q0 q1 q2 q3 n' tk h' F a b c d => k l q0 n' tk _ _ _ _ h' ⟨_, rfl⟩ F a b c d
  · exact tr_vacuum C N' S.opn hd hu fun l q0 q1 q2 q3 n' tk h' F a b c d => k l q0 n' tk _ _ _ _ h' trivial F a b c d
  all_goals cases hk
theorem tr_B (hk : kd.two = true) (C : Cx w mean mg mb A₀ base h₀ outer L m cs s.heap)
    (N : News h₀ L s.heap [(ops, listOf #[] n), (prog, instObj 485 pd), (pd, dictOf (progD w.params ops t1 t2 t3 t4 t5 t6 t7 t8 v2 v3 v4 v5 v6 v7 v8) 8), (node, instObj kd.cls nd), (nd, kd.nodeO w.params (.str x tx) (.str y ty) tn)]) (S : ND [ops, prog, pd, node, nd]) (hd : dp + 15 < recursionLimit) (hu : un + 60 < cLine)
    (k : ∀ (l u : Addr) (q0 q4 n' tk : Nat) (p1 p2 p3 : Value) h', Fr h₀ L h' m → s.heap.get? l = none → s.heap.get? u = none → l ≠ u → h'.get? l = some (listOf #[.str kd.nm q0, p1, p2, p3, .ref u] 0) → h'.get? u = some (tupOf #[.str kd.deed q4, .str x tx]) → h'.get? ops = some (listOf #[.ref l] n') → Kept [ops] s.heap h' → Q .none { s with heap := h', toks := tk }) :
    wpAny (model prog0 w) (AR dp un (envX cn cs L ea ccd cl) outer) (call (.ref 316) [.ref prog, .ref node]) Q E s := by
  have N' := news_sub (l' := [(prog, instObj 485 pd), (pd, dictOf (progD w.params ops t1 t2 t3 t4 t5 t6 t7 t8 v2 v3 v4 v5 v6 v7 v8) 8), (ops, listOf #[] n), (node, instObj kd.cls nd), (nd, kd.nodeO w.params (.str x tx) (.str y ty) tn)]) N (by k_extra "SUB")
  cases kd
  case rb => exact tr_rollback C N' S.opn hd hu fun l u q0 q1 q2 q3 q4 n' tk h' F a b c d e f g => k l u q0 q4 n' tk _ _ _ h' F a b c d e f g
  case sp => exact tr_savepoint C N' S.opn hd hu fun l u q0 q1 q2 q3 q4 n' tk h' F a b c d e f g => k l u q0 q4 n' tk _ _ _ h' F a b c d e f g
  case rel => exact tr_release C N' S.opn hd hu fun l u q0 q1 q2 q3 q4 n' tk h' F a b c d e f g => k l u q0 q4 n' tk _ _ _ h' F a b c d e f g
  all_goals cases hk
theorem step_A (hk : kd.two = false) (C : Cx w mean mg mb A₀ base h₀ outer L m cs s.heap) (LA : ∀ i, 2 ≤ i → i ≤ 16 → LamAt h₀ i (z.lam i) z.cell) (ho : kd.op (.str x tx) (.str y ty) p1 p2 p3 p4)
    (N : News h₀ L s.heap [(opl, listOf #[.str kd.nm q0, p1, p2, p3, p4] on), (z.mach, instObj 60 z.md), (z.md, dictOf (machD w.params z texts) 3), (z.conn, instObj 485 z.cnd), (z.cnd, dictOf (connD w.params z cc ct) 22), (z.btree, instObj 485 z.btd), (z.btd, dictOf (btreeD w.params z) 11), (z.core, instObj 391 z.cd), (z.cd, dictOf (coreZ w.params z) 3), (z.regs, ro), (z.cell, z.co), (z.asked, listOf vs.toArray n)]) (S : ND [opl, z.mach, z.md, z.conn, z.cnd, z.btree, z.btd, z.core, z.cd, z.regs, z.cell, z.asked]) (hco : z.co.data = .cell (some (.ref z.asked))) (hz : vs.length ≤ 1000) (hd : dp + 15 < recursionLimit) (hu : un + 60 < cLine)
    (k : ∀ (r : Addr) (q q2 n' tk : Nat) h', Fr h₀ L h' m → h'.get? r = some (tupOf (kd.due (.str x tx) (.str y ty) q q2)) → s.heap.get? r = none → h'.get? z.asked = some (listOf (vs ++ [Value.ref r]).toArray n') → Kept [z.asked] s.heap h' → Q fv { s with heap := h', toks := tk }) :
    wpAny (model prog0 w) (AR dp un (envX cn cs L ea ccd cl) outer) (call (.ref 50) [.ref z.mach, .ref opl, fv]) Q E s := by
  cases kd
  · cases ho; exact step_begin C (LA _ (by decide) (by decide)) N S hco hz hd hu fun r q n' tk h' => k r q 0 n' tk h'
  · obtain ⟨q, rfl⟩ := ho; exact step_commit C (LA _ (by decide) (by decide)) N S hco hz hd hu fun r q n' tk h' => k r q 0 n' tk h'
  · obtain ⟨q, rfl⟩ := ho; exact step_rollback C (LA _ (by decide) (by decide)) N S hco hz hd hu fun r q n' tk h' => k r q 0 n' tk h'
  · exact step_vacuum C (LA _ (by decide) (by decide)) N S hco hz hd hu fun r q n' tk h' => k r q 0 n' tk h'
  all_goals cases hk
theorem step_B (hk : kd.two = true) (hy : y ∈ YS) (C : Cx w mean mg mb A₀ base h₀ outer L m cs s.heap) (LA : ∀ i, 2 ≤ i → i ≤ 16 → LamAt h₀ i (z.lam i) z.cell)
    (N : News h₀ L s.heap [(opl, listOf #[.str kd.nm q0, p1, p2, p3, .ref tp] on), (z.mach, instObj 60 z.md), (z.md, dictOf (machD w.params z texts) 3), (tp, tupOf #[.str kd.deed q4, .str x tx]), (z.conn, instObj 485 z.cnd), (z.cnd, dictOf (connD w.params z cc ct) 22), (z.btree, instObj 485 z.btd), (z.btd, dictOf (btreeD w.params z) 11), (z.core, instObj 391 z.cd), (z.cd, dictOf (coreZ w.params z) 3), (z.regs, ro), (z.cell, z.co), (z.asked, listOf vs.toArray n)]) (S : ND [opl, z.mach, z.md, tp, z.conn, z.cnd, z.btree, z.btd, z.core, z.cd, z.regs, z.cell, z.asked]) (hco : z.co.data = .cell (some (.ref z.asked))) (hz : vs.length ≤ 1000) (hd : dp + 15 < recursionLimit) (hu : un + 60 < cLine)
    (k : ∀ (r : Addr) (q q2 n' tk : Nat) h', Fr h₀ L h' m → h'.get? r = some (tupOf (kd.due (.str x tx) (.str y ty) q q2)) → s.heap.get? r = none → h'.get? z.asked = some (listOf (vs ++ [Value.ref r]).toArray n') → Kept [z.asked] s.heap h' → Q fv { s with heap := h', toks := tk }) :
    wpAny (model prog0 w) (AR dp un (envX cn cs L ea ccd cl) outer) (call (.ref 50) [.ref z.mach, .ref opl, fv]) Q E s := by
  have e : kd.nm = "Savepoint" := by cases kd <;> first | rfl | cases hk
  rw [e] at N
  refine step_savepoint C (LA _ (by decide) (by decide)) N S hco hz hd hu fun r q n' tk h' F a b c d => k r q q4 n' tk h' F ?_ b c d
  rw [Kd.due_two hk]; exact a
end

theorem ND.two {a b : Addr} (h : a ≠ b) : ND [a, b] := List.nodup_cons.mpr ⟨fun m => h (List.mem_singleton.mp m), ND.one _⟩
theorem eq_one {w : World} {dp un : Nat} {env : Env} {outer : List Env} {E : Value → Shared → Prop} {s : Shared} {h₀ : Heap} {L : Addr} {news : List (Addr × Obj)} {a b : Addr} {X Y T : Str} {t u n n2 : Nat} {Q : Value → Shared → Prop} (N : News h₀ L s.heap news) (m1 : (a, listOf #[.str X t] n) ∈ news) (m2 : (b, listOf #[.str Y u] n2) ∈ news) (e1 : X = T) (e2 : Y = T) (ho : PyData.strOk T = true) (hu : un + 64 < cLine) (h : Q (.bool true) s) :
    wpAny (model prog0 w) (AR dp un env outer) (compareOp .Eq (.ref a) (.ref b)) Q E s := by
  subst e1; subst e2
  refine eq_dataH (reads_list_at (N _ m1).1 rfl rfl (ReadsAll.cons (Reads.str _ _) ReadsAll.nil)) (reads_list_at (N _ m2).1 rfl rfl (ReadsAll.cons (Reads.str _ _) ReadsAll.nil)) (by simp [SeqAt.shaped, PyData.canLay0, PyData.canLayAll0, PyData.depth, PyData.depthAll, ho]) (by simp [SeqAt.shaped, PyData.canLay0, PyData.canLayAll0, PyData.depth, PyData.depthAll, ho]) hu ?_
  simpa [PyData.eqv, PyData.eqvAll] using h
theorem repr_kd2 {w : World} {dp un : Nat} {env : Env} {outer : List Env} {E : Value → Shared → Prop} {s : Shared} {h₀ : Heap} {L : Addr} {m : Str → Option Value} {news : List (Addr × Obj)} {a : Addr} {kd : Kd} {x y : Str} {tx ty q1 q2 : Nat} {Q : Value → Shared → Prop} (F : Fr h₀ L s.heap m) (N : News h₀ L s.heap news) (hm : (a, tupOf (kd.due (.str x tx) (.str y ty) q1 q2)) ∈ news) (hx : x ∈ XS) (hy : y ∈ YS) (hu : un + 3 < cLine)
    (h : ∀ X h' u tk, X = (kd.dat x y).shown → Fr h₀ L h' m → News h₀ L h' news → Q (.str X u) { s with heap := h', toks := tk }) : wpAny (model prog0 w) (AR dp un env outer) (call (.builtin "repr") [.ref a]) Q E s := repr_kd F N hm hx hy rfl hu fun h' u tk => h _ h' u tk rfl
theorem OffI.of_nd {I : Addr} {it : Obj} : ∀ {l : List (Addr × Obj)}, ND (I :: l.map (·.1)) → OffI I it l
  | [], _ => trivial
  | p :: l, s => ⟨Or.inl (ND.ne_r s (.head _)), OffI.of_nd (l := l) (ND.sub s (.cons_cons _ (.cons _ (List.Sublist.refl _))))⟩
theorem off3_of_nd {I C D : Addr} {as : List Addr} (s : ND (I :: C :: D :: as)) : ∀ {l : List (Addr × Obj)}, l.map (·.1) = as → LCg.Off3 I C D l := fun {l} e => LCg.Off3.of fun p hp => by
  subst e
  have hm : p.1 ∈ l.map (·.1) := List.mem_map.mpr ⟨p, hp, rfl⟩
  exact ⟨ND.ne_r s (.tail _ (.tail _ hm)), ND.ne_r s.tl (.tail _ hm), ND.ne_r s.tl.tl hm⟩
theorem nd_comp {I C D : Addr} {as : List Addr} {l : List (Addr × Obj)} (s : ND as) (o : LCg.Off3 I C D l) (ne : (@Ne Nat I C) ∧ (@Ne Nat I D) ∧ (@Ne Nat C D)) (e : l.map (·.1) = as) : ND (I :: C :: D :: as) := by
  subst e
  refine List.nodup_cons.mpr ⟨fun h => ?_, List.nodup_cons.mpr ⟨fun h => ?_, List.nodup_cons.mpr ⟨fun h => ?_, s⟩⟩⟩
  · rcases List.mem_cons.mp h with h | h
    · exact ne.1 h
    · rcases List.mem_cons.mp h with h | h
      · exact ne.2.1 h
      · obtain ⟨p, hp, e⟩ := List.mem_map.mp h; exact (LCg.Off3.mem o p hp).1 e
  · rcases List.mem_cons.mp h with h | h
    · exact ne.2.2 h
    · obtain ⟨p, hp, e⟩ := List.mem_map.mp h; exact (LCg.Off3.mem o p hp).2.1 e
  · obtain ⟨p, hp, e⟩ := List.mem_map.mp h; exact (LCg.Off3.mem o p hp).2.2 e
theorem nd_fin {D : Addr} {as : List Addr} : ∀ {l : List (Addr × Obj)}, ND as → LCg.Off1 D l → l.map (·.1) = as → ND (D :: as) := fun {l} s o e => by
  subst e
  refine List.nodup_cons.mpr ⟨fun h => ?_, s⟩
  obtain ⟨p, hp, e⟩ := List.mem_map.mp h
  clear h s
  induction l with
  | nil => cases hp
  | cons x l ih =>
    rcases List.mem_cons.mp hp with rfl | hp
    · exact o.1 e
    · exact ih o.2 hp
theorem comp_end {h₀ : Heap} {L I C D : Addr} {m : Str → Option Value} {s₁ s₂ : Shared} {oI oC oD : Obj} {S : List (Addr × Obj) → Prop} {rest : Value → List (Addr × Obj) → Prop} {y : Value} {as b1 b2 b3 : List Addr} (s : ND as) (p1 : Pick I as b1) (p2 : Pick C b1 b2) (p3 : Pick D b2 b3) (x : ND (I :: C :: D :: b3) → LCg.CompEnd h₀ L m s₁ I oI C oC D oD S rest y s₂) : LCg.CompEnd h₀ L m s₁ I oI C oC D oD S rest y s₂ :=
  x (List.Perm.nodup (p1.perm.trans ((p2.perm.trans (p3.perm.cons _)).cons _)) s)
theorem LamAll.keeps {h h' : Heap} {z : W0} (x : ∀ i, 2 ≤ i → i ≤ 16 → LamAt h i (z.lam i) z.cell) (k : ∀ b o, h.get? b = some o → h'.get? b = some o) : ∀ i, 2 ≤ i → i ≤ 16 → LamAt h' i (z.lam i) z.cell := fun i a b => (x i a b).keeps k
theorem Lams.kept {h h' : Heap} {as mods : List Addr} {z : W0} (x : Lams h as z) (k : Kept mods h h') (hs : ∀ b ∈ mods, b ∈ as) : Lams h' as z := by
  intro i h1 h2
  obtain ⟨name, qual, pm, c', ctv, oc, vs, t, e1, e2, e3, e4, n1, n2⟩ := x i h1 h2
  exact ⟨name, qual, pm, c', ctv, oc, vs, t, k _ _ e1 (fun m => n1 (hs _ m)), k _ _ e2 (fun m => n2 (hs _ m)), e3, e4, n1, n2⟩
theorem fillIt14 : PySem.Challenge.rw_pb0451_01 = PySem.Challenge.rw_pb0451_01 ∧ KH = KH := by k_fill; exact ⟨rfl, rfl⟩
theorem klines_C14_0 : True := by
  k_with_none
  (k_with "subscriptTail Name Constant ref int" => ((k_here; (with_reducible show wpAny _ _ (subscriptTail _ _ (Value.ref _) (Value.int _ _)) _ _ _); (with_unfolding_all refine' item_litK ?z73ea9d_k1 ?z73ea9d_k2 ?z73ea9d_k3 ?z73ea9d_k4 ?_ ?z73ea9d_k6; (case z73ea9d_k1 => is_list); (case z73ea9d_k2 => decide); (case z73ea9d_k3 => decide); (case z73ea9d_k4 => rfl); (case z73ea9d_k6 => with_unfolding_all rfl); k_whole))))
  (k_with "ENTER" => (((case k6 => k_is); (case k7 => k_is); (case k8 => omega); (case k9 => exact BindsTo.of_eq rfl); (case kB => (conv => lhs; whnf)); (case kL => exact locs rfl); (case c2 => exact rfl); (case c3 => exact rfl); (case c4 => exact rfl); (case c5 => decide); intro g' L' h' HG' FG' F' N' B' X' T' l'; (try dsimp only); k_fold)))
  (k_with "GO" => (repeat' (first | (k_unfold; (try dsimp only)) | (k_end; wrow_close) | walk1 | (dsimp only; walk1))))
  (k_with "ATF" => (first | refine' AtF.head | (refine' AtF.tail ?zaeb911_b; (case zaeb911_b => k_extra "ATF"))))
  (k_with "AT" => (first | refine' At.head | (refine' At.tail ?z4c4c10_b; (case z4c4c10_b => k_extra "AT"))))
  (k_with "M k_upd" => ((rename ND _ => hS; refine' upd_sd ?z531fe4_a hS ?z531fe4_e; (case z531fe4_a => k_extra "AT"); (case z531fe4_e => rfl))))
  (k_with "M k_updF" => ((rename ND _ => hS; refine' updF_sd ?zc7fe0e_a hS ?zc7fe0e_e; (case zc7fe0e_a => k_extra "ATF"); (case zc7fe0e_e => rfl))))
  (k_with "M kn_among" => ((simp [codeAmong, rawInt]; done)))
  (k_with "M kn_triples" => ((simp [TriplesOk, rawInt]; done)))
  (k_with "M k_room" => ((first | omega | ((try simp only [depth_mark, depth_under_make, depth_under_kw, depth_in1, depth_deeper, depth_caller]); omega))))
  (k_with "SUB" => (first | exact List.forall_mem_nil _ | (refine' List.forall_mem_cons.mpr ⟨?z3be472_h, ?z3be472_t⟩; (case z3be472_h => k_mem); (case z3be472_t => k_extra "SUB"))))
  (k_with "ATS" => (first | refine' Ats.nil | (refine' Ats.hit ?z9e6f72_b; (case z9e6f72_b => k_extra "ATS")) | (refine' Ats.skip ?z9e6f72_b; (case z9e6f72_b => k_extra "ATS"))))
  (k_with "CX" => ((refine' ⟨?za4188e_x1, ?za4188e_x2, ?za4188e_x3, ?za4188e_x4, ?za4188e_x5⟩; (case za4188e_x1 => k_asm); (case za4188e_x2 => k_asm); (case za4188e_x3 => k_asm); (case za4188e_x4 => k_asm); (case za4188e_x5 => first | rfl | assumption))))
  (k_with "NSUB" => ((refine' news_sub ?za05c2b_N ?za05c2b_s; (case za05c2b_N => (rename News _ _ _ _ => oN; exact oN)); (case za05c2b_s => k_extra "SUB"))))
  (k_with "getMethod ref" => ((k_here; (with_reducible show wpAny _ _ (getMethod (Value.ref _) (Str.ofString "get") _) _ _ _); k_dflt (refine' kdg_method (knd := intKind prog0 _) ?z1e447a_N ?z1e447a_m ?z1e447a_d ?_; (case z1e447a_N => k_asm); (case z1e447a_m => k_mem); (case z1e447a_d => assumption)))))
  (k_with "call builtin:dict.get" => ((k_here; k_dflt (refine' kdg_get1 (knd := intKind prog0 _) ?z9e4d13_N ?z9e4d13_m ?z9e4d13_d ?z9e4d13_l ?z9e4d13_k _ rfl ?_; (case z9e4d13_N => k_asm); (case z9e4d13_m => k_mem); (case z9e4d13_d => assumption); (case z9e4d13_l => assumption); (case z9e4d13_k => exact intKind_is _ _ _ _)))))
  (k_with "KSEL" => (first | exact fun _ h => absurd h List.not_mem_nil | (refine' List.forall_mem_cons.mpr ⟨?zf64061_h, ?zf64061_t⟩; (case zf64061_h => first | exact Or.inl (by k_mem) | (refine' Or.inr ⟨_, News.get ?zf64061_n1 ?zf64061_m1, News.get ?zf64061_n2 ?zf64061_m2⟩; (case zf64061_n1 => k_asm); (case zf64061_m1 => k_mem); (case zf64061_n2 => k_asm); (case zf64061_m2 => k_mem))); (case zf64061_t => k_extra "KSEL"))))
  (k_with "KEPT" => ((refine' Kept.sel (kept_of ?z6ac77d_hg ?z6ac77d_f) ?z6ac77d_s; (case z6ac77d_hg => assumption); (case z6ac77d_f => assumption); (case z6ac77d_s => k_extra "KSEL"))))
  (k_with "SUBM" => (first | exact fun _ h => absurd h List.not_mem_nil | (refine' List.forall_mem_cons.mpr ⟨?zaff134_h, ?zaff134_t⟩; (case zaff134_h => k_mem); (case zaff134_t => k_extra "SUBM"))))
  (k_with "FRESH" => ((refine' fresh_of ?z9e8148_hg ?z9e8148_n ?z9e8148_m ?z9e8148_nd ?z9e8148_hs; (case z9e8148_hg => assumption); (case z9e8148_n => assumption); (case z9e8148_m => k_mem); (case z9e8148_nd => first | assumption | exact ND.tl (by assumption) | exact ND.tl (ND.tl (by assumption)) | exact ND.tl (ND.tl (ND.tl (by assumption)))); (case z9e8148_hs => k_extra "SUBM"))))
  (k_with "AT?" => ((refine' News.get ?z4603e9_n1 ?z4603e9_m1; (case z4603e9_n1 => k_asm); (case z4603e9_m1 => k_mem))))
  (k_with "NDSUB" => ((refine' ND.sub ?zb41ab3_s ?zb41ab3_l; (case zb41ab3_s => assumption); (case zb41ab3_l => k_extra "SUBL"))))
  (k_with "SUBL" => (first | exact List.nil_sublist _ | (refine' List.Sublist.cons_cons _ ?ze75662_b; (case ze75662_b => k_extra "SUBL")) | (refine' List.Sublist.cons _ ?ze75662_b; (case ze75662_b => k_extra "SUBL"))))
  (k_with "BACK0" => ((intro tk' h' F' hK'; (rename News _ _ _ _ => oN); have N' := news_kept oN hK' (fun _ _ h => nomatch h); clear oN hK')))
  (k_with "LAMK" => (first | assumption | (refine' LamAt.keeps ?z711d6a_la (Fr.keep ?z711d6a_fg); (case z711d6a_fg => assumption); (case z711d6a_la => k_extra "LAMK"))))
  (k_with "NDSUB" => (first | (refine' ND.sub ?ze76779_s ?ze76779_l; (case ze76779_s => assumption); (case ze76779_l => k_extra "SUBL")) | (refine' ND.p3 (ND.sub ?ze76779_s ?ze76779_l); (case ze76779_s => assumption); (case ze76779_l => k_extra "SUBL"))))
  (k_with "NEQ" => ((rename ND _ => hS; first | exact ND.ne_l hS (by k_mem) | exact ND.ne_r hS (by k_mem) | (have hS2 := ND.tl hS; k_extra "NEQ"))))
  (k_with "PICK" => (first | refine' Pick.head | (refine' Pick.tail ?z677e40_b; (case z677e40_b => k_extra "PICK"))))
  (k_with "RangeRest" => ((with_unfolding_all first | (refine RangeRest.succ (fun t' h' tk' F' N' => ?_)) | (refine RangeRest.zero (fun h' tk' F' N' => ?_); rename ND _ => hS; have hS9 := ND.tl hS))))
  (k_with "UnrEnd" => ((refine' unrEnd_pick ?z76e4c1_s ?z76e4c1_p ?_; (case z76e4c1_s => assumption); (case z76e4c1_p => k_extra "PICK"); intro hS9; first | ktu_endR | k_unrEnd)))
  (k_with "M ktu_off" => ((refine' Or.inl ?z3326b3_h; (case z3326b3_h => (try dsimp only); k_extra "NEQ"))))
  (k_with "eval List" => ((k_here; k_dflt (refine' disp_list ?z72c816_F ?z72c816_N ?z72c816_hk ?z72c816_he ?z72c816_hz ?_; (case z72c816_F => k_asm); (case z72c816_N => k_asm); (case z72c816_hk => first | rfl | assumption); (case z72c816_he => exact rfl); (case z72c816_hz => exact rfl)); intro l' h' F' N' l1; (try k_lt l1))))
  (k_with "eval Tuple" => ((k_here; k_dflt (refine' disp_tuple ?zcd943b_F ?zcd943b_N ?zcd943b_hk ?zcd943b_he ?zcd943b_hz ?_; (case zcd943b_F => k_asm); (case zcd943b_N => k_asm); (case zcd943b_hk => first | rfl | assumption); (case zcd943b_he => exact rfl); (case zcd943b_hz => exact rfl)); intro l' h' F' N' l1; (try k_lt l1))))
  (k_with "spliced" => ((k_here; (with_reducible show wpAny _ _ (spliced (backTo _ (starEach (_ :: _) _))) _ _ _); k_dflt (refine' simp_all ?z919f57_hk ?z919f57_F ?z919f57_he ?_; (case z919f57_F => k_asm); (case z919f57_hk => first | rfl | assumption); (case z919f57_he => exact rfl); try dsimp only))))
  (k_with "call ref" => ((k_here; (with_reducible show wpAny _ _ (call (Value.ref 531) _) _ _ _); k_dflt (refine' statement_c ?z1b1617_c ?z1b1617_n ?z1b1617_a ?z1b1617_b ?z1b1617_b2 ?z1b1617_d ?z1b1617_u ?_; (case z1b1617_c => k_extra "CX"); (case z1b1617_n => k_extra "NSUB"); (case z1b1617_a => assumption); (case z1b1617_b => assumption); (case z1b1617_b2 => assumption); (case z1b1617_d => omega); (case z1b1617_u => omega); rename ND _ => hS; intro kd' x' y' tp' due' node' nd' tx' ty' tn' q1' q2' ta' tb' n' tk' a' b' h' hx' hy' h3' h4' h5' F' hr' hf' nd2' hs' hK'; (rename News _ _ _ _ => oN); refine' with_backN (ch := [(_, _)]) oN hS rfl hK' (List.forall_mem_cons.mpr ⟨hs', List.forall_mem_nil _⟩) ?z1b1617_fr hf' hr' nd2' ?z1b1617_at' ?_; (case z1b1617_fr => assumption); (case z1b1617_at' => k_extra "ATS"); intro N' S9'; (try simp only [List.cons_append, List.nil_append, List.map_cons, List.map_nil] at N' S9'); clear oN hK' hs' hf' hr' nd2'; cases hk' : Kd.two kd'))))
  (k_with "call ref" => ((k_here; (with_reducible show wpAny _ _ (call (Value.ref 485) _) _ _ _); k_dflt (refine' prog_c ?z654ca0_c ?z654ca0_n ?z654ca0_s ?z654ca0_e ?z654ca0_d ?z654ca0_u ?_; (case z654ca0_c => k_extra "CX"); (case z654ca0_n => k_asm); (case z654ca0_s => (rename ND _ => hS; exact hS)); (case z654ca0_e => exact rfl); (case z654ca0_d => omega); (case z654ca0_u => omega); intro i' d' ops' t1' t2' t3' t4' t5' t6' t7' t8' n' tk' v2' v3' v4' v5' v6' v7' v8' h' F' N' S9'))))
  (k_with "call ref" => ((k_here; (with_reducible show wpAny _ _ (call (Value.ref 316) _) _ _ _); k_dflt (first | (refine' tr_A ?z15fa8a_hk ?z15fa8a_c ?z15fa8a_n ?z15fa8a_s ?z15fa8a_d ?z15fa8a_u ?_; (case z15fa8a_hk => assumption); (case z15fa8a_c => k_extra "CX"); (case z15fa8a_n => k_extra "NSUB"); (case z15fa8a_s => k_extra "NDSUB"); (case z15fa8a_d => omega); (case z15fa8a_u => omega); intro l' q0' n' tk' p1' p2' p3' p4' h' ho' F' hf' g1' hs' hK'; rename ND _ => hS; (rename News _ _ _ _ => oN); refine' with_backN (new := [(_, _)]) (ch := [(_, _)]) oN hS rfl hK' (List.forall_mem_cons.mpr ⟨hs', List.forall_mem_nil _⟩) ?z15fa8a_fr (List.forall_mem_cons.mpr ⟨hf', List.forall_mem_nil _⟩) (List.forall_mem_cons.mpr ⟨g1', List.forall_mem_nil _⟩) (ND.one _) ?z15fa8a_at' ?_; (case z15fa8a_fr => assumption); (case z15fa8a_at' => k_extra "ATS"); intro N' S9'; (try simp only [List.cons_append, List.nil_append, List.map_cons, List.map_nil] at N' S9'); clear oN hK' hs' hf' g1') | (refine' tr_B ?z15fa8a_hk ?z15fa8a_c ?z15fa8a_n ?z15fa8a_s ?z15fa8a_d ?z15fa8a_u ?_; (case z15fa8a_hk => assumption); (case z15fa8a_c => k_extra "CX"); (case z15fa8a_n => k_extra "NSUB"); (case z15fa8a_s => k_extra "NDSUB"); (case z15fa8a_d => omega); (case z15fa8a_u => omega); intro l' u' q0' q4' n' tk' p1' p2' p3' h' F' hf' hf2' ne' g1' g2' hs' hK'; rename ND _ => hS; (rename News _ _ _ _ => oN); refine' with_backN (new := [(_, _), (_, _)]) (ch := [(_, _)]) oN hS rfl hK' (List.forall_mem_cons.mpr ⟨hs', List.forall_mem_nil _⟩) ?z15fa8a_fr (List.forall_mem_cons.mpr ⟨hf', List.forall_mem_cons.mpr ⟨hf2', List.forall_mem_nil _⟩⟩) (List.forall_mem_cons.mpr ⟨g1', List.forall_mem_cons.mpr ⟨g2', List.forall_mem_nil _⟩⟩) (ND.two ne') ?z15fa8a_at' ?_; (case z15fa8a_fr => assumption); (case z15fa8a_at' => k_extra "ATS"); intro N' S9'; (try simp only [List.cons_append, List.nil_append, List.map_cons, List.map_nil] at N' S9'); clear oN hK' hs' hf' g1' hf2' g2' ne')))))
  (k_with "call ref" => ((k_here; (with_reducible show wpAny _ _ (call (Value.ref 50) _) _ _ _); k_dflt (first | (refine' step_A ?z3b3f77_hk ?z3b3f77_c ?z3b3f77_la ?z3b3f77_ho ?z3b3f77_n ?z3b3f77_s ?z3b3f77_hco ?z3b3f77_hz ?z3b3f77_d ?z3b3f77_u ?_; (case z3b3f77_hk => assumption); (case z3b3f77_c => k_extra "CX"); (case z3b3f77_n => k_extra "NSUB"); (case z3b3f77_la => k_extra "LAMALL"); (case z3b3f77_ho => assumption); (case z3b3f77_s => k_extra "NDSUB"); (case z3b3f77_hco => assumption); (case z3b3f77_hz => omega); (case z3b3f77_d => omega); (case z3b3f77_u => omega); intro r' q' q2' n' tk' h' F' g1' hf' hs' hK'; rename ND _ => hS; (rename News _ _ _ _ => oN); refine' with_backN (new := [(_, _)]) (ch := [(_, _)]) oN hS rfl hK' (List.forall_mem_cons.mpr ⟨hs', List.forall_mem_nil _⟩) ?z3b3f77_fr (List.forall_mem_cons.mpr ⟨hf', List.forall_mem_nil _⟩) (List.forall_mem_cons.mpr ⟨g1', List.forall_mem_nil _⟩) (ND.one _) ?z3b3f77_at' ?_; (case z3b3f77_fr => assumption); (case z3b3f77_at' => k_extra "ATS"); intro N' S9'; (try simp only [List.cons_append, List.nil_append, List.map_cons, List.map_nil] at N' S9'); clear oN hK' hs' hf' g1' ) | (refine' step_B (ty := 0) ?z3b3f77_hk ?z3b3f77_hy ?z3b3f77_c ?z3b3f77_la ?z3b3f77_n ?z3b3f77_s ?z3b3f77_hco ?z3b3f77_hz ?z3b3f77_d ?z3b3f77_u ?_; (case z3b3f77_hk => assumption); (case z3b3f77_hy => assumption); (case z3b3f77_c => k_extra "CX"); (case z3b3f77_n => k_extra "NSUB"); (case z3b3f77_la => k_extra "LAMALL"); (case z3b3f77_s => k_extra "NDSUB"); (case z3b3f77_hco => assumption); (case z3b3f77_hz => omega); (case z3b3f77_d => omega); (case z3b3f77_u => omega); intro r' q' q2' n' tk' h' F' g1' hf' hs' hK'; rename ND _ => hS; (rename News _ _ _ _ => oN); refine' with_backN (new := [(_, _)]) (ch := [(_, _)]) oN hS rfl hK' (List.forall_mem_cons.mpr ⟨hs', List.forall_mem_nil _⟩) ?z3b3f77_fr (List.forall_mem_cons.mpr ⟨hf', List.forall_mem_nil _⟩) (List.forall_mem_cons.mpr ⟨g1', List.forall_mem_nil _⟩) (ND.one _) ?z3b3f77_at' ?_; (case z3b3f77_fr => assumption); (case z3b3f77_at' => k_extra "ATS"); intro N' S9'; (try simp only [List.cons_append, List.nil_append, List.map_cons, List.map_nil] at N' S9'); clear oN hK' hs' hf' g1' )))))
  (k_with "LAMALL" => (first | assumption | (refine' LamAll.keeps ?z848f38_la (Fr.keep ?z848f38_fg); (case z848f38_fg => assumption); (case z848f38_la => k_extra "LAMALL"))))
  (k_with "compareOp NotIn str ref" => ((k_here; (with_reducible show wpAny _ _ (compareOp CmpOp.NotIn (Value.str _ _) (Value.ref 22)) _ _ _); k_dflt (refine' notin_names ?zc5e847_X ?zc5e847_F ?zc5e847_hx ?_; (case zc5e847_X => k_asm); (case zc5e847_F => k_asm); (case zc5e847_hx => first | exact Kd.nm_in _ | assumption | decide)))))
  (k_with "call builtin:len" => ((k_here; refine' len_m ?z9bcdd3_N ?z9bcdd3_m ?z9bcdd3_z ?_; (case z9bcdd3_N => k_asm); (case z9bcdd3_m => k_mem); (case z9bcdd3_z => omega))))
  (k_with "call builtin:repr" => ((k_here; (with_reducible show wpAny _ _ (call (Value.builtin _) [Value.ref _]) _ _ _); k_dflt (refine' repr_kd2 ?z951a1c_F ?z951a1c_N ?z951a1c_m ?z951a1c_x ?z951a1c_y ?z951a1c_u ?_; (case z951a1c_F => k_asm); (case z951a1c_N => k_asm); (case z951a1c_m => k_mem); (case z951a1c_x => assumption); (case z951a1c_y => assumption); (case z951a1c_u => omega); intro X' h' u' tk' hX' F' N'))))
  (k_with "subscriptTail Name Slice ref ref" => ((k_here; (with_reducible show wpAny _ _ (subscriptTail _ (PySem.Expr.Slice _ _ none _) (Value.ref _) (Value.ref _)) _ _ _); k_dflt (refine' kmk_slice_lit ?z1adc1f_F ?z1adc1f_N ?z1adc1f_l ?z1adc1f_p ?z1adc1f_q ?z1adc1f_e ?_ ?z1adc1f_s ?z1adc1f_t ?z1adc1f_z; (case z1adc1f_F => k_asm); (case z1adc1f_N => k_asm); (case z1adc1f_l => kmk_list); (case z1adc1f_p => kmk_part); (case z1adc1f_q => kmk_part); (case z1adc1f_e => exact slice_end); (case z1adc1f_s => with_unfolding_all rfl); (case z1adc1f_t => kmk_pure); (case z1adc1f_z => exact size_end (by simp only [List.length_cons, List.length_nil]; omega))); intro D' h' F' N' l1; (try k_lt l1))))
  (k_with "M k_offL" => ((rename ND _ => hS; exact OffI.of_nd hS)))
  (k_with "UnrEnd" => ((refine' unrEnd_pick ?zba9df2_s ?zba9df2_p ?_; (case zba9df2_s => assumption); (case zba9df2_p => k_extra "PICK"); intro hS9; k_unrEndL)))
  (k_with "ListRest" => ((with_unfolding_all first | (refine ListRest.succ (fun it' h' tk' hit' F' N' => ?_)) | (refine ListRest.zero (fun h' tk' F' N' => ?_); rename ND _ => hS; have hS9 := ND.tl hS))))
  (k_with "compareOp Eq ref ref" => ((k_here; (with_reducible show wpAny _ _ (compareOp CmpOp.Eq (Value.ref _) (Value.ref _)) _ _ _); k_dflt (refine' eq_one ?zeb1da7_N ?zeb1da7_m1 ?zeb1da7_m2 ?zeb1da7_e1 ?zeb1da7_e2 ?zeb1da7_ho ?zeb1da7_u ?_; (case zeb1da7_N => k_asm); (case zeb1da7_m1 => k_mem); (case zeb1da7_m2 => k_mem); (case zeb1da7_e1 => assumption); (case zeb1da7_e2 => assumption); (case zeb1da7_ho => exact (Kd.show_ok (by assumption) (by assumption)).2.2.2.2); (case zeb1da7_u => omega)))))
  (k_with "M lcg_off" => ((rename ND (_ :: _ :: _ :: _) => hS; exact off3_of_nd hS rfl)))
  (k_with "CompRest" => ((with_unfolding_all first | (refine LCg.CompRest.succ ?_; intro v' I' oI' C' oC' D' m' h' tk' E' hv' hC' hx' F' N' off' ne'; (rename ND _ => hS); (have hS9 := nd_comp hS off' ne' rfl); clear off'; (first | lcg_open hv' | (obtain ⟨t9', hv9'⟩ := hv'; subst hv9'))) | refine LCg.CompRest.zero ?_)))
  (k_with "CompEnd" => ((refine' comp_end ?z44caad_s ?z44caad_p1 ?z44caad_p2 ?z44caad_p3 ?_; (case z44caad_s => assumption); (case z44caad_p1 => k_extra "PICK"); (case z44caad_p2 => k_extra "PICK"); (case z44caad_p3 => k_extra "PICK"); intro hS9; lcg_end; have hS10 := ND.tl (ND.tl (ND.tl hS9)))))
  (k_with "FinE" => (((unfold LCg.FinE); intro D' h' tk' F' N' o1'; (rename ND _ => hS); (have hS9 := nd_fin hS o1' rfl); clear o1'; (try simp only [List.nil_append, List.cons_append] at N'); (try dsimp only))))
  (k_with "FinA" => (((unfold LCg.FinA); intro D' h' tk' F' N' o1'; (rename ND _ => hS); (have hS9 := nd_fin hS o1' rfl); clear o1'; (try simp only [List.nil_append, List.cons_append] at N'); (try dsimp only))))
  trivial
section
variable {w : World} {mean : ExcName → Option Value} {mg mb : Str → Option Value} {A₀ : Around} {base h₀ : Heap} {outer : List Env} {cn : Str} {cs : Scope} {L ea : Addr} {ccd : Value} {cl : List (Str × Addr)} {m : Str → Option Value} {dp un : Nat} {s : Shared} {Q : Value → Shared → Prop} {E : Value → Shared → Prop}
variable {z : W0} {texts : Addr} {ro : Obj} {vs : List Value} {n n0 tn ta tb : Nat} {cc : Int} {ct : Nat} {a b : Int}
theorem stright_c (C : Cx w mean mg mb A₀ base h₀ outer L m cs s.heap) (LA : Lams s.heap [z.mach, z.md, texts, z.conn, z.cnd, z.btree, z.btd, z.core, z.cd, z.regs, z.cell, z.asked, z.src] z)
    (N : News h₀ L s.heap [(z.mach, instObj 60 z.md), (z.md, dictOf (machD w.params z texts) 3), (texts, listOf #[] tn), (z.conn, instObj 485 z.cnd), (z.cnd, dictOf (connD w.params z cc ct) 22), (z.btree, instObj 485 z.btd), (z.btd, dictOf (btreeD w.params z) 11), (z.core, instObj 391 z.cd), (z.cd, dictOf (coreZ w.params z) 3), (z.regs, ro), (z.cell, z.co), (z.asked, listOf vs.toArray n), (z.src, listOf #[.int a ta, .int b tb] n0)]) (S : ND [z.mach, z.md, texts, z.conn, z.cnd, z.btree, z.btd, z.core, z.cd, z.regs, z.cell, z.asked, z.src]) (hco : z.co.data = .cell (some (.ref z.asked))) (hz : vs.length ≤ 900) (ha : 0 ≤ a) (hb : 0 ≤ b) (hb' : b < 2147483647) (hd : dp + 25 < recursionLimit) (hu : un + 100 < cLine)
    (k : ∀ (r : Addr) (a' b' : Int) (ta' tb' n' n2' tk : Nat) h', 0 ≤ a' → 0 ≤ b' → b' < 2147483647 → Fr h₀ L h' m → h'.get? z.src = some (listOf #[.int a' ta', .int b' tb'] n') → h'.get? z.asked = some (listOf (vs ++ [Value.ref r]).toArray n2') → Kept [z.asked, z.src] s.heap h' → Q (.bool true) { s with heap := h', toks := tk }) :
    wpAny (model prog0 w) (AR dp un (envX cn cs L ea ccd cl) outer) (call (.ref 536) [.ref z.src, .ref z.mach, .ref z.asked]) Q E s := by
  obtain ⟨X, T, B, F, hk⟩ := C
  refine' enter (binds := [(("source" : Str), .ref z.src), (("machine" : Str), .ref z.mach), (("asked" : Str), .ref z.asked)]) X T B F N rfl hk ?k6 ?k7 ?k8 ?k9 ?kL ?kB ?_ ?c2 ?c3 ?c4 ?c5
  k_extra "ENTER"
  rename (∀ b o, s.heap.get? b = some o → ¬ _ → _ = some o) => hG
  have LG := LA.at hG (fun _ h => h)
  k_extra "GO"
  all_goals (rename Fr h₀ L _ m => hF)
  all_goals (refine' k _ _ _ _ _ _ _ _ _ ?p1 ?p2 ?p3 hF ?g1 ?g2 ?kp; (case g1 => k_extra "AT?"); (case g2 => k_extra "AT?"); (case p1 => assumption); (case p2 => assumption); (case p3 => assumption); (case kp => k_extra "KEPT"))
end

/-- a plain value of the registers -/
inductive IsF : Value → Prop
  | none : IsF .none
  | int (i : Int) (t : Nat) : IsF (.int i t)
  | str (x : Str) (t : Nat) (h : PyData.strOk x = true) : IsF (.str x t)
theorem one4 {i : Nat} {v : Value} {t1 t2 t3 : Nat} (h : [Value.none, Value.int 0 t1, Value.int 1 t2, Value.int 12 t3][i]? = some v) : v = .none ∨ ∃ j t, v = .int j t ∧ (j = 0 ∨ j = 1 ∨ j = 12) := by
  rcases i with _ | _ | _ | _ | i
  · cases h; exact .inl rfl
  · cases h; exact .inr ⟨_, _, rfl, .inl rfl⟩
  · cases h; exact .inr ⟨_, _, rfl, .inr (.inl rfl)⟩
  · cases h; exact .inr ⟨_, _, rfl, .inr (.inr rfl)⟩
  · simp at h
theorem fillIt15 : PySem.Challenge.rw_pb0451_01 = PySem.Challenge.rw_pb0451_01 ∧ KH = KH := by k_fill; exact ⟨rfl, rfl⟩
theorem klines_C15_0 : True := by
  k_with_none
  (k_with "subscriptTail Name Constant ref int" => ((k_here; (with_reducible show wpAny _ _ (subscriptTail _ _ (Value.ref _) (Value.int _ _)) _ _ _); (with_unfolding_all refine' item_litK ?z73ea9d_k1 ?z73ea9d_k2 ?z73ea9d_k3 ?z73ea9d_k4 ?_ ?z73ea9d_k6; (case z73ea9d_k1 => is_list); (case z73ea9d_k2 => decide); (case z73ea9d_k3 => decide); (case z73ea9d_k4 => rfl); (case z73ea9d_k6 => with_unfolding_all rfl); k_whole))))
  (k_with "ENTER" => (((case k6 => k_is); (case k7 => k_is); (case k8 => omega); (case k9 => exact BindsTo.of_eq rfl); (case kB => (conv => lhs; whnf)); (case kL => exact locs rfl); (case c2 => exact rfl); (case c3 => exact rfl); (case c4 => exact rfl); (case c5 => decide); intro g' L' h' HG' FG' F' N' B' X' T' l'; (try dsimp only); k_fold)))
  (k_with "GO" => (repeat' (first | (k_unfold; (try dsimp only)) | (k_end; wrow_close) | walk1 | (dsimp only; walk1))))
  (k_with "ATF" => (first | refine' AtF.head | (refine' AtF.tail ?zaeb911_b; (case zaeb911_b => k_extra "ATF"))))
  (k_with "AT" => (first | refine' At.head | (refine' At.tail ?z4c4c10_b; (case z4c4c10_b => k_extra "AT"))))
  (k_with "M k_upd" => ((rename ND _ => hS; refine' upd_sd ?z531fe4_a hS ?z531fe4_e; (case z531fe4_a => k_extra "AT"); (case z531fe4_e => rfl))))
  (k_with "M k_updF" => ((rename ND _ => hS; refine' updF_sd ?zc7fe0e_a hS ?zc7fe0e_e; (case zc7fe0e_a => k_extra "ATF"); (case zc7fe0e_e => rfl))))
  (k_with "M kn_among" => ((simp [codeAmong, rawInt]; done)))
  (k_with "M kn_triples" => ((simp [TriplesOk, rawInt]; done)))
  (k_with "M k_room" => ((first | omega | ((try simp only [depth_mark, depth_under_make, depth_under_kw, depth_in1, depth_deeper, depth_caller]); omega))))
  (k_with "SUB" => (first | exact List.forall_mem_nil _ | (refine' List.forall_mem_cons.mpr ⟨?z3be472_h, ?z3be472_t⟩; (case z3be472_h => k_mem); (case z3be472_t => k_extra "SUB"))))
  (k_with "ATS" => (first | refine' Ats.nil | (refine' Ats.hit ?z9e6f72_b; (case z9e6f72_b => k_extra "ATS")) | (refine' Ats.skip ?z9e6f72_b; (case z9e6f72_b => k_extra "ATS"))))
  (k_with "CX" => ((refine' ⟨?za4188e_x1, ?za4188e_x2, ?za4188e_x3, ?za4188e_x4, ?za4188e_x5⟩; (case za4188e_x1 => k_asm); (case za4188e_x2 => k_asm); (case za4188e_x3 => k_asm); (case za4188e_x4 => k_asm); (case za4188e_x5 => first | rfl | assumption))))
  (k_with "NSUB" => ((refine' news_sub ?za05c2b_N ?za05c2b_s; (case za05c2b_N => (rename News _ _ _ _ => oN; exact oN)); (case za05c2b_s => k_extra "SUB"))))
  (k_with "getMethod ref" => ((k_here; (with_reducible show wpAny _ _ (getMethod (Value.ref _) (Str.ofString "get") _) _ _ _); k_dflt (refine' kdg_method (knd := intKind prog0 _) ?z1e447a_N ?z1e447a_m ?z1e447a_d ?_; (case z1e447a_N => k_asm); (case z1e447a_m => k_mem); (case z1e447a_d => assumption)))))
  (k_with "call builtin:dict.get" => ((k_here; k_dflt (refine' kdg_get1 (knd := intKind prog0 _) ?z9e4d13_N ?z9e4d13_m ?z9e4d13_d ?z9e4d13_l ?z9e4d13_k _ rfl ?_; (case z9e4d13_N => k_asm); (case z9e4d13_m => k_mem); (case z9e4d13_d => assumption); (case z9e4d13_l => assumption); (case z9e4d13_k => exact intKind_is _ _ _ _)))))
  (k_with "KSEL" => (first | exact fun _ h => absurd h List.not_mem_nil | (refine' List.forall_mem_cons.mpr ⟨?zf64061_h, ?zf64061_t⟩; (case zf64061_h => first | exact Or.inl (by k_mem) | (refine' Or.inr ⟨_, News.get ?zf64061_n1 ?zf64061_m1, News.get ?zf64061_n2 ?zf64061_m2⟩; (case zf64061_n1 => k_asm); (case zf64061_m1 => k_mem); (case zf64061_n2 => k_asm); (case zf64061_m2 => k_mem))); (case zf64061_t => k_extra "KSEL"))))
  (k_with "KEPT" => ((refine' Kept.sel (kept_of ?z6ac77d_hg ?z6ac77d_f) ?z6ac77d_s; (case z6ac77d_hg => assumption); (case z6ac77d_f => assumption); (case z6ac77d_s => k_extra "KSEL"))))
  (k_with "SUBM" => (first | exact fun _ h => absurd h List.not_mem_nil | (refine' List.forall_mem_cons.mpr ⟨?zaff134_h, ?zaff134_t⟩; (case zaff134_h => k_mem); (case zaff134_t => k_extra "SUBM"))))
  (k_with "FRESH" => ((refine' fresh_of ?z9e8148_hg ?z9e8148_n ?z9e8148_m ?z9e8148_nd ?z9e8148_hs; (case z9e8148_hg => assumption); (case z9e8148_n => assumption); (case z9e8148_m => k_mem); (case z9e8148_nd => first | assumption | exact ND.tl (by assumption) | exact ND.tl (ND.tl (by assumption)) | exact ND.tl (ND.tl (ND.tl (by assumption)))); (case z9e8148_hs => k_extra "SUBM"))))
  (k_with "AT?" => ((refine' News.get ?z4603e9_n1 ?z4603e9_m1; (case z4603e9_n1 => k_asm); (case z4603e9_m1 => k_mem))))
  (k_with "NDSUB" => ((refine' ND.sub ?zb41ab3_s ?zb41ab3_l; (case zb41ab3_s => assumption); (case zb41ab3_l => k_extra "SUBL"))))
  (k_with "SUBL" => (first | exact List.nil_sublist _ | (refine' List.Sublist.cons_cons _ ?ze75662_b; (case ze75662_b => k_extra "SUBL")) | (refine' List.Sublist.cons _ ?ze75662_b; (case ze75662_b => k_extra "SUBL"))))
  (k_with "BACKP" => ((intro ro' tk' h' F' g1' hr' hK'; rename ND _ => hS; (rename News _ _ _ _ => oN); refine' with_back (ch := [(_, _)]) oN hS rfl hK' (List.forall_mem_cons.mpr ⟨g1', List.forall_mem_nil _⟩) ?z13acb0_at' ?_; (case z13acb0_at' => k_extra "ATS"); intro N'; clear oN hK' g1')))
  (k_with "BACK0" => ((intro tk' h' F' hK'; (rename News _ _ _ _ => oN); have N' := news_kept oN hK' (fun _ _ h => nomatch h); clear oN hK')))
  (k_with "LAMK" => (first | assumption | (refine' LamAt.keeps ?z711d6a_la (Fr.keep ?z711d6a_fg); (case z711d6a_fg => assumption); (case z711d6a_la => k_extra "LAMK"))))
  (k_with "NDSUB" => (first | (refine' ND.sub ?ze76779_s ?ze76779_l; (case ze76779_s => assumption); (case ze76779_l => k_extra "SUBL")) | (refine' ND.p3 (ND.sub ?ze76779_s ?ze76779_l); (case ze76779_s => assumption); (case ze76779_l => k_extra "SUBL"))))
  (k_with "NEQ" => ((rename ND _ => hS; first | exact ND.ne_l hS (by k_mem) | exact ND.ne_r hS (by k_mem) | (have hS2 := ND.tl hS; k_extra "NEQ"))))
  (k_with "PICK" => (first | refine' Pick.head | (refine' Pick.tail ?z677e40_b; (case z677e40_b => k_extra "PICK"))))
  (k_with "RangeRest" => ((with_unfolding_all first | (refine RangeRest.succ (fun t' h' tk' F' N' => ?_)) | (refine RangeRest.zero (fun h' tk' F' N' => ?_); rename ND _ => hS; have hS9 := ND.tl hS))))
  (k_with "UnrEnd" => ((refine' unrEnd_pick ?z76e4c1_s ?z76e4c1_p ?_; (case z76e4c1_s => assumption); (case z76e4c1_p => k_extra "PICK"); intro hS9; first | ktu_endR | k_unrEnd)))
  (k_with "M ktu_off" => ((refine' Or.inl ?z3326b3_h; (case z3326b3_h => (try dsimp only); k_extra "NEQ"))))
  (k_with "eval List" => ((k_here; k_dflt (refine' disp_list ?z72c816_F ?z72c816_N ?z72c816_hk ?z72c816_he ?z72c816_hz ?_; (case z72c816_F => k_asm); (case z72c816_N => k_asm); (case z72c816_hk => first | rfl | assumption); (case z72c816_he => exact rfl); (case z72c816_hz => exact rfl)); intro l' h' F' N' l1; (try k_lt l1))))
  (k_with "eval Tuple" => ((k_here; k_dflt (refine' disp_tuple ?zcd943b_F ?zcd943b_N ?zcd943b_hk ?zcd943b_he ?zcd943b_hz ?_; (case zcd943b_F => k_asm); (case zcd943b_N => k_asm); (case zcd943b_hk => first | rfl | assumption); (case zcd943b_he => exact rfl); (case zcd943b_hz => exact rfl)); intro l' h' F' N' l1; (try k_lt l1))))
  (k_with "spliced" => ((k_here; (with_reducible show wpAny _ _ (spliced (backTo _ (starEach (_ :: _) _))) _ _ _); k_dflt (refine' simp_all ?z919f57_hk ?z919f57_F ?z919f57_he ?_; (case z919f57_F => k_asm); (case z919f57_hk => first | rfl | assumption); (case z919f57_he => exact rfl); try dsimp only))))
  (k_with "call ref" => ((k_here; (with_reducible show wpAny _ _ (call (Value.ref 355) _) _ _ _); k_dflt (refine' put_c ?zc433b0_c ?zc433b0_n ?zc433b0_s ?zc433b0_hr ?zc433b0_z ?zc433b0_d ?_; (case zc433b0_c => k_extra "CX"); (case zc433b0_n => k_extra "NSUB"); (case zc433b0_hr => assumption); (case zc433b0_z => first | omega | exact Nat.le_trans length_stored_le (by omega) | exact Nat.le_trans length_stored_le (Nat.succ_le_succ (Nat.le_trans length_stored_le (by omega)))); (case zc433b0_s => k_extra "NDSUB"); (case zc433b0_d => omega); k_extra "BACKP"))))
  (k_with "call ref" => ((k_here; (with_reducible show wpAny _ _ (call (Value.ref 510) _) _ _ _); k_dflt (refine' one_c ?z8c2970_c ?z8c2970_n ?z8c2970_s ?z8c2970_a ?z8c2970_b ?z8c2970_b2 ?z8c2970_t1 ?z8c2970_t2 ?z8c2970_d ?_; (case z8c2970_c => k_extra "CX"); (case z8c2970_n => k_extra "NSUB"); (case z8c2970_s => k_extra "NDSUB"); (case z8c2970_a => assumption); (case z8c2970_b => assumption); (case z8c2970_b2 => assumption); (case z8c2970_t1 => exact Nat.succ_pos _); (case z8c2970_t2 => exact Nat.le_of_ble_eq_true rfl); (case z8c2970_d => omega); intro i' v' a' b' ta' tb' n' tk' h' hv' h3' h4' h5' F' hs' hK'; (obtain e' | ⟨j', t', e', hj'⟩ := one4 hv' <;> subst e'); (all_goals clear hv'); (all_goals (rename ND _ => hS; (rename News _ _ _ _ => oN); refine' with_back (ch := [(_, _)]) oN hS rfl hK' (List.forall_mem_cons.mpr ⟨hs', List.forall_mem_nil _⟩) ?z8c2970_at' ?_; (case z8c2970_at' => k_extra "ATS"); intro N'; clear oN hK' hs'))))))
  trivial
section
variable {w : World} {mean : ExcName → Option Value} {mg mb : Str → Option Value} {A₀ : Around} {base h₀ : Heap} {outer : List Env} {cn : Str} {cs : Scope} {L ea : Addr} {ccd : Value} {cl : List (Str × Addr)} {m : Str → Option Value} {dp un : Nat} {s : Shared} {Q : Value → Shared → Prop} {E : Value → Shared → Prop}
variable {z : W0} {opl texts : Addr} {ro : Obj} {kvs : List (Int × Value)} {vs : List Value} {n on tn : Nat} {cc : Int} {ct : Nat} {fv v u p1 p2 p3 p4 a b gv : Value} {q0 q1 q2 q3 q4 : Nat} {x : Str} {tx : Nat} {i : Int} {ti tj : Nat} {tp : Addr}
variable {n0 ta tb : Nat} {a b : Int}
theorem step_changesI {j : Int} (C : Cx w mean mg mb A₀ base h₀ outer L m cs s.heap) (hr : ro.IsDictOf (intKind prog0 w) kvs) (hkz : kvs.length ≤ 900) (hsm : (z.regs == sysModules) = false) (hv : (valueAt kvs i).getD .none = .int j tj) (hj : j = 0 ∨ j = 1 ∨ j = 12) (hc0 : 0 ≤ cc) (hc1 : cc < 1000)
    (N : News h₀ L s.heap [(opl, listOf #[.str "Changes" q0, .int i ti, p2, p3, p4] on), (z.mach, instObj 60 z.md), (z.md, dictOf (machD w.params z texts) 3), (z.conn, instObj 485 z.cnd), (z.cnd, dictOf (connD w.params z cc ct) 22), (z.btree, instObj 485 z.btd), (z.btd, dictOf (btreeD w.params z) 11), (z.core, instObj 391 z.cd), (z.cd, dictOf (coreZ w.params z) 3), (z.regs, ro), (z.cell, z.co), (z.asked, listOf vs.toArray n)]) (S : ND [opl, z.mach, z.md, z.conn, z.cnd, z.btree, z.btd, z.core, z.cd, z.regs, z.cell, z.asked]) (hco : z.co.data = .cell (some (.ref z.asked))) (hz : vs.length ≤ 1000) (hd : dp + 15 < recursionLimit) (hu : un + 60 < cLine)
    (k : ∀ (tk : Nat) (ct' : Nat) h', Fr h₀ L h' m → h'.get? z.cnd = some (dictOf (connD w.params z (cc + j) ct') 22) → Kept [z.cnd] s.heap h' → Q fv { s with heap := h', toks := tk }) :
    wpAny (model prog0 w) (AR dp un (envX cn cs L ea ccd cl) outer) (call (.ref 50) [.ref z.mach, .ref opl, fv]) Q E s := by
  rcases hj with rfl | rfl | rfl
  · exact step_changes0 C hr hkz hsm hv hc0 hc1 N S hco hz hd hu k
  · exact step_changes1 C hr hkz hsm hv hc0 hc1 N S hco hz hd hu k
  · exact step_changes12 C hr hkz hsm hv hc0 hc1 N S hco hz hd hu k
theorem klines_C15_1 : True := by
  (k_with "call ref" => ((k_here; (with_reducible show wpAny _ _ (call (Value.ref 50) _) _ _ _); k_dflt (first | (refine' step_changesN ?zde4716_c ?zde4716_hr ?zde4716_hkz ?zde4716_hsm ?zde4716_y0 ?zde4716_y1 ?zde4716_y2 ?zde4716_N ?zde4716_S ?zde4716_hco ?zde4716_hz ?zde4716_hd ?zde4716_hu ?_; (case zde4716_c => k_extra "CX"); (case zde4716_N => k_extra "NSUB"); (case zde4716_S => k_extra "NDSUB"); (case zde4716_hco => assumption); (case zde4716_hz => first | assumption | omega | (simp only [List.length_append, List.length_cons, List.length_nil]; omega)); (case zde4716_hd => omega); (case zde4716_hu => omega); (case zde4716_hr => assumption); (case zde4716_hkz => first | assumption | omega | exact Nat.le_trans length_stored_le (by omega) | exact Nat.le_trans length_stored_le (Nat.succ_le_succ (Nat.le_trans length_stored_le (by omega)))); (case zde4716_hsm => assumption); (case zde4716_y0 => first | assumption | omega | decide | exact get_stored | rfl); (case zde4716_y1 => first | assumption | omega | decide | exact get_stored | rfl); (case zde4716_y2 => first | assumption | omega | decide | exact get_stored | rfl); intro tk' ct' h' F' hc' hK'; (rename ND _ => hS); (rename News _ _ _ _ => oN); refine' with_back (ch := [(_, _)]) oN hS rfl hK' (List.forall_mem_cons.mpr ⟨hc', List.forall_mem_nil _⟩) ?zde4716_at' ?_; (case zde4716_at' => k_extra "ATS"); intro N'; clear oN hK') | (refine' step_changesI ?zde4716_c ?zde4716_hr ?zde4716_hkz ?zde4716_hsm ?zde4716_y0 ?zde4716_y1 ?zde4716_y2 ?zde4716_y3 ?zde4716_N ?zde4716_S ?zde4716_hco ?zde4716_hz ?zde4716_hd ?zde4716_hu ?_; (case zde4716_c => k_extra "CX"); (case zde4716_N => k_extra "NSUB"); (case zde4716_S => k_extra "NDSUB"); (case zde4716_hco => assumption); (case zde4716_hz => first | assumption | omega | (simp only [List.length_append, List.length_cons, List.length_nil]; omega)); (case zde4716_hd => omega); (case zde4716_hu => omega); (case zde4716_hr => assumption); (case zde4716_hkz => first | assumption | omega | exact Nat.le_trans length_stored_le (by omega) | exact Nat.le_trans length_stored_le (Nat.succ_le_succ (Nat.le_trans length_stored_le (by omega)))); (case zde4716_hsm => assumption); (case zde4716_y0 => first | assumption | omega | decide | exact get_stored | rfl); (case zde4716_y1 => first | assumption | omega | decide | exact get_stored | rfl); (case zde4716_y2 => first | assumption | omega | decide | exact get_stored | rfl); (case zde4716_y3 => first | assumption | omega | decide | exact get_stored | rfl); intro tk' ct' h' F' hc' hK'; (rename ND _ => hS); (rename News _ _ _ _ => oN); refine' with_back (ch := [(_, _)]) oN hS rfl hK' (List.forall_mem_cons.mpr ⟨hc', List.forall_mem_nil _⟩) ?zde4716_at' ?_; (case zde4716_at' => k_extra "ATS"); intro N'; clear oN hK')))))
  trivial
theorem changes_c (C : Cx w mean mg mb A₀ base h₀ outer L m cs s.heap) (hr : ro.IsDictOf (intKind prog0 w) kvs) (hkz : kvs.length ≤ 800) (hsm : (z.regs == sysModules) = false) (hc0 : 0 ≤ cc) (hc1 : cc < 900)
    (N : News h₀ L s.heap [(z.mach, instObj 60 z.md), (z.md, dictOf (machD w.params z texts) 3), (texts, listOf #[] tn), (z.conn, instObj 485 z.cnd), (z.cnd, dictOf (connD w.params z cc ct) 22), (z.btree, instObj 485 z.btd), (z.btd, dictOf (btreeD w.params z) 11), (z.core, instObj 391 z.cd), (z.cd, dictOf (coreZ w.params z) 3), (z.regs, ro), (z.cell, z.co), (z.asked, listOf vs.toArray n), (z.src, listOf #[.int a ta, .int b tb] n0)]) (S : ND [z.mach, z.md, texts, z.conn, z.cnd, z.btree, z.btd, z.core, z.cd, z.regs, z.cell, z.asked, z.src]) (hco : z.co.data = .cell (some (.ref z.asked))) (hz : vs.length ≤ 900) (ha : 0 ≤ a) (hb : 0 ≤ b) (hb' : b < 2147483647) (hd : dp + 25 < recursionLimit) (hu : un + 100 < cLine)
    (k : ∀ (v : Value) (ro' : Obj) (a' b' cc' : Int) (ta' tb' n' ct' tk : Nat) h', IsF v → 0 ≤ a' → 0 ≤ b' → b' < 2147483647 → 0 ≤ cc' → cc' ≤ cc + 12 → Fr h₀ L h' m → h'.get? z.src = some (listOf #[.int a' ta', .int b' tb'] n') → h'.get? z.regs = some ro' → ro'.IsDictOf (intKind prog0 w) (stored kvs 1 v) → h'.get? z.cnd = some (dictOf (connD w.params z cc' ct') 22) → Kept [z.cnd, z.regs, z.src] s.heap h' → Q (.bool true) { s with heap := h', toks := tk }) :
    wpAny (model prog0 w) (AR dp un (envX cn cs L ea ccd cl) outer) (call (.ref 555) [.ref z.src, .ref z.core, .ref z.mach]) Q E s := by
  obtain ⟨X, T, B, F, hk⟩ := C
  refine' enter (binds := [(("source" : Str), .ref z.src), (("core" : Str), .ref z.core), (("machine" : Str), .ref z.mach)]) X T B F N rfl hk ?k6 ?k7 ?k8 ?k9 ?kL ?kB ?_ ?c2 ?c3 ?c4 ?c5
  k_extra "ENTER"
  k_extra "GO"
  all_goals (rename Fr h₀ L _ m => hF)
  · rw [beq_self_eq_true]
    refine' k .none _ _ _ _ _ _ _ _ _ _ .none ?p1 ?p2 ?p3 ?p4 ?p5 hF ?g1 ?g2 (by assumption) ?g3 ?kp
    (case g1 => k_extra "AT?")
    (case g2 => k_extra "AT?")
    (case g3 => k_extra "AT?")
    (case p1 => assumption)
    (case p2 => assumption)
    (case p3 => assumption)
    (case p4 => omega)
    (case p5 => omega)
    (case kp => k_extra "KEPT")
  · rw [beq_self_eq_true]
    refine' k (.int _ _) _ _ _ _ _ _ _ _ _ _ (.int _ _) ?rp1 ?rp2 ?rp3 ?rp4 ?rp5 hF ?rg1 ?rg2 (by assumption) ?rg3 ?rkp
    (case rg1 => k_extra "AT?")
    (case rg2 => k_extra "AT?")
    (case rg3 => k_extra "AT?")
    (case rp1 => assumption)
    (case rp2 => assumption)
    (case rp3 => assumption)
    (case rp4 => omega)
    (case rp5 => omega)
    (case rkp => k_extra "KEPT")
end

abbrev exBm : List Value := [.ref 81, .type "Exception", .type "BaseException", .type "object"]
abbrev ex94 (k0 k1 k2 k3 k5 : Option Value) : Obj := excClassObj "SqlError" "SqlError" 94 93 [.ref 81] exBm true [] [] false none none k0 k1 k2 k3 k5 "Exception.__new__"
theorem ex_hasE : (Value.ref 94 :: exBm).contains (.type "Exception") = true := by decide +kernel
theorem ex_noA : (Value.ref 94 :: exBm).contains (.type "AttributeError") = false := by decide +kernel
theorem ex_noN : (Value.ref 94 :: exBm).contains (.type "NameError") = false := by decide +kernel
theorem ex_self : (Value.ref 94 :: exBm).contains (.ref 94) = true := by decide +kernel
section
variable {prog : Program} {w : World} {A : Around} {E : Value → Shared → Prop} {h : Heap} {g : Array GenState} {d : Drawn} {t : Nat} {os : OsState} {k0 k1 k2 k3 k5 : Option Value}
theorem ex_check {v : Value} {Q : Unit → Shared → Prop} (hC : h.get? 94 = some (ex94 k0 k1 k2 k3 k5)) (hq : Q () ⟨h, g, d, t, os⟩) :
    wpAny (model prog w) A (checkBuiltinCall "Exception.__new__" ⟨[.ref 94, v], []⟩) Q E ⟨h, g, d, t, os⟩ := by
  have hc := ex_hasE
  have hs := PySem.F.excBase_Exception.noStar
  simp only [checkBuiltinCall, PySem.F.excBase_Exception.newKind, PySem.F.excBase_Exception.newSplit, PySem.F.excBase_Exception.newRow]
  repeat (first | refine wpAny_loadPart_at hC ?_ | (refine wpAny_isSubtype_exc hC ?_; rw [hc]) | refine wpAny_staticBase_exc hC ?_ | refine wpAny_madeBy_exc hC ?_ | simp only [bne_self_eq_false, Bool.false_eq_true, if_false] | wp_step)
  exact hq
theorem ex_new {v : Value} {R : Result → Shared → Prop} (hC : h.get? 94 = some (ex94 k0 k1 k2 k3 k5))
    (hq : R (.ok (.ret (.ref (h.objs.size + 1)))) ⟨(h.push { cls := .type "tuple", data := .seq #[v] }).push { cls := .ref 94, data := .fields #[.ref h.objs.size, .none, .none, .none, .bool false, .none] }, g, d, t, os⟩) :
    codeAny (model prog w) A (.builtin "Exception.__new__" ⟨[.ref 94, v], []⟩) R ⟨h, g, d, t, os⟩ := by
  have hends := PySem.F.excBase_Exception.ends
  have c1 := ex_hasE
  have c2 := ex_noA
  have c3 := ex_noN
  refine codeAny_builtinAt PySem.F.excBase_Exception.entry ?_
  unfold Builtin.«BaseException.__new__»
  refine PySem.wpAt_bind ?_
  show PySem.wpAt _ _ _ (stack >>= _) _ _ _
  refine PySem.wpAt_bind (PySem.wpAt_stack fun p below => PySem.wpAt_of_wpAny ?_)
  wp_walk
  refine PySem.wpAt_of_wpAny ?_
  rw [PySem.F.excBase_Exception.owner]
  repeat (first | with_reducible refine wpAny_madeHere_exc PySem.F.excBase_Exception.canon hC ?_ | with_reducible refine wpAny_loadPart_at hC ?_ | (with_reducible refine wpAny_isSubtype_exc hC ?_; first | rw [c1] | rw [c2] | rw [c3]) | wp_step)
  show R _ _
  rw [Heap.size_push]
  exact hq
end
section
variable {w : World} {A : Around} {E : Value → Shared → Prop} {h : Heap} {g : Array GenState} {d : Drawn} {t : Nat} {os : OsState}
theorem ex_obj (X : (KH w.params).In h) : ∃ k0 k1 k2 k3 k5, h.get? 94 = some (ex94 k0 k1 k2 k3 k5) := by
  have h2 := X (nat_lit 94) _ rfl
  exact ⟨_, _, _, _, _, h2⟩
theorem ex_call {v : Value} {Q : Value → Shared → Prop} (X : (KH w.params).In h)
    (hq : ∀ h' e, Heap.MadeExcOf h h' e (.ref 94) [v] →
      codeAny (model prog0 w) (A.under (.builtin "type.__call__" ⟨[.ref 94, v], []⟩)) (.call (.ref 78) ⟨[.ref e, v], []⟩) (fun r s' => match r with | .ok (.ret r) => r = .none ∧ Q (.ref e) s' | .ok _ => False | .error x => E x s') ⟨h', g, d, t, os⟩) :
    wpAny (model prog0 w) A (call (.ref 94) [v]) Q E ⟨h, g, d, t, os⟩ := by
  obtain ⟨k0, k1, k2, k3, k5, hC⟩ := ex_obj X
  have f1 := tc_lookup
  have f2 := tc_bind (.ref 94)
  have hT : (⟨h, g, d, t, os⟩ : Shared).TypeIs (.ref 94) "type" := ⟨_, hC, rfl⟩
  refine wpAny_call (codeAny_of_tree ?_)
  show wpAny _ _ (callAny (.ref 94) _) _ _ _
  repeat (any_goals (first | assumption | with_reducible refine wpAny_loadPart_at hC ?_ | wp_step))
  refine ⟨rfl, ?_⟩
  refine codeAny_call_builtin_at (Code.quiet_builtin _ (by decide +kernel)) entry_typeCall (wpAny_check_type_call_sub hC ?_)
  repeat (first | with_reducible refine wpAny_loadPart_at hC ?_ | with_reducible refine wpAny_madeBy_exc hC ?_ | wp_step)
  refine codeAny_call_builtin_code (Code.quiet_builtin _ PySem.F.excBase_Exception.quiet) (ex_check hC ?_)
  refine ex_new hC ?_
  show wpAny _ _ _ _ _ _
  have kp : ∀ b o, h.get? b = some o → ((h.push { cls := .type "tuple", data := .seq #[v] }).push { cls := .ref 94, data := .fields #[.ref h.objs.size, .none, .none, .none, .bool false, .none] }).get? b = some o :=
    fun b o e => Heap.get?_push_of_some _ (Heap.get?_push_of_some _ e)
  have hC₁ := kp _ _ hC
  have X' := X.keeps kp
  have hget : ((h.push { cls := .type "tuple", data := .seq #[v] }).push { cls := .ref 94, data := .fields #[.ref h.objs.size, .none, .none, .none, .bool false, .none] }).get? (h.objs.size + 1) = some
      { cls := .ref 94, data := .fields #[.ref h.objs.size, .none, .none, .none, .bool false, .none] } := by heap_get
  have hs := ex_self
  unfold isInstance
  repeat (first | with_reducible refine wpAny_loadPart_at hget ?_ | (with_reducible refine wpAny_isSubtype_exc hC₁ ?_; rw [hs]) | wp_step)
  show wpAny _ _ (typeLookup (.ref 94) _) _ _ _
  have e1 : findIn (KH w.params) (.ref 94) "__init__" = some (some (.ref 78)) := rfl
  have e2 : typeIn (KH w.params) (.ref 78) = some (.type "function") := rfl
  refine (looks_findIn X' e1).here ?_
  refine wpAny_holding (wpAny_bind ?_)
  refine (bind_fn X' _ e2).here ?_
  refine wpAny_bind (wpAny_call ?_)
  refine codeAny_mono (hq _ (h.objs.size + 1) ⟨kp, Heap.get?_none_of_le (Nat.le_succ _), h.objs.size, hget, Heap.get?_none_of_le (Nat.le_refl _), ?_⟩) (fun r s' hr => ?_)
  · exact Heap.get?_push_of_some _ (Heap.get?_push_at rfl rfl)
  · cases r with
    | error x => exact hr
    | ok fl =>
      cases fl with
      | ret r =>
        obtain ⟨rfl, hQ⟩ := hr
        exact wpAny_pure (wpAny_pure hQ)
      | _ => exact hr.elim
end

section
variable {w : World} {A : Around} {E : Value → Shared → Prop} {s : Shared}
theorem ex_store {x : Addr} {fs : Array Value} {v : Value} {Q : Unit → Shared → Prop} (X : (KH w.params).In s.heap) (hx : s.heap.get? x = some { cls := .ref 94, data := .fields fs })
    (hq : ∀ h' dx, (∀ b o, b ≠ x → s.heap.get? b = some o → h'.get? b = some o) → s.heap.get? dx = none → h'.get? x = some { cls := .ref 94, dict := some dx, data := .fields fs } → Q () { s with heap := h', toks := s.toks + 2 }) :
    wpAny (model prog0 w) A (setAttr (.ref x) "message" v) Q E s := by
  obtain ⟨h, g, d, t, os⟩ := s
  have SF := PySem.F.store_object
  have SE := PySem.F.store_Exception
  obtain ⟨k0, k1, k2, k3, k5, hC⟩ := ex_obj X
  have I : InstAt h x { cls := .ref 94, data := .fields fs } 94 none := ⟨hx, rfl, rfl, trivial⟩
  have es : findIn (KH w.params) (.ref 94) "__setattr__" = some (some (.builtin "object.__setattr__")) := by
    have e : (toString "object" ++ toString "." ++ toString (Str.ofString "__setattr__").toString) = "object.__setattr__" := by decide +kernel
    rw [← e]; rfl
  refine set_plain X I es ?_
  dsimp only at *
  have sub : Looks (model prog0 w) h (isInstance (.ref x) (.type "object")) true := I.type.andThen (looks_mroIn X rfl)
  refine codeAny_call_builtin SF.slot.plain SF.entry (@check_slot (model prog0 w) _ _ _ "object.__setattr__" "object" "__setattr__" (.ref x) [.str "message" t, v] [] _ SF.kind SF.split sub (SF.args (.ref x) (.str "message" t) v) ?_)
  rw [osa_eq, refuse_eq]
  have hm : Looks (model prog0 w) h (mroOf (.ref 94)) (.ref 94 :: exBm) := (Looks.ld (part := none) hC).andThen (Looks.of_pure (by kernel_rfl))
  have hf : findIn (KH w.params) (.ref 94) "message" = some none := rfl
  refine wpAny_bind (wpAny_bind (I.type.here (wpAny_bind (hm.here ?_))))
  rw [refuseLoop_ref, refuseLoop_ref, SE.passes]
  refine wpAny_pure (wpAny_bind (I.type.here (wpAny_bind ((looks_findIn X hf).here (wpAny_bind (wpAny_pure ?_))))))
  show wpAny _ _ (Builtin.ObjectAttr.storeInOwnDict (.ref x) (.ref 94) (.str "message" t) "message" v false) _ _ _
  unfold Builtin.ObjectAttr.storeInOwnDict Builtin.ObjectAttr.ownDictForStores
  refine wpAny_bind (wpAny_pure ?_)
  refine wpAny_bind ?_
  show wpAny _ _ (instanceDict x true) _ _ _
  unfold instanceDict
  refine wpAny_bind (wpAny_loadPart hx ?_)
  have hcd : Looks (model prog0 w) h (classData 94) _ := (Looks.ld (part := none) hC).andThen .now
  dsimp only
  refine wpAny_bind (hcd.here ?_)
  rw [if_neg (by decide), if_neg (by decide)]
  have hx₁ : (h.push { cls := .type "dict", data := .dict #[] }).get? x = some { cls := .ref 94, data := .fields fs } := Heap.get?_push_of_some _ hx
  have hxs : x ≠ h.objs.size := Nat.ne_of_lt (Heap.lt_size hx)
  refine wpAny_bind (wpAny_alloc' ?_)
  refine wpAny_bind (wpAny_update' hx₁ ?_)
  refine wpAny_pure ?_
  have hx₂ := Heap.get?_update_self (fun o : Obj => { cls := o.cls, dict := some h.objs.size, data := o.data, slots := o.slots }) hx₁ (by rfl)
  have hgd : ((h.push { cls := .type "dict", data := .dict #[] }).update x fun o => { cls := o.cls, dict := some h.objs.size, data := o.data, slots := o.slots }).get? h.objs.size
      = some { cls := .type "dict", data := .dict #[] } :=
    (Heap.get?_update_ne _ _ _ _ hxs.symm).trans (Heap.get?_push_at rfl rfl)
  have hnd : ((h.push { cls := .type "dict", data := .dict #[] }).update x fun o => { cls := o.cls, dict := some h.objs.size, data := o.data, slots := o.slots }).Ns h.objs.size (fun _ => none) :=
    ⟨_, #[], _, hgd, rfl, fun e he => absurd he (by simp), fun _ => rfl⟩
  show wpAny _ _ (Builtin.ObjectAttr.storeInDict h.objs.size (.str "message" t) "message" v) _ _ _
  unfold Builtin.ObjectAttr.storeInDict Builtin.ObjectAttr.newKeyGuard
  refine wpAny_bind (wpAny_pure (wpAny_bind (wpAny_nsSet1 (Heap.Ns1.of_empty hnd) fun h' hn' hs => ?_)))
  obtain ⟨oD, esD, epD, hoD, hdD, hcD⟩ := hn'.count (Within.cons "message" v Within.nil)
  refine wpAny_bind (wpAny_lookBehind hoD (by rw [hdD]; exact pastItsLine_dict (Nat.le_trans hcD (by rw [List.length_cons, List.length_nil, sizeLine_eq]; omega))) ?_)
  refine wpAny_pure ?_
  refine hq h' h.objs.size (fun b ob hbx hb => ?_) (Heap.get?_none_of_le (Nat.le_refl _)) ((hs.2 x hxs).trans hx₂)
  exact (hs.2 b (Nat.ne_of_lt (Heap.lt_size hb))).trans ((Heap.get?_update_ne _ _ _ _ hbx).trans (Heap.get?_push_of_some _ hb))
end

abbrev exo (t : Addr) : Obj := { cls := .ref 94, data := .fields #[.ref t, .none, .none, .none, .bool false, .none] }
abbrev exd (dx t : Addr) : Obj := { cls := .ref 94, dict := some dx, data := .fields #[.ref t, .none, .none, .none, .bool false, .none] }
abbrev tupL (vs : List Value) : Obj := { cls := .type "tuple", data := .seq vs.toArray }
section
variable {w : World} {A : Around} {E : Value → Shared → Prop} {s : Shared} {env : Env}
theorem ex_hasB : (Value.ref 94 :: exBm).contains (.type "BaseException") = true := by decide +kernel
theorem ex_raise {e : PySem.Expr} {pos : Pos} {Q : Flow → Shared → Prop} (hh : A.handled = none)
    (h : wpAny (model prog0 w) A (eval e env) (fun v s₁ => ∃ a dx t, v = .ref a ∧ (KH w.params).In s₁.heap ∧ s₁.heap.get? a = some (exd dx t) ∧ E (.ref a) s₁) E s) :
    wpAny (model prog0 w) A (exec (.Raise (some e) none pos) env) Q E s := by
  show wpAny (model prog0 w) A (do standAt pos; raiseStmt env (some (do let v ← eval e env; standAt pos; pure v)) none) Q E s
  refine wpAny_bind (wpAny_standAt ?_)
  unfold raiseStmt
  dsimp only
  refine wpAny_bind (wpAny_bind (wpAny_mono h (fun v s₁ h₁ => wpAny_bind (wpAny_standAt (wpAny_pure ?_))) fun _ _ x => x))
  obtain ⟨a, dx, t, rfl, X, he, hE⟩ := h₁
  obtain ⟨hp, g, d, tk, os⟩ := s₁
  obtain ⟨k0, k1, k2, k3, k5, hC⟩ := ex_obj X
  have hb := ex_hasB
  repeat (first | with_reducible refine wpAny_loadPart_at he ?_ | with_reducible refine wpAny_loadPart_at hC ?_ | (with_reducible refine wpAny_isSubtype_exc hC ?_; rw [hb]) | wp_step)
  exact wpAny_raiseNew_none hh hE
end
section
variable {M : Model} {A : Around} {E : Value → Shared → Prop} {s' : Shared} {base g : Heap} {outer : List Env} {L a e t dx : Addr} {m : Str → Option Value} {name : Str} {scope : Scope} {cd : Value} {Q : Unit → Shared → Prop} {news : List (Addr × Obj)} {vs : List Value}
theorem leave_exK (K : Below A base outer g) (F : Fr g L s'.heap m) (N : News g L s'.heap ((e, exd dx t) :: (t, tupL vs) :: news)) (nd : (e :: t :: news.map (·.1)).Nodup)
    (hQ : ∀ h', RaisedK base outer e (.ref 94) t vs news h' → g.UpToSlots h' → Q () { s' with heap := h' }) (hk : scope.kind = .function := by rfl) :
    wpAny M (A.deeper (envOf name scope L a cd)) (leaving (envOf name scope L a cd) (.ref e)) Q E s' := by
  have K' := K.push (name := name) (a := a) (cd := cd) F hk
  have he := N (e, exd dx t) (.head _)
  have ht := N (t, tupL vs) (.tail _ (.head _))
  have bn : ∀ b, g.get? b = none → base.get? b = none := fun b e' => fresh_of_stays K.stays e'
  let as := e :: t :: (envOf name scope L a cd :: outer).filterMap (·.frame)
  have hin : ∀ env ∈ (envOf name scope L a cd :: outer), ∀ b, env.frame = some b → b ∈ as := fun env he' b hb => .tail _ (.tail _ (List.mem_filterMap.mpr ⟨env, he', hb⟩))
  have nfr : ∀ q ∈ (e, exd dx t) :: (t, tupL vs) :: news, q.1 ∉ (envOf name scope L a cd :: outer).filterMap (·.frame) := fun q hq hm => by
    obtain ⟨env, he', hf⟩ := List.mem_filterMap.mp hm
    rcases List.mem_cons.mp he' with rfl | he'
    · exact (N q hq).2.1 (Option.some.inj hf).symm
    · obtain ⟨o, ho, _⟩ := (K.frames.mem (List.mem_filterMap.mpr ⟨env, he', hf⟩)).2
      rw [(N q hq).2.2] at ho; cases ho
  have st : base.StaysIn (hideAll s'.heap as) := fun b o q => hideAll_get _ (K'.stays b o q) fun hm => by
    rcases List.mem_cons.mp hm with rfl | hm
    · rw [bn _ he.2.2] at q; cases q
    · rcases List.mem_cons.mp hm with rfl | hm
      · rw [bn _ ht.2.2] at q; cases q
      · rw [(K'.frames.mem hm).1] at q; cases q
  have nd1 := List.nodup_cons.mp nd
  have nd2 := List.nodup_cons.mp nd1.2
  have hl : ∀ q ∈ news, (hideAll s'.heap as).get? q.1 = some q.2 ∧ base.get? q.1 = none := fun q hq => by
    have hq' : q ∈ (e, exd dx t) :: (t, tupL vs) :: news := .tail _ (.tail _ hq)
    refine ⟨hideAll_get _ (N q hq').1 fun hm => ?_, bn _ (N q hq').2.2⟩
    have hm1 : q.1 ∈ news.map (·.1) := List.mem_map.mpr ⟨q, hq, rfl⟩
    rcases List.mem_cons.mp hm with e' | hm
    · exact nd1.1 (e' ▸ .tail _ hm1)
    · rcases List.mem_cons.mp hm with e' | hm
      · exact nd2.1 (e' ▸ hm1)
      · exact nfr q hq' hm
  have hFF := funFrames_hide K'.frames hin
  refine wpAny_leaving_firstW (a0 := .ref t) (base := hideAll s'.heap as) K'.stack (hFF.of_keeps fun b o hb _ => ⟨o, hb, rfl⟩) rfl he.1 (fun b o hb => of_hideAll _ hb) (hideAll_none _ (.head _)) rfl rfl rfl fun h' hL => ?_
  obtain ⟨k1, ⟨_, _, k2⟩, k3, k4⟩ := hL
  exact hQ h' ⟨⟨_, st, hl, ⟨k1, hideAll_none _ (.head _), k2, k3⟩, hideAll_none _ (.tail _ (.head _))⟩, Heap.TupAt.of_slots ⟨_, _, ht.1, rfl, rfl⟩ k4⟩ ((Heap.UpToSlots.of_keeps F.keep).trans k4)
end

section
variable {w : World} {A₀ : Around} {E : Value → Shared → Prop} {s' : Shared} {h₀ h : Heap} {outer : List Env} {L a e t : Addr} {m : Str → Option Value} {name : Str} {scope : Scope} {cd : Value}
  {vs : List Value} {b₀ : Stmt} {suite : List Stmt} {pos np : Pos} {rest : List ExceptHandler} {Q : Flow → Shared → Prop} {news : List (Addr × Obj)}
  {mean : ExcName → Option Value} {mg mb : Str → Option Value} {x : Str}
theorem caught_ex (hst : A₀.frames = some outer) (F : Fr h₀ L h m) (hsm : h.UpToSlots s'.heap) (R : RaisedK h₀ (envOf name scope L a cd :: outer) e (.ref 94) t vs news s'.heap)
    (X : (KH w.params).In h₀) (T : Top topProg lawLoose mean mg mb h₀) (ex : nsIn (KH w.params) mainGlobals x = some (some (.ref 94)))
    (k : ∀ h', Fr h₀ L h' m → News h₀ L h' news → h.UpToSlots h' →
      wpAny (model prog0 w) ((A₀.deeper (envOf name scope L a cd)).mark (some (.ref e))) (execs (b₀ :: suite) (envOf name scope L a cd)) Q E { s' with heap := h' })
    (hk : scope.kind = .function := by rfl) (hx : (envOf name scope L a cd).kindOf x = some .globalImplicit := by rfl) (hd : (x == ("__debug__" : Str)) = false := by decide)
    (hE : PassesOwnAt (model prog0 w) ((A₀.deeper (envOf name scope L a cd)).mark (some (.ref e))) (A₀.deeper (envOf name scope L a cd)) (envOf name scope L a cd) E := by passes_own) :
    wpAny (model prog0 w) (A₀.deeper (envOf name scope L a cd)) (noteFrame (.ref e) (envOf name scope L a cd))
      (fun _ s₂ => wpAny (model prog0 w) (A₀.deeper (envOf name scope L a cd)) (setFlight (.ref e) none) (fun _ s₃ =>
        wpAny (model prog0 w) (A₀.deeper (envOf name scope L a cd)) (handleBy (.ref e) (envOf name scope L a cd) (.ExceptHandler (some (.Name x np)) none (b₀ :: suite) pos :: rest)) Q E s₃) E s₂) E s' := by
  obtain ⟨⟨B, hB, hl, hfl, hnew⟩, htup⟩ := R
  have hL : B.get? L = none := by
    obtain ⟨_, ⟨L', _, hf, hn', _⟩, _⟩ := hfl.2.2.1
    obtain rfl : L = L' := Option.some.inj hf
    exact hn'
  refine wpAny_looks_onW (Around.frames_deeper hst) rfl hfl fun h₄ hheld₄ hsm₄ => ?_
  refine wpAny_landsW hheld₄ fun h₅ hheld hsm₅' => ?_
  have hsm₅ := hsm₄.trans hsm₅'
  have hheld' := flyingW_base hB hheld
  have F₅ := F.of_stays hheld'.1 (hsm.trans hsm₅)
  obtain ⟨ob, hob, hobc⟩ := hheld'.there
  refine wpAny_handleBy_cons (codeAny_handlers_test (name_K F₅ X (topRead_of T) ex ?_ hk hx hd)) (by intro q; cases q)
  obtain ⟨k0, k1, k2, k3, k5, hC⟩ := ex_obj (X.keeps F₅.keep)
  refine wpAny_excMatches_sub_self hC hob hobc (by decide +kernel) (codeAny_handlers_suite ?_)
  refine lands_againW hheld fun h₆ hfl₆ hsm₆ => ?_
  have hfl₆' := flyingW_base hB hfl₆
  have sm := (hsm.trans hsm₅).trans hsm₆
  have F₆ := F.of_stays hfl₆'.1 sm
  exact wpAny_passesOwnAt hE (k h₆ F₆ (fun q hq => ⟨hfl₆.1 _ _ (hl q hq).1, (fun z => by have := (hl q hq).1; rw [z, hL] at this; cases this), (hl q hq).2⟩) sm)
end
section
variable {w : World} {mean : ExcName → Option Value} {mg mb : Str → Option Value} {A₀ : Around} {h₀ : Heap} {env : Env} {L : Addr} {m : Str → Option Value} {dp un : Nat} {s : Shared} {news : List (Addr × Obj)}
  {Q : Value → Shared → Prop} {E : Value → Shared → Prop} {name qual : Str} {fs : Stmt} {dV kV doc pm cdv ct oc : Value} {an od : Option Addr} {osl : Array (Option Value)} {f : Addr}
/-- a def of KH, called from the bottom frame; its end is told of the heap alone (frames may have been touched) -/
theorem enter0 (X : (KH w.params).In h₀) (T : Top topProg lawLoose mean mg mb h₀) (B : Below A₀ h₀ [] h₀) (F : Fr h₀ L s.heap m) (N : News h₀ L s.heap news) (hf : env.frame = some L) (hk : env.scope.kind = .function)
    (ho : (KH w.params).lookup f = some ⟨oc, od, .func (FN name qual fs dV kV doc pm an cdv ct), osl⟩) (hcd : codeIn (KH w.params) cdv qual = true) (hroom : dp < recursionLimit)
    (hbind : BindsTo s (FN name qual fs dV kV doc pm an cdv ct) ⟨[], []⟩ []) {body : List Stmt} (hb : fBody fs = body)
    (h : ∀ g L' h₁, Fr h₀ L g m → Fr g L' h₁ (fun y => List.lookup y []) → News g L' h₁ news → Below (AR dp un env []) h₀ (env :: []) g → (KH w.params).In g → Top topProg lawLoose mean mg mb g → h₀.objs.size ≤ L' → L ≠ L' →
      wpAny (model prog0 w) (AR (dp + 1) (un + 3) (envOf qual (fScope fs) L' f cdv) (env :: [])) (execs body (envOf qual (fScope fs) L' f cdv))
        (fun fl s' => Q (match fl with | .ret v => v | _ => .none) s')
        (fun _ _ => False) { s with heap := h₁, toks := s.toks + 0 })
    (hco : (fScope fs).isCoroutine = false) (hgen : (fScope fs).isGenerator = false) (hk' : (fScope fs).kind = .function)
    (hcell : ∀ x ∈ (fScope fs).names, x.2 ≠ .cell) : wpAny (model prog0 w) (AR dp un env []) (call (.ref f) []) Q E s := by
  subst hb
  obtain ⟨FG, BG, st, lv⟩ := groundX (R := fun _ _ => True) (A := AR dp un env []) B F N rfl hf hk
  refine wpAny_call (codeAny_call_def (fd := FN name qual fs dV kV doc pm an cdv ct) (body := fBody fs) (binds := []) hroom ((X.keeps F.keep) _ _ ho) rfl (T.nolimit.keeps F.keep) (codeRec_of (X.keeps F.keep) hcd) rfl hbind hcell (fun y hy => nomatch hy) (fun h₁ hns hk₁ => ?_) hco hgen hk')
  have FL : L < s.heap.objs.size := by
    obtain ⟨o, _, _, e, _⟩ := F.ns
    exact Heap.lt_size e
  exact wpAny_mono (h _ s.heap.objs.size h₁ FG ⟨hns, fun b o e => hk₁ b o (of_hideAll _ e), Nat.le_of_eq (hideAll_size _ _)⟩
    (fun p hp => ⟨hk₁ _ _ (N p hp).1, Nat.ne_of_lt (Heap.lt_size (N p hp).1), hideAll_none _ (List.mem_map_of_mem hp)⟩) BG (X.keeps st) (T.keeps st) (Nat.le_trans F.above (Nat.le_of_lt FL)) (Nat.ne_of_lt FL)) (fun fl s' hl => hl) fun _ _ y => y.elim
end

section
variable {w : World} {A : Around} {E : Value → Shared → Prop} {s : Shared} {h₀ : Heap} {L : Addr} {m : Str → Option Value} {news : List (Addr × Obj)}
theorem ex_set {x t : Addr} {v : Value} {Q : Unit → Shared → Prop} (F : Fr h₀ L s.heap m) (N : News h₀ L s.heap ((x, exo t) :: news)) (S : ND (x :: news.map (·.1))) (X : (KH w.params).In h₀)
    (h : ∀ h' dx, Fr h₀ L h' m → News h₀ L h' ((x, exd dx t) :: news) → Q () { s with heap := h', toks := s.toks + 2 }) :
    wpAny (model prog0 w) A (setAttr (.ref x) "message" v) Q E s := by
  have hx := N _ (.head _)
  refine ex_store (X.keeps F.keep) hx.1 fun h' dx k1 k2 k3 => h h' dx ⟨F.ns.at' fun o e => k1 L o (Ne.symm hx.2.1) e, fun b o e => k1 b o (fun q => by rw [q, hx.2.2] at e; cases e) (F.keep b o e), F.above⟩ fun p hp => ?_
  rcases List.mem_cons.mp hp with rfl | hp
  · exact ⟨k3, hx.2⟩
  · exact ⟨k1 _ _ (fun q => (List.nodup_cons.mp S).1 (q ▸ List.mem_map.mpr ⟨p, hp, rfl⟩)) (N p (.tail _ hp)).1, (N p (.tail _ hp)).2⟩
end
theorem fillIt16 : PySem.Challenge.rw_pb0451_01 = PySem.Challenge.rw_pb0451_01 ∧ KH = KH := by k_fill; exact ⟨rfl, rfl⟩
theorem klines_C16_0 : True := by
  k_with_none
  (k_with "subscriptTail Name Constant ref int" => ((k_here; (with_reducible show wpAny _ _ (subscriptTail _ _ (Value.ref _) (Value.int _ _)) _ _ _); (with_unfolding_all refine' item_litK ?z73ea9d_k1 ?z73ea9d_k2 ?z73ea9d_k3 ?z73ea9d_k4 ?_ ?z73ea9d_k6; (case z73ea9d_k1 => is_list); (case z73ea9d_k2 => decide); (case z73ea9d_k3 => decide); (case z73ea9d_k4 => rfl); (case z73ea9d_k6 => with_unfolding_all rfl); k_whole))))
  (k_with "ENTER" => (((case k6 => k_is); (case k7 => k_is); (case k8 => omega); (case k9 => exact BindsTo.of_eq rfl); (case kB => (conv => lhs; whnf)); (case kL => exact locs rfl); (case c2 => exact rfl); (case c3 => exact rfl); (case c4 => exact rfl); (case c5 => decide); intro g' L' h' HG' FG' F' N' B' X' T' l'; (try dsimp only); k_fold)))
  (k_with "GO" => (repeat' (first | (k_unfold; (try dsimp only)) | (k_end; wrow_close) | walk1 | (dsimp only; walk1))))
  (k_with "ATF" => (first | refine' AtF.head | (refine' AtF.tail ?zaeb911_b; (case zaeb911_b => k_extra "ATF"))))
  (k_with "AT" => (first | refine' At.head | (refine' At.tail ?z4c4c10_b; (case z4c4c10_b => k_extra "AT"))))
  (k_with "M k_upd" => ((rename ND _ => hS; refine' upd_sd ?z531fe4_a hS ?z531fe4_e; (case z531fe4_a => k_extra "AT"); (case z531fe4_e => rfl))))
  (k_with "M k_updF" => ((rename ND _ => hS; refine' updF_sd ?zc7fe0e_a hS ?zc7fe0e_e; (case zc7fe0e_a => k_extra "ATF"); (case zc7fe0e_e => rfl))))
  (k_with "M kn_among" => ((simp [codeAmong, rawInt]; done)))
  (k_with "M kn_triples" => ((simp [TriplesOk, rawInt]; done)))
  (k_with "M k_room" => ((first | omega | ((try simp only [depth_mark, depth_under_make, depth_under_kw, depth_in1, depth_deeper, depth_caller]); omega))))
  (k_with "SUB" => (first | exact List.forall_mem_nil _ | (refine' List.forall_mem_cons.mpr ⟨?z3be472_h, ?z3be472_t⟩; (case z3be472_h => k_mem); (case z3be472_t => k_extra "SUB"))))
  (k_with "ATS" => (first | refine' Ats.nil | (refine' Ats.hit ?z9e6f72_b; (case z9e6f72_b => k_extra "ATS")) | (refine' Ats.skip ?z9e6f72_b; (case z9e6f72_b => k_extra "ATS"))))
  (k_with "CX" => ((refine' ⟨?za4188e_x1, ?za4188e_x2, ?za4188e_x3, ?za4188e_x4, ?za4188e_x5⟩; (case za4188e_x1 => k_asm); (case za4188e_x2 => k_asm); (case za4188e_x3 => k_asm); (case za4188e_x4 => k_asm); (case za4188e_x5 => first | rfl | assumption))))
  (k_with "NSUB" => ((refine' news_sub ?za05c2b_N ?za05c2b_s; (case za05c2b_N => (rename News _ _ _ _ => oN; exact oN)); (case za05c2b_s => k_extra "SUB"))))
  (k_with "getMethod ref" => ((k_here; (with_reducible show wpAny _ _ (getMethod (Value.ref _) (Str.ofString "get") _) _ _ _); k_dflt (refine' kdg_method (knd := intKind prog0 _) ?z1e447a_N ?z1e447a_m ?z1e447a_d ?_; (case z1e447a_N => k_asm); (case z1e447a_m => k_mem); (case z1e447a_d => assumption)))))
  (k_with "call builtin:dict.get" => ((k_here; k_dflt (refine' kdg_get1 (knd := intKind prog0 _) ?z9e4d13_N ?z9e4d13_m ?z9e4d13_d ?z9e4d13_l ?z9e4d13_k _ rfl ?_; (case z9e4d13_N => k_asm); (case z9e4d13_m => k_mem); (case z9e4d13_d => assumption); (case z9e4d13_l => assumption); (case z9e4d13_k => exact intKind_is _ _ _ _)))))
  (k_with "KSEL" => (first | exact fun _ h => absurd h List.not_mem_nil | (refine' List.forall_mem_cons.mpr ⟨?zf64061_h, ?zf64061_t⟩; (case zf64061_h => first | exact Or.inl (by k_mem) | (refine' Or.inr ⟨_, News.get ?zf64061_n1 ?zf64061_m1, News.get ?zf64061_n2 ?zf64061_m2⟩; (case zf64061_n1 => k_asm); (case zf64061_m1 => k_mem); (case zf64061_n2 => k_asm); (case zf64061_m2 => k_mem))); (case zf64061_t => k_extra "KSEL"))))
  (k_with "KEPT" => ((refine' Kept.sel (kept_of ?z6ac77d_hg ?z6ac77d_f) ?z6ac77d_s; (case z6ac77d_hg => assumption); (case z6ac77d_f => assumption); (case z6ac77d_s => k_extra "KSEL"))))
  (k_with "SUBM" => (first | exact fun _ h => absurd h List.not_mem_nil | (refine' List.forall_mem_cons.mpr ⟨?zaff134_h, ?zaff134_t⟩; (case zaff134_h => k_mem); (case zaff134_t => k_extra "SUBM"))))
  (k_with "FRESH" => ((refine' fresh_of ?z9e8148_hg ?z9e8148_n ?z9e8148_m ?z9e8148_nd ?z9e8148_hs; (case z9e8148_hg => assumption); (case z9e8148_n => assumption); (case z9e8148_m => k_mem); (case z9e8148_nd => first | assumption | exact ND.tl (by assumption) | exact ND.tl (ND.tl (by assumption)) | exact ND.tl (ND.tl (ND.tl (by assumption)))); (case z9e8148_hs => k_extra "SUBM"))))
  (k_with "AT?" => ((refine' News.get ?z4603e9_n1 ?z4603e9_m1; (case z4603e9_n1 => k_asm); (case z4603e9_m1 => k_mem))))
  (k_with "NDSUB" => ((refine' ND.sub ?zb41ab3_s ?zb41ab3_l; (case zb41ab3_s => assumption); (case zb41ab3_l => k_extra "SUBL"))))
  (k_with "SUBL" => (first | exact List.nil_sublist _ | (refine' List.Sublist.cons_cons _ ?ze75662_b; (case ze75662_b => k_extra "SUBL")) | (refine' List.Sublist.cons _ ?ze75662_b; (case ze75662_b => k_extra "SUBL"))))
  (k_with "NDSUB" => (first | (refine' ND.sub ?ze76779_s ?ze76779_l; (case ze76779_s => assumption); (case ze76779_l => k_extra "SUBL")) | (refine' ND.p3 (ND.sub ?ze76779_s ?ze76779_l); (case ze76779_s => assumption); (case ze76779_l => k_extra "SUBL"))))
  (k_with "NEQ" => ((rename ND _ => hS; first | exact ND.ne_l hS (by k_mem) | exact ND.ne_r hS (by k_mem) | (have hS2 := ND.tl hS; k_extra "NEQ"))))
  (k_with "PICK" => (first | refine' Pick.head | (refine' Pick.tail ?z677e40_b; (case z677e40_b => k_extra "PICK"))))
  (k_with "RangeRest" => ((with_unfolding_all first | (refine RangeRest.succ (fun t' h' tk' F' N' => ?_)) | (refine RangeRest.zero (fun h' tk' F' N' => ?_); rename ND _ => hS; have hS9 := ND.tl hS))))
  (k_with "UnrEnd" => ((refine' unrEnd_pick ?z76e4c1_s ?z76e4c1_p ?_; (case z76e4c1_s => assumption); (case z76e4c1_p => k_extra "PICK"); intro hS9; first | ktu_endR | k_unrEnd)))
  (k_with "M ktu_off" => ((refine' Or.inl ?z3326b3_h; (case z3326b3_h => (try dsimp only); k_extra "NEQ"))))
  (k_with "eval List" => ((k_here; k_dflt (refine' disp_list ?z72c816_F ?z72c816_N ?z72c816_hk ?z72c816_he ?z72c816_hz ?_; (case z72c816_F => k_asm); (case z72c816_N => k_asm); (case z72c816_hk => first | rfl | assumption); (case z72c816_he => exact rfl); (case z72c816_hz => exact rfl)); intro l' h' F' N' l1; (try k_lt l1))))
  (k_with "eval Tuple" => ((k_here; k_dflt (refine' disp_tuple ?zcd943b_F ?zcd943b_N ?zcd943b_hk ?zcd943b_he ?zcd943b_hz ?_; (case zcd943b_F => k_asm); (case zcd943b_N => k_asm); (case zcd943b_hk => first | rfl | assumption); (case zcd943b_he => exact rfl); (case zcd943b_hz => exact rfl)); intro l' h' F' N' l1; (try k_lt l1))))
  (k_with "spliced" => ((k_here; (with_reducible show wpAny _ _ (spliced (backTo _ (starEach (_ :: _) _))) _ _ _); k_dflt (refine' simp_all ?z919f57_hk ?z919f57_F ?z919f57_he ?_; (case z919f57_F => k_asm); (case z919f57_hk => first | rfl | assumption); (case z919f57_he => exact rfl); try dsimp only))))
  (k_with "setAttr ref" => ((k_here; (with_reducible show wpAny _ _ (setAttr (Value.ref _) _ _) _ _ _); k_dflt (refine' ex_set ?z5f510d_F ?z5f510d_N ?z5f510d_S ?z5f510d_X ?_; (case z5f510d_F => k_asm); (case z5f510d_N => k_asm); (case z5f510d_S => (rename ND _ => hS; exact hS)); (case z5f510d_X => k_asm)); intro h' dx' F' N')))
  trivial
section
variable {w : World} {mean : ExcName → Option Value} {mg mb : Str → Option Value} {A₀ : Around} {base h₀ : Heap} {outer : List Env} {cn : Str} {cs : Scope} {L ea : Addr} {ccd : Value} {cl : List (Str × Addr)} {m : Str → Option Value} {dp un : Nat} {s : Shared} {Q : Value → Shared → Prop} {E : Value → Shared → Prop}
theorem ex_made {news : List (Addr × Obj)} {as : List Addr} {v : Value} (C : Cx w mean mg mb A₀ base h₀ outer L m cs s.heap) (N : News h₀ L s.heap news) (S : ND as) (e : news.map (·.1) = as) (hd : dp + 6 < recursionLimit)
    (k : ∀ (x dx t : Addr) (tk : Nat) h', Fr h₀ L h' m → News h₀ L h' ((x, exd dx t) :: (t, tupL [v]) :: news) → ND (x :: t :: as) → Q (.ref x) { s with heap := h', toks := tk }) :
    wpAny (model prog0 w) (AR dp un (envX cn cs L ea ccd cl) outer) (call (.ref 94) [v]) Q E s := by
  subst e
  obtain ⟨X, T, B, F, hk⟩ := C
  refine ex_call (X.keeps F.keep) fun h1 x hm => ?_
  obtain ⟨t, hx, ht0, ht⟩ := hm.there
  have F1 : Fr h₀ L h1 m := F.keeps hm.keeps
  have N0 : News h₀ L h1 ((t, tupL [v]) :: news) := with_back1 (ch := []) N S rfl (fun b o e _ => hm.keeps b o e) (List.forall_mem_nil _) ht0 ht F Ats.nil fun x => x
  have N1 : News h₀ L h1 ((x, exo t) :: (t, tupL [v]) :: news) := fun p hp => by
    rcases List.mem_cons.mp hp with rfl | hp
    · exact (with_back1 (ch := []) N S rfl (fun b o e _ => hm.keeps b o e) (List.forall_mem_nil _) hm.new hx F Ats.nil fun z => z) _ (.head _)
    · exact N0 p hp
  have St : ND (t :: news.map (·.1)) := ND.fresh S N rfl ht0
  have Sx : ND (x :: t :: news.map (·.1)) := ND.fresh2 St N rfl hm.new fun q => by
    subst q
    rw [hx] at ht; cases ht
  refine' enterC (binds := [(("self" : Str), .ref x), (("message" : Str), v)]) X T B F1 N1 rfl rfl hk ?k6 ?k7 ?k8 ?k9 ?kL ?kB ?_ ?c2 ?c3 ?c4 ?c5
  (case k8 => k_room)
  (case k6 => k_is)
  (case k7 => k_is)
  (case k9 => exact BindsTo.of_eq rfl)
  (case kB => (conv => lhs; whnf))
  (case kL => exact locs rfl)
  (case c2 => exact rfl)
  (case c3 => exact rfl)
  (case c4 => exact rfl)
  (case c5 => decide)
  intro g' L' h' HG' FG' F' N' B' X' T' l'
  (try dsimp only)
  k_fold
  k_extra "GO"
  rename Fr h₀ L _ m => hF
  rename News h₀ L _ _ => hN
  exact k _ _ _ _ _ hF hN Sx
end

theorem Fr.weak {h₀ g h : Heap} {L : Addr} {m : Str → Option Value} (F : Fr g L h m) (st : ∀ b o, h₀.get? b = some o → g.get? b = some o) (hle : h₀.objs.size ≤ L) : Fr h₀ L h m := ⟨F.ns, fun b o e => F.keep b o (st b o e), hle⟩
theorem frame_news {g g₂ h' h₀ : Heap} {L L' : Addr} {m m' : Str → Option Value} {news : List (Addr × Obj)} (U : g₂.UpToSlots h') (N : News h₀ L' h' news) (F2 : Fr g L' g₂ m') (FG : Fr h₀ L g m) (hL : L ≠ L') :
    ∃ o, News h₀ L' h' ((L, o) :: news) ∧ ∀ h'' : Heap, h''.get? L = some o → h''.Ns L m := by
  obtain ⟨oL, es, ep, h1, h2, h3⟩ := FG.ns
  obtain ⟨sl, hs⟩ := U L oL (F2.keep L oL h1) fun vs q => by rw [h2] at q; cases q
  refine ⟨{ oL with slots := sl }, fun p hp => ?_, fun h'' e => ⟨_, es, ep, e, h2, h3⟩⟩
  rcases List.mem_cons.mp hp with rfl | hp
  · refine ⟨hs, hL, ?_⟩
    cases q : h₀.get? L with
    | none => rfl
    | some o => exact absurd (Nat.lt_of_lt_of_le (Heap.lt_size q) FG.above) (Nat.lt_irrefl _)
  · exact N p hp
theorem fillIt17 : PySem.Challenge.rw_pb0451_01 = PySem.Challenge.rw_pb0451_01 ∧ KH = KH := by k_fill; exact ⟨rfl, rfl⟩
theorem klines_C17_0 : True := by
  k_with_none
  (k_with "subscriptTail Name Constant ref int" => ((k_here; (with_reducible show wpAny _ _ (subscriptTail _ _ (Value.ref _) (Value.int _ _)) _ _ _); (with_unfolding_all refine' item_litK ?z73ea9d_k1 ?z73ea9d_k2 ?z73ea9d_k3 ?z73ea9d_k4 ?_ ?z73ea9d_k6; (case z73ea9d_k1 => is_list); (case z73ea9d_k2 => decide); (case z73ea9d_k3 => decide); (case z73ea9d_k4 => rfl); (case z73ea9d_k6 => with_unfolding_all rfl); k_whole))))
  (k_with "ENTER" => (((case k6 => k_is); (case k7 => k_is); (case k8 => omega); (case k9 => exact BindsTo.of_eq rfl); (case kB => (conv => lhs; whnf)); (case kL => exact locs rfl); (case c2 => exact rfl); (case c3 => exact rfl); (case c4 => exact rfl); (case c5 => decide); intro g' L' h' HG' FG' F' N' B' X' T' l'; (try dsimp only); k_fold)))
  (k_with "GO" => (repeat' (first | (k_unfold; (try dsimp only)) | (k_end; wrow_close) | walk1 | (dsimp only; walk1))))
  (k_with "ATF" => (first | refine' AtF.head | (refine' AtF.tail ?zaeb911_b; (case zaeb911_b => k_extra "ATF"))))
  (k_with "AT" => (first | refine' At.head | (refine' At.tail ?z4c4c10_b; (case z4c4c10_b => k_extra "AT"))))
  (k_with "M k_upd" => ((rename ND _ => hS; refine' upd_sd ?z531fe4_a hS ?z531fe4_e; (case z531fe4_a => k_extra "AT"); (case z531fe4_e => rfl))))
  (k_with "M k_updF" => ((rename ND _ => hS; refine' updF_sd ?zc7fe0e_a hS ?zc7fe0e_e; (case zc7fe0e_a => k_extra "ATF"); (case zc7fe0e_e => rfl))))
  (k_with "M kn_among" => ((simp [codeAmong, rawInt]; done)))
  (k_with "M kn_triples" => ((simp [TriplesOk, rawInt]; done)))
  (k_with "M k_room" => ((first | omega | ((try simp only [depth_mark, depth_under_make, depth_under_kw, depth_in1, depth_deeper, depth_caller]); omega))))
  (k_with "SUB" => (first | exact List.forall_mem_nil _ | (refine' List.forall_mem_cons.mpr ⟨?z3be472_h, ?z3be472_t⟩; (case z3be472_h => k_mem); (case z3be472_t => k_extra "SUB"))))
  (k_with "ATS" => (first | refine' Ats.nil | (refine' Ats.hit ?z9e6f72_b; (case z9e6f72_b => k_extra "ATS")) | (refine' Ats.skip ?z9e6f72_b; (case z9e6f72_b => k_extra "ATS"))))
  (k_with "CX" => ((refine' ⟨?za4188e_x1, ?za4188e_x2, ?za4188e_x3, ?za4188e_x4, ?za4188e_x5⟩; (case za4188e_x1 => k_asm); (case za4188e_x2 => k_asm); (case za4188e_x3 => k_asm); (case za4188e_x4 => k_asm); (case za4188e_x5 => first | rfl | assumption))))
  (k_with "NSUB" => ((refine' news_sub ?za05c2b_N ?za05c2b_s; (case za05c2b_N => (rename News _ _ _ _ => oN; exact oN)); (case za05c2b_s => k_extra "SUB"))))
  (k_with "getMethod ref" => ((k_here; (with_reducible show wpAny _ _ (getMethod (Value.ref _) (Str.ofString "get") _) _ _ _); k_dflt (refine' kdg_method (knd := intKind prog0 _) ?z1e447a_N ?z1e447a_m ?z1e447a_d ?_; (case z1e447a_N => k_asm); (case z1e447a_m => k_mem); (case z1e447a_d => assumption)))))
  (k_with "call builtin:dict.get" => ((k_here; k_dflt (refine' kdg_get1 (knd := intKind prog0 _) ?z9e4d13_N ?z9e4d13_m ?z9e4d13_d ?z9e4d13_l ?z9e4d13_k _ rfl ?_; (case z9e4d13_N => k_asm); (case z9e4d13_m => k_mem); (case z9e4d13_d => assumption); (case z9e4d13_l => assumption); (case z9e4d13_k => exact intKind_is _ _ _ _)))))
  (k_with "KSEL" => (first | exact fun _ h => absurd h List.not_mem_nil | (refine' List.forall_mem_cons.mpr ⟨?zf64061_h, ?zf64061_t⟩; (case zf64061_h => first | exact Or.inl (by k_mem) | (refine' Or.inr ⟨_, News.get ?zf64061_n1 ?zf64061_m1, News.get ?zf64061_n2 ?zf64061_m2⟩; (case zf64061_n1 => k_asm); (case zf64061_m1 => k_mem); (case zf64061_n2 => k_asm); (case zf64061_m2 => k_mem))); (case zf64061_t => k_extra "KSEL"))))
  (k_with "KEPT" => ((refine' Kept.sel (kept_of ?z6ac77d_hg ?z6ac77d_f) ?z6ac77d_s; (case z6ac77d_hg => assumption); (case z6ac77d_f => assumption); (case z6ac77d_s => k_extra "KSEL"))))
  (k_with "SUBM" => (first | exact fun _ h => absurd h List.not_mem_nil | (refine' List.forall_mem_cons.mpr ⟨?zaff134_h, ?zaff134_t⟩; (case zaff134_h => k_mem); (case zaff134_t => k_extra "SUBM"))))
  (k_with "FRESH" => ((refine' fresh_of ?z9e8148_hg ?z9e8148_n ?z9e8148_m ?z9e8148_nd ?z9e8148_hs; (case z9e8148_hg => assumption); (case z9e8148_n => assumption); (case z9e8148_m => k_mem); (case z9e8148_nd => first | assumption | exact ND.tl (by assumption) | exact ND.tl (ND.tl (by assumption)) | exact ND.tl (ND.tl (ND.tl (by assumption)))); (case z9e8148_hs => k_extra "SUBM"))))
  (k_with "AT?" => ((refine' News.get ?z4603e9_n1 ?z4603e9_m1; (case z4603e9_n1 => k_asm); (case z4603e9_m1 => k_mem))))
  (k_with "NDSUB" => ((refine' ND.sub ?zb41ab3_s ?zb41ab3_l; (case zb41ab3_s => assumption); (case zb41ab3_l => k_extra "SUBL"))))
  (k_with "SUBL" => (first | exact List.nil_sublist _ | (refine' List.Sublist.cons_cons _ ?ze75662_b; (case ze75662_b => k_extra "SUBL")) | (refine' List.Sublist.cons _ ?ze75662_b; (case ze75662_b => k_extra "SUBL"))))
  (k_with "NDSUB" => (first | (refine' ND.sub ?ze76779_s ?ze76779_l; (case ze76779_s => assumption); (case ze76779_l => k_extra "SUBL")) | (refine' ND.p3 (ND.sub ?ze76779_s ?ze76779_l); (case ze76779_s => assumption); (case ze76779_l => k_extra "SUBL"))))
  (k_with "NEQ" => ((rename ND _ => hS; first | exact ND.ne_l hS (by k_mem) | exact ND.ne_r hS (by k_mem) | (have hS2 := ND.tl hS; k_extra "NEQ"))))
  (k_with "PICK" => (first | refine' Pick.head | (refine' Pick.tail ?z677e40_b; (case z677e40_b => k_extra "PICK"))))
  (k_with "RangeRest" => ((with_unfolding_all first | (refine RangeRest.succ (fun t' h' tk' F' N' => ?_)) | (refine RangeRest.zero (fun h' tk' F' N' => ?_); rename ND _ => hS; have hS9 := ND.tl hS))))
  (k_with "UnrEnd" => ((refine' unrEnd_pick ?z76e4c1_s ?z76e4c1_p ?_; (case z76e4c1_s => assumption); (case z76e4c1_p => k_extra "PICK"); intro hS9; first | ktu_endR | k_unrEnd)))
  (k_with "M ktu_off" => ((refine' Or.inl ?z3326b3_h; (case z3326b3_h => (try dsimp only); k_extra "NEQ"))))
  (k_with "eval List" => ((k_here; k_dflt (refine' disp_list ?z72c816_F ?z72c816_N ?z72c816_hk ?z72c816_he ?z72c816_hz ?_; (case z72c816_F => k_asm); (case z72c816_N => k_asm); (case z72c816_hk => first | rfl | assumption); (case z72c816_he => exact rfl); (case z72c816_hz => exact rfl)); intro l' h' F' N' l1; (try k_lt l1))))
  (k_with "eval Tuple" => ((k_here; k_dflt (refine' disp_tuple ?zcd943b_F ?zcd943b_N ?zcd943b_hk ?zcd943b_he ?zcd943b_hz ?_; (case zcd943b_F => k_asm); (case zcd943b_N => k_asm); (case zcd943b_hk => first | rfl | assumption); (case zcd943b_he => exact rfl); (case zcd943b_hz => exact rfl)); intro l' h' F' N' l1; (try k_lt l1))))
  (k_with "spliced" => ((k_here; (with_reducible show wpAny _ _ (spliced (backTo _ (starEach (_ :: _) _))) _ _ _); k_dflt (refine' simp_all ?z919f57_hk ?z919f57_F ?z919f57_he ?_; (case z919f57_F => k_asm); (case z919f57_hk => first | rfl | assumption); (case z919f57_he => exact rfl); try dsimp only))))
  (k_with "call ref" => ((k_here; (with_reducible show wpAny _ _ (call (Value.ref 485) _) _ _ _); k_dflt (refine' prog_c ?z654ca0_c ?z654ca0_n ?z654ca0_s ?z654ca0_e ?z654ca0_d ?z654ca0_u ?_; (case z654ca0_c => k_extra "CX"); (case z654ca0_n => k_asm); (case z654ca0_s => (rename ND _ => hS; exact hS)); (case z654ca0_e => exact rfl); (case z654ca0_d => omega); (case z654ca0_u => omega); intro i' d' ops' t1' t2' t3' t4' t5' t6' t7' t8' n' tk' v2' v3' v4' v5' v6' v7' v8' h' F' N' S9'))))
  (k_with "exec Raise some none" => ((k_here; k_dflt (refine' ex_raise ?z7bb8b5_hh ?_; (case z7bb8b5_hh => rfl)))))
  (k_with "call ref" => ((k_here; (with_reducible show wpAny _ _ (call (Value.ref 94) _) _ _ _); k_dflt (refine' ex_made ?zbd1a20_c ?zbd1a20_n ?zbd1a20_s ?zbd1a20_e ?zbd1a20_d ?_; (case zbd1a20_c => k_extra "CX"); (case zbd1a20_n => k_asm); (case zbd1a20_s => (rename ND _ => hS; exact hS)); (case zbd1a20_e => exact rfl); (case zbd1a20_d => k_room); intro x' dx' t' tk' h' F' N' S9'; refine' ⟨x', dx', t', rfl, ?zbd1a20_XX, ?zbd1a20_GG, ?_⟩; (case zbd1a20_XX => exact Frag.In.keeps (by k_asm) (Fr.keep F')); (case zbd1a20_GG => exact (N' _ (List.Mem.head _)).1)))))
  (k_with "leaving ref" => ((k_here; k_dflt (refine' leave_exK ?zf38191_K ?zf38191_F ?zf38191_N ?zf38191_nd ?_; (case zf38191_K => assumption); (case zf38191_F => assumption); (case zf38191_N => assumption); (case zf38191_nd => (rename ND _ => hS; exact hS)); intro h' R' U'))))
  (k_with "noteFrame ref" => ((k_here; k_dflt (refine' caught_ex (A₀ := AR _ _ _ _) ?za94dd0_st ?za94dd0_F ?za94dd0_U ?za94dd0_R ?za94dd0_X ?za94dd0_T ?za94dd0_ex ?_; (case za94dd0_R => assumption); (case za94dd0_U => assumption); (case za94dd0_st => rfl); (case za94dd0_X => assumption); (case za94dd0_T => assumption); (case za94dd0_ex => k_is); (case za94dd0_F => (refine' Fr.weak ?za94dd0_F1 (Fr.keep ?za94dd0_F2) ?za94dd0_l; (case za94dd0_F1 => assumption); (case za94dd0_F2 => assumption); (case za94dd0_l => assumption))); intro h' F' N' U'; obtain ⟨oL', N2', hL'⟩ := frame_news U' N' (by assumption) (by assumption) (by assumption); clear N'))))
  trivial
section
variable {w : World} {mean : ExcName → Option Value} {mg mb : Str → Option Value} {A₀ : Around} {base h₀ : Heap} {outer : List Env} {cn : Str} {cs : Scope} {L ea : Addr} {ccd : Value} {cl : List (Str × Addr)} {m : Str → Option Value} {dp un : Nat} {s : Shared} {Q : Value → Shared → Prop} {E : Value → Shared → Prop}
theorem refused_c {news : List (Addr × Obj)} {as : List Addr} (C : Cx w mean mg mb A₀ h₀ h₀ [] L m cs s.heap) (N : News h₀ L s.heap news) (S : ND as) (e : news.map (·.1) = as) (hd : dp + 25 < recursionLimit) (hu : un + 100 < cLine)
    (k : ∀ (tk : Nat) h', Fr h₀ L h' m → News h₀ L h' news → Q (.bool true) { s with heap := h', toks := tk }) :
    wpAny (model prog0 w) (AR dp un (envX cn cs L ea ccd cl) []) (call (.ref 562) []) Q E s := by
  subst e
  obtain ⟨X, T, B, F, hk⟩ := C
  refine' enter0 X T B F N rfl hk ?k6 ?k7 ?k8 ?k9 ?kB ?_ ?c2 ?c3 ?c4 ?c5
  (case k6 => k_is)
  (case k7 => k_is)
  (case k8 => omega)
  (case k9 => exact BindsTo.of_eq rfl)
  (case kB => (conv => lhs; whnf))
  (case c2 => exact rfl)
  (case c3 => exact rfl)
  (case c4 => exact rfl)
  (case c5 => decide)
  intro g' L' h' FG' F' N' B' X' T' l1 l2
  (try dsimp only)
  k_fold
  k_extra "GO"
  rename News h₀ L' _ _ => hN
  rename Fr h₀ L' _ _ => hF
  rename (∀ h'' : Heap, h''.get? L = some _ → _) => hNs
  exact k _ _ ⟨hNs _ (hN _ (by first | exact .tail _ (.head _) | exact .head _)).1, hF.keep, F.above⟩ fun p hp => ⟨(hN p (by repeat (first | exact hp | refine List.Mem.tail _ ?_))).1, (N p hp).2⟩
end

theorem pool_nn {c : Int} {p : Prop} [Decidable p] : 0 ≤ (if -1 - c > c then -1 - c else c) * (if p then 1 else 0) := by split <;> split <;> omega
theorem fillIt19 : PySem.Challenge.rw_pb0451_01 = PySem.Challenge.rw_pb0451_01 ∧ KH = KH := by k_fill; exact ⟨rfl, rfl⟩
theorem klines_C18_0 : True := by
  k_with_none
  (k_with "subscriptTail Name Constant ref int" => ((k_here; (with_reducible show wpAny _ _ (subscriptTail _ _ (Value.ref _) (Value.int _ _)) _ _ _); (with_unfolding_all refine' item_litK ?z73ea9d_k1 ?z73ea9d_k2 ?z73ea9d_k3 ?z73ea9d_k4 ?_ ?z73ea9d_k6; (case z73ea9d_k1 => is_list); (case z73ea9d_k2 => decide); (case z73ea9d_k3 => decide); (case z73ea9d_k4 => rfl); (case z73ea9d_k6 => with_unfolding_all rfl); k_whole))))
  (k_with "ENTER" => (((case k6 => k_is); (case k7 => k_is); (case k8 => omega); (case k9 => exact BindsTo.of_eq rfl); (case kB => (conv => lhs; whnf)); (case kL => exact locs rfl); (case c2 => exact rfl); (case c3 => exact rfl); (case c4 => exact rfl); (case c5 => decide); intro g' L' h' HG' FG' F' N' B' X' T' l'; (try dsimp only); k_fold)))
  (k_with "GO" => (repeat' (first | (k_unfold; (try dsimp only)) | (k_end; wrow_close) | walk1 | (dsimp only; walk1))))
  (k_with "ATF" => (first | refine' AtF.head | (refine' AtF.tail ?zaeb911_b; (case zaeb911_b => k_extra "ATF"))))
  (k_with "AT" => (first | refine' At.head | (refine' At.tail ?z4c4c10_b; (case z4c4c10_b => k_extra "AT"))))
  (k_with "M k_upd" => ((rename ND _ => hS; refine' upd_sd ?z531fe4_a hS ?z531fe4_e; (case z531fe4_a => k_extra "AT"); (case z531fe4_e => rfl))))
  (k_with "M k_updF" => ((rename ND _ => hS; refine' updF_sd ?zc7fe0e_a hS ?zc7fe0e_e; (case zc7fe0e_a => k_extra "ATF"); (case zc7fe0e_e => rfl))))
  (k_with "M kn_among" => ((simp [codeAmong, rawInt]; done)))
  (k_with "M kn_triples" => ((simp [TriplesOk, rawInt]; done)))
  (k_with "M k_room" => ((first | omega | ((try simp only [depth_mark, depth_under_make, depth_under_kw, depth_in1, depth_deeper, depth_caller]); omega))))
  (k_with "SUB" => (first | exact List.forall_mem_nil _ | (refine' List.forall_mem_cons.mpr ⟨?z3be472_h, ?z3be472_t⟩; (case z3be472_h => k_mem); (case z3be472_t => k_extra "SUB"))))
  (k_with "ATS" => (first | refine' Ats.nil | (refine' Ats.hit ?z9e6f72_b; (case z9e6f72_b => k_extra "ATS")) | (refine' Ats.skip ?z9e6f72_b; (case z9e6f72_b => k_extra "ATS"))))
  (k_with "CX" => ((refine' ⟨?za4188e_x1, ?za4188e_x2, ?za4188e_x3, ?za4188e_x4, ?za4188e_x5⟩; (case za4188e_x1 => k_asm); (case za4188e_x2 => k_asm); (case za4188e_x3 => k_asm); (case za4188e_x4 => k_asm); (case za4188e_x5 => first | rfl | assumption))))
  (k_with "NSUB" => ((refine' news_sub ?za05c2b_N ?za05c2b_s; (case za05c2b_N => (rename News _ _ _ _ => oN; exact oN)); (case za05c2b_s => k_extra "SUB"))))
  (k_with "getMethod ref" => ((k_here; (with_reducible show wpAny _ _ (getMethod (Value.ref _) (Str.ofString "get") _) _ _ _); k_dflt (refine' kdg_method (knd := intKind prog0 _) ?z1e447a_N ?z1e447a_m ?z1e447a_d ?_; (case z1e447a_N => k_asm); (case z1e447a_m => k_mem); (case z1e447a_d => assumption)))))
  (k_with "call builtin:dict.get" => ((k_here; k_dflt (refine' kdg_get1 (knd := intKind prog0 _) ?z9e4d13_N ?z9e4d13_m ?z9e4d13_d ?z9e4d13_l ?z9e4d13_k _ rfl ?_; (case z9e4d13_N => k_asm); (case z9e4d13_m => k_mem); (case z9e4d13_d => assumption); (case z9e4d13_l => assumption); (case z9e4d13_k => exact intKind_is _ _ _ _)))))
  (k_with "KSEL" => (first | exact fun _ h => absurd h List.not_mem_nil | (refine' List.forall_mem_cons.mpr ⟨?zf64061_h, ?zf64061_t⟩; (case zf64061_h => first | exact Or.inl (by k_mem) | (refine' Or.inr ⟨_, News.get ?zf64061_n1 ?zf64061_m1, News.get ?zf64061_n2 ?zf64061_m2⟩; (case zf64061_n1 => k_asm); (case zf64061_m1 => k_mem); (case zf64061_n2 => k_asm); (case zf64061_m2 => k_mem))); (case zf64061_t => k_extra "KSEL"))))
  (k_with "KEPT" => ((refine' Kept.sel (kept_of ?z6ac77d_hg ?z6ac77d_f) ?z6ac77d_s; (case z6ac77d_hg => assumption); (case z6ac77d_f => assumption); (case z6ac77d_s => k_extra "KSEL"))))
  (k_with "SUBM" => (first | exact fun _ h => absurd h List.not_mem_nil | (refine' List.forall_mem_cons.mpr ⟨?zaff134_h, ?zaff134_t⟩; (case zaff134_h => k_mem); (case zaff134_t => k_extra "SUBM"))))
  (k_with "FRESH" => ((refine' fresh_of ?z9e8148_hg ?z9e8148_n ?z9e8148_m ?z9e8148_nd ?z9e8148_hs; (case z9e8148_hg => assumption); (case z9e8148_n => assumption); (case z9e8148_m => k_mem); (case z9e8148_nd => first | assumption | exact ND.tl (by assumption) | exact ND.tl (ND.tl (by assumption)) | exact ND.tl (ND.tl (ND.tl (by assumption)))); (case z9e8148_hs => k_extra "SUBM"))))
  (k_with "AT?" => ((refine' News.get ?z4603e9_n1 ?z4603e9_m1; (case z4603e9_n1 => k_asm); (case z4603e9_m1 => k_mem))))
  (k_with "NDSUB" => ((refine' ND.sub ?zb41ab3_s ?zb41ab3_l; (case zb41ab3_s => assumption); (case zb41ab3_l => k_extra "SUBL"))))
  (k_with "SUBL" => (first | exact List.nil_sublist _ | (refine' List.Sublist.cons_cons _ ?ze75662_b; (case ze75662_b => k_extra "SUBL")) | (refine' List.Sublist.cons _ ?ze75662_b; (case ze75662_b => k_extra "SUBL"))))
  (k_with "NDSUB" => (first | (refine' ND.sub ?ze76779_s ?ze76779_l; (case ze76779_s => assumption); (case ze76779_l => k_extra "SUBL")) | (refine' ND.p3 (ND.sub ?ze76779_s ?ze76779_l); (case ze76779_s => assumption); (case ze76779_l => k_extra "SUBL"))))
  (k_with "NEQ" => ((rename ND _ => hS; first | exact ND.ne_l hS (by k_mem) | exact ND.ne_r hS (by k_mem) | (have hS2 := ND.tl hS; k_extra "NEQ"))))
  (k_with "PICK" => (first | refine' Pick.head | (refine' Pick.tail ?z677e40_b; (case z677e40_b => k_extra "PICK"))))
  (k_with "RangeRest" => ((with_unfolding_all first | (refine RangeRest.succ (fun t' h' tk' F' N' => ?_)) | (refine RangeRest.zero (fun h' tk' F' N' => ?_); rename ND _ => hS; have hS9 := ND.tl hS))))
  (k_with "UnrEnd" => ((refine' unrEnd_pick ?z76e4c1_s ?z76e4c1_p ?_; (case z76e4c1_s => assumption); (case z76e4c1_p => k_extra "PICK"); intro hS9; first | ktu_endR | k_unrEnd)))
  (k_with "M ktu_off" => ((refine' Or.inl ?z3326b3_h; (case z3326b3_h => (try dsimp only); k_extra "NEQ"))))
  (k_with "eval List" => ((k_here; k_dflt (refine' disp_list ?z72c816_F ?z72c816_N ?z72c816_hk ?z72c816_he ?z72c816_hz ?_; (case z72c816_F => k_asm); (case z72c816_N => k_asm); (case z72c816_hk => first | rfl | assumption); (case z72c816_he => exact rfl); (case z72c816_hz => exact rfl)); intro l' h' F' N' l1; (try k_lt l1))))
  (k_with "eval Tuple" => ((k_here; k_dflt (refine' disp_tuple ?zcd943b_F ?zcd943b_N ?zcd943b_hk ?zcd943b_he ?zcd943b_hz ?_; (case zcd943b_F => k_asm); (case zcd943b_N => k_asm); (case zcd943b_hk => first | rfl | assumption); (case zcd943b_he => exact rfl); (case zcd943b_hz => exact rfl)); intro l' h' F' N' l1; (try k_lt l1))))
  (k_with "spliced" => ((k_here; (with_reducible show wpAny _ _ (spliced (backTo _ (starEach (_ :: _) _))) _ _ _); k_dflt (refine' simp_all ?z919f57_hk ?z919f57_F ?z919f57_he ?_; (case z919f57_F => k_asm); (case z919f57_hk => first | rfl | assumption); (case z919f57_he => exact rfl); try dsimp only))))
  trivial
section
variable {w : World} {mean : ExcName → Option Value} {mg mb : Str → Option Value} {A₀ : Around} {base h₀ : Heap} {outer : List Env} {cn : Str} {cs : Scope} {L ea : Addr} {ccd : Value} {cl : List (Str × Addr)} {m : Str → Option Value} {dp un : Nat} {s : Shared} {Q : Value → Shared → Prop} {E : Value → Shared → Prop}
theorem pool_c {l : Addr} {vs : List Value} {ns : List Int} {kt : Nat} {news : List (Addr × Obj)} {as : List Addr} (C : Cx w mean mg mb A₀ base h₀ outer L m cs s.heap) (N : News h₀ L s.heap news) (S : ND as) (e : news.map (·.1) = as) (hl : h₀.IsList l vs.toArray) (hi : IntsAre vs ns) (hn : ns.length ≤ 63) (hd : dp + 8 < recursionLimit) (hu : un + 60 < cLine)
    (k : ∀ (r : Addr) (a b : Int) (ta tb tk : Nat) h', 0 ≤ a → 0 ≤ b → b < 2147483647 → Fr h₀ L h' m → News h₀ L h' ((r, listOf #[.int a ta, .int b tb] 0) :: news) → ND (r :: as) → Q (.ref r) { s with heap := h', toks := tk }) :
    wpAny (model prog0 w) (AR dp un (envX cn cs L ea ccd cl) outer) (call (.ref 496) [.ref l, .int 0 kt]) Q E s := by
  subst e
  obtain ⟨X, T, B, F, hk⟩ := C
  refine' enter (binds := [(("script" : Str), .ref l), (("k" : Str), .int 0 kt)]) X T B F N rfl hk ?k6 ?k7 ?k8 ?k9 ?kL ?kB ?_ ?c2 ?c3 ?c4 ?c5
  k_extra "ENTER"
  rename Fr h₀ L _ m => hFg
  have hl2 := Fr.lst hFg hl
  k_extra "GO"
  all_goals (rename Fr h₀ L _ m => hF; rename News h₀ L _ _ => hN; rename ND _ => hS)
  all_goals exact k _ _ _ _ _ _ _ pool_nn (Int.fmod_nonneg_of_pos _ (by decide)) (Int.fmod_lt_of_pos _ (by decide)) hF hN hS
end

theorem fillIt20 : PySem.Challenge.rw_pb0451_01 = PySem.Challenge.rw_pb0451_01 ∧ KH = KH := by k_fill; exact ⟨rfl, rfl⟩
theorem klines_C19_0 : True := by
  k_with_none
  (k_with "subscriptTail Name Constant ref int" => ((k_here; (with_reducible show wpAny _ _ (subscriptTail _ _ (Value.ref _) (Value.int _ _)) _ _ _); (with_unfolding_all refine' item_litK ?z73ea9d_k1 ?z73ea9d_k2 ?z73ea9d_k3 ?z73ea9d_k4 ?_ ?z73ea9d_k6; (case z73ea9d_k1 => is_list); (case z73ea9d_k2 => decide); (case z73ea9d_k3 => decide); (case z73ea9d_k4 => rfl); (case z73ea9d_k6 => with_unfolding_all rfl); k_whole))))
  (k_with "ENTER" => (((case k6 => k_is); (case k7 => k_is); (case k8 => omega); (case k9 => exact BindsTo.of_eq rfl); (case kB => (conv => lhs; whnf)); (case kL => exact locs rfl); (case c2 => exact rfl); (case c3 => exact rfl); (case c4 => exact rfl); (case c5 => decide); intro g' L' h' HG' FG' F' N' B' X' T' l'; (try dsimp only); k_fold)))
  (k_with "GO" => (repeat' (first | (k_unfold; (try dsimp only)) | (k_end; wrow_close) | walk1 | (dsimp only; walk1))))
  (k_with "ATF" => (first | refine' AtF.head | (refine' AtF.tail ?zaeb911_b; (case zaeb911_b => k_extra "ATF"))))
  (k_with "AT" => (first | refine' At.head | (refine' At.tail ?z4c4c10_b; (case z4c4c10_b => k_extra "AT"))))
  (k_with "M k_upd" => ((rename ND _ => hS; refine' upd_sd ?z531fe4_a hS ?z531fe4_e; (case z531fe4_a => k_extra "AT"); (case z531fe4_e => rfl))))
  (k_with "M k_updF" => ((rename ND _ => hS; refine' updF_sd ?zc7fe0e_a hS ?zc7fe0e_e; (case zc7fe0e_a => k_extra "ATF"); (case zc7fe0e_e => rfl))))
  (k_with "M kn_among" => ((simp [codeAmong, rawInt]; done)))
  (k_with "M kn_triples" => ((simp [TriplesOk, rawInt]; done)))
  (k_with "M k_room" => ((first | omega | ((try simp only [depth_mark, depth_under_make, depth_under_kw, depth_in1, depth_deeper, depth_caller]); omega))))
  (k_with "SUB" => (first | exact List.forall_mem_nil _ | (refine' List.forall_mem_cons.mpr ⟨?z3be472_h, ?z3be472_t⟩; (case z3be472_h => k_mem); (case z3be472_t => k_extra "SUB"))))
  (k_with "ATS" => (first | refine' Ats.nil | (refine' Ats.hit ?z9e6f72_b; (case z9e6f72_b => k_extra "ATS")) | (refine' Ats.skip ?z9e6f72_b; (case z9e6f72_b => k_extra "ATS"))))
  (k_with "CX" => ((refine' ⟨?za4188e_x1, ?za4188e_x2, ?za4188e_x3, ?za4188e_x4, ?za4188e_x5⟩; (case za4188e_x1 => k_asm); (case za4188e_x2 => k_asm); (case za4188e_x3 => k_asm); (case za4188e_x4 => k_asm); (case za4188e_x5 => first | rfl | assumption))))
  (k_with "NSUB" => ((refine' news_sub ?za05c2b_N ?za05c2b_s; (case za05c2b_N => (rename News _ _ _ _ => oN; exact oN)); (case za05c2b_s => k_extra "SUB"))))
  (k_with "getMethod ref" => ((k_here; (with_reducible show wpAny _ _ (getMethod (Value.ref _) (Str.ofString "get") _) _ _ _); k_dflt (refine' kdg_method (knd := intKind prog0 _) ?z1e447a_N ?z1e447a_m ?z1e447a_d ?_; (case z1e447a_N => k_asm); (case z1e447a_m => k_mem); (case z1e447a_d => assumption)))))
  (k_with "call builtin:dict.get" => ((k_here; k_dflt (refine' kdg_get1 (knd := intKind prog0 _) ?z9e4d13_N ?z9e4d13_m ?z9e4d13_d ?z9e4d13_l ?z9e4d13_k _ rfl ?_; (case z9e4d13_N => k_asm); (case z9e4d13_m => k_mem); (case z9e4d13_d => assumption); (case z9e4d13_l => assumption); (case z9e4d13_k => exact intKind_is _ _ _ _)))))
  (k_with "KSEL" => (first | exact fun _ h => absurd h List.not_mem_nil | (refine' List.forall_mem_cons.mpr ⟨?zf64061_h, ?zf64061_t⟩; (case zf64061_h => first | exact Or.inl (by k_mem) | (refine' Or.inr ⟨_, News.get ?zf64061_n1 ?zf64061_m1, News.get ?zf64061_n2 ?zf64061_m2⟩; (case zf64061_n1 => k_asm); (case zf64061_m1 => k_mem); (case zf64061_n2 => k_asm); (case zf64061_m2 => k_mem))); (case zf64061_t => k_extra "KSEL"))))
  (k_with "KEPT" => ((refine' Kept.sel (kept_of ?z6ac77d_hg ?z6ac77d_f) ?z6ac77d_s; (case z6ac77d_hg => assumption); (case z6ac77d_f => assumption); (case z6ac77d_s => k_extra "KSEL"))))
  (k_with "SUBM" => (first | exact fun _ h => absurd h List.not_mem_nil | (refine' List.forall_mem_cons.mpr ⟨?zaff134_h, ?zaff134_t⟩; (case zaff134_h => k_mem); (case zaff134_t => k_extra "SUBM"))))
  (k_with "FRESH" => ((refine' fresh_of ?z9e8148_hg ?z9e8148_n ?z9e8148_m ?z9e8148_nd ?z9e8148_hs; (case z9e8148_hg => assumption); (case z9e8148_n => assumption); (case z9e8148_m => k_mem); (case z9e8148_nd => first | assumption | exact ND.tl (by assumption) | exact ND.tl (ND.tl (by assumption)) | exact ND.tl (ND.tl (ND.tl (by assumption)))); (case z9e8148_hs => k_extra "SUBM"))))
  (k_with "AT?" => ((refine' News.get ?z4603e9_n1 ?z4603e9_m1; (case z4603e9_n1 => k_asm); (case z4603e9_m1 => k_mem))))
  trivial
theorem ND.drop2 {a b : Addr} {as : List Addr} (h : ND (a :: b :: as)) : ND (a :: as) := ND.sub h (.cons_cons _ (.cons _ (List.Sublist.refl _)))
inductive PermP : List Addr → List Addr → Prop
  | nil : PermP [] []
  | cons {t as bs ts} : Pick t as bs → PermP bs ts → PermP as (t :: ts)
theorem PermP.perm {as ts : List Addr} (p : PermP as ts) : List.Perm as ts := by
  induction p with
  | nil => exact List.Perm.refl _
  | cons h _ ih => exact h.perm.trans (ih.cons _)
def IsLamE (i : Nat) (cell : Addr) (of : Obj) (c' : Addr) (oc : Obj) : Prop := ∃ name qual pm ctv vs t, of = kla_obj name qual (lamS i).1 (lamS i).2.1 (lamS i).2.2 [(("asked" : Str), cell)] pm c' ctv ∧ oc.data = .fields vs ∧ vs[1]? = some (.str qual t)
def LamsL (l : List (Addr × Obj)) (z : W0) : Prop := ∀ i, 2 ≤ i → i ≤ 16 → ∃ of c' oc, (z.lam i, of) ∈ l ∧ (c', oc) ∈ l ∧ IsLamE i z.cell of c' oc
theorem lams_of {h h₀ : Heap} {L : Addr} {l lams : List (Addr × Obj)} {z : W0} {as : List Addr} (N : News h₀ L h l) (hs : ∀ p ∈ lams, p ∈ l) (x : LamsL lams z) (nd : (as ++ lams.map (·.1)).Nodup) : Lams h as z := by
  intro i h2 h16
  obtain ⟨of, c', oc, m1, m2, name, qual, pm, ctv, vs, t, rfl, e1, e2⟩ := x i h2 h16
  have off : ∀ p ∈ lams, p.1 ∉ as := fun p hp hm => (List.nodup_append.mp nd).2.2 _ hm _ (List.mem_map.mpr ⟨p, hp, rfl⟩) rfl
  exact ⟨name, qual, pm, c', ctv, oc, vs, t, (N _ (hs _ m1)).1, (N _ (hs _ m2)).1, e1, e2, off _ m1, off _ m2⟩
/-- the code table: triples whole, and none of a line from n on -/
def Low (n : Nat) (ps : Array Value) : Prop := TriplesOk ps.toList ∧ ∀ pos : Pos, n ≤ pos.line → codeAmong pos ps.toList = none
theorem Low.nil {n : Nat} : Low n #[] := ⟨trivial, fun _ _ => rfl⟩
theorem triples_snoc {a b : Int} {t u : Nat} {c : Value} (l : List Value) (h : TriplesOk l) : TriplesOk (l ++ [.int a t, .int b u, c]) := by
  fun_induction TriplesOk l with
  | case1 => trivial
  | case2 a t b u x rest ih => exact ih h
  | case3 => exact h.elim
theorem among_snoc {pos : Pos} {a b : Int} {t u : Nat} {c : Value} (l : List Value) (h : TriplesOk l) (hn : codeAmong pos l = none) (ha : a ≠ pos.line) : codeAmong pos (l ++ [.int a t, .int b u, c]) = none := by
  fun_induction TriplesOk l with
  | case1 => simp [codeAmong, ha]
  | case2 a' t' b' u' x rest ih =>
    simp only [List.cons_append, codeAmong] at hn ⊢
    split at hn
    · cases hn
    · rename_i q
      rw [if_neg q]
      exact ih h hn
  | case3 => exact h.elim
theorem Low.snoc {n line col : Nat} {ps : Array Value} {c : Value} (h : Low n ps) (hl : n ≤ line) : Low (line + 1) (ps ++ #[rawInt line, rawInt col, c]) := by
  have e : (ps ++ #[rawInt line, rawInt col, c]).toList = ps.toList ++ [.int (line : Int) 0, .int (col : Int) 0, c] := by simp [rawInt]
  unfold Low
  rw [e]
  exact ⟨triples_snoc _ h.1, fun pos hp => among_snoc _ h.1 (h.2 pos (by omega)) (by omega)⟩
theorem News.sel {h₀ h : Heap} {L : Addr} {l : List (Addr × Obj)} (N : News h₀ L h l) (is : List Nat) : News h₀ L h (is.filterMap fun i => l[i]?) := fun p hp => by
  obtain ⟨i, _, e⟩ := List.mem_filterMap.mp hp
  exact N p (List.mem_of_getElem? e)
theorem ND.sel {as : List Addr} (S : ND as) : ∀ (is : List Nat), is.Nodup → ND (is.filterMap fun i => as[i]?)
  | [], _ => ND.nil
  | i :: is, h => by
    have h' := List.nodup_cons.mp h
    rw [List.filterMap_cons]
    split
    · exact ND.sel S is h'.2
    · rename_i b e
      refine List.nodup_cons.mpr ⟨fun hm => ?_, ND.sel S is h'.2⟩
      obtain ⟨j, hj, e2⟩ := List.mem_filterMap.mp hm
      obtain ⟨hi, _⟩ := List.getElem?_eq_some_iff.mp e
      have := (List.getElem?_inj hi S).mp (e.trans e2.symm)
      exact h'.1 (this ▸ hj)
theorem pack0 {h₀ h : Heap} {L : Addr} {a0 a1 a2 a3 a4 a5 a6 a7 a8 a9 a10 a11 a12 a13 a14 a15 a16 : Addr × Obj} {P : Prop} (N : News h₀ L h [a0, a1, a2, a3, a4, a5, a6, a7, a8, a9, a10, a11, a12, a13, a14, a15, a16]) (S : ND [a0.1, a1.1, a2.1, a3.1, a4.1, a5.1, a6.1, a7.1, a8.1, a9.1, a10.1, a11.1, a12.1, a13.1, a14.1, a15.1, a16.1])
    (k : ∀ tl : List (Addr × Obj), News h₀ L h ([a16, a5, a6, a2, a3, a7, a11, a12, a10, a14, a15] ++ tl) → ND ([a16.1, a5.1, a6.1, a2.1, a3.1, a7.1, a11.1, a12.1, a10.1, a14.1, a15.1] ++ tl.map (·.1)) → P) : P :=
  k [] (News.sel N [16, 5, 6, 2, 3, 7, 11, 12, 10, 14, 15]) (ND.sel S [16, 5, 6, 2, 3, 7, 11, 12, 10, 14, 15] (by decide))
theorem pack1 {h₀ h : Heap} {L : Addr} {f c : Addr × Obj} {ps tl : List (Addr × Obj)} {P : Prop} (N : News h₀ L h (f :: c :: (ps ++ tl))) (S : ND (f.1 :: c.1 :: (ps.map (·.1) ++ tl.map (·.1))))
    (k : ∀ tl', f ∈ tl' → c ∈ tl' → (∀ p ∈ tl, p ∈ tl') → News h₀ L h (ps ++ tl') → ND (ps.map (·.1) ++ tl'.map (·.1)) → P) : P := by
  refine k (f :: c :: tl) (.head _) (.tail _ (.head _)) (fun p hp => .tail _ (.tail _ hp)) (news_sub N fun p hp => ?_) (List.Perm.nodup ?_ S)
  · rcases List.mem_append.mp hp with hp | hp
    · exact .tail _ (.tail _ (List.mem_append_left _ hp))
    · rcases List.mem_cons.mp hp with rfl | hp
      · exact .head _
      · rcases List.mem_cons.mp hp with rfl | hp
        · exact .tail _ (.head _)
        · exact .tail _ (.tail _ (List.mem_append_right _ hp))
  · exact ((List.perm_middle (a := c.1) (l₁ := ps.map (·.1)) (l₂ := tl.map (·.1))).symm.cons f.1).trans (List.perm_middle (a := f.1) (l₁ := ps.map (·.1)) (l₂ := c.1 :: tl.map (·.1))).symm
theorem pack2 {h₀ h : Heap} {L f c a1 a2 a3 a4 a5 a6 a7 a8 a9 a10 : Addr} {of oc o1 o2 o3 o4 o5 o6 o7 o8 o9 o10 : Obj} {tl : List (Addr × Obj)} {P : Prop} {n line col : Nat} {ps : Array Value} {v : Value} (hL : Low n ps) (hl : n ≤ line) (N : News h₀ L h ((f, of) :: (c, oc) :: (519, tabObj (ps ++ #[rawInt line, rawInt col, v])) :: (a1, o1) :: (a2, o2) :: (a3, o3) :: (a4, o4) :: (a5, o5) :: (a6, o6) :: (a7, o7) :: (a8, o8) :: (a9, o9) :: (a10, o10) :: tl)) (S : ND (f :: c :: 519 :: a1 :: a2 :: a3 :: a4 :: a5 :: a6 :: a7 :: a8 :: a9 :: a10 :: tl.map (·.1)))
    (k : ∀ ps' tl', Low (line + 1) ps' → (f, of) ∈ tl' → (c, oc) ∈ tl' → (∀ p ∈ tl, p ∈ tl') → News h₀ L h ((519, tabObj ps') :: (a1, o1) :: (a2, o2) :: (a3, o3) :: (a4, o4) :: (a5, o5) :: (a6, o6) :: (a7, o7) :: (a8, o8) :: (a9, o9) :: (a10, o10) :: tl') → ND (519 :: a1 :: a2 :: a3 :: a4 :: a5 :: a6 :: a7 :: a8 :: a9 :: a10 :: tl'.map (·.1)) → P) : P := pack1 (f := (f, of)) (c := (c, oc)) (ps := [((519 : Addr), tabObj (ps ++ #[rawInt line, rawInt col, v])), (a1, o1), (a2, o2), (a3, o3), (a4, o4), (a5, o5), (a6, o6), (a7, o7), (a8, o8), (a9, o9), (a10, o10)]) N S fun tl' => k _ tl' (hL.snoc hl)
theorem pack3 {h₀ h : Heap} {L b0 b1 b2 b3 b4 b5 b6 b7 b8 b9 b10 b11 b12 b13 b14 b15 b16 : Addr} {q0 q1 q2 q3 q4 q5 q6 q7 q8 q9 q10 q11 q12 q13 q14 q15 q16 : Obj} {P : Prop} (N : News h₀ L h [(b0, q0), (b1, q1), (b2, q2), (b3, q3), (b4, q4), (b5, q5), (b6, q6), (b7, q7), (b8, q8), (b9, q9), (b10, q10), (b11, q11), (b12, q12), (b13, q13), (b14, q14), (b15, q15), (b16, q16)]) (S : ND [b0, b1, b2, b3, b4, b5, b6, b7, b8, b9, b10, b11, b12, b13, b14, b15, b16])
    (k : ∀ tl : List (Addr × Obj), News h₀ L h ((b16, q16) :: (b5, q5) :: (b6, q6) :: (b2, q2) :: (b3, q3) :: (b7, q7) :: (b11, q11) :: (b12, q12) :: (b10, q10) :: (b14, q14) :: (b15, q15) :: tl) → ND (b16 :: b5 :: b6 :: b2 :: b3 :: b7 :: b11 :: b12 :: b10 :: b14 :: b15 :: tl.map (·.1)) → P) : P := pack0 N S k
theorem klines_C19_1 : True := by
  (k_with "NDSUB" => ((refine' ND.sub ?zb41ab3_s ?zb41ab3_l; (case zb41ab3_s => assumption); (case zb41ab3_l => k_extra "SUBL"))))
  (k_with "SUBL" => (first | exact List.nil_sublist _ | (refine' List.Sublist.cons_cons _ ?ze75662_b; (case ze75662_b => k_extra "SUBL")) | (refine' List.Sublist.cons _ ?ze75662_b; (case ze75662_b => k_extra "SUBL"))))
  (k_with "NDSUB" => (first | (refine' ND.sub ?ze76779_s ?ze76779_l; (case ze76779_s => assumption); (case ze76779_l => k_extra "SUBL")) | (refine' ND.p3 (ND.sub ?ze76779_s ?ze76779_l); (case ze76779_s => assumption); (case ze76779_l => k_extra "SUBL"))))
  (k_with "NEQ" => ((rename ND _ => hS; first | exact ND.ne_l hS (by k_mem) | exact ND.ne_r hS (by k_mem) | (have hS2 := ND.tl hS; k_extra "NEQ"))))
  (k_with "PICK" => (first | refine' Pick.head | (refine' Pick.tail ?z677e40_b; (case z677e40_b => k_extra "PICK"))))
  (k_with "RangeRest" => ((with_unfolding_all first | (refine RangeRest.succ (fun t' h' tk' F' N' => ?_)) | (refine RangeRest.zero (fun h' tk' F' N' => ?_); rename ND _ => hS; have hS9 := ND.tl hS))))
  (k_with "UnrEnd" => ((refine' unrEnd_pick ?z76e4c1_s ?z76e4c1_p ?_; (case z76e4c1_s => assumption); (case z76e4c1_p => k_extra "PICK"); intro hS9; first | ktu_endR | k_unrEnd)))
  (k_with "M ktu_off" => ((refine' Or.inl ?z3326b3_h; (case z3326b3_h => (try dsimp only); k_extra "NEQ"))))
  (k_with "eval List" => ((k_here; k_dflt (refine' disp_list ?z72c816_F ?z72c816_N ?z72c816_hk ?z72c816_he ?z72c816_hz ?_; (case z72c816_F => k_asm); (case z72c816_N => k_asm); (case z72c816_hk => first | rfl | assumption); (case z72c816_he => exact rfl); (case z72c816_hz => exact rfl)); intro l' h' F' N' l1; (try k_lt l1))))
  (k_with "eval Tuple" => ((k_here; k_dflt (refine' disp_tuple ?zcd943b_F ?zcd943b_N ?zcd943b_hk ?zcd943b_he ?zcd943b_hz ?_; (case zcd943b_F => k_asm); (case zcd943b_N => k_asm); (case zcd943b_hk => first | rfl | assumption); (case zcd943b_he => exact rfl); (case zcd943b_hz => exact rfl)); intro l' h' F' N' l1; (try k_lt l1))))
  (k_with "spliced" => ((k_here; (with_reducible show wpAny _ _ (spliced (backTo _ (starEach (_ :: _) _))) _ _ _); k_dflt (refine' simp_all ?z919f57_hk ?z919f57_F ?z919f57_he ?_; (case z919f57_F => k_asm); (case z919f57_hk => first | rfl | assumption); (case z919f57_he => exact rfl); try dsimp only))))
  (k_with "call ref" => ((k_here; (with_reducible show wpAny _ _ (call (Value.ref 485) _) _ _ _); k_dflt (refine' prog_c ?z654ca0_c ?z654ca0_n ?z654ca0_s ?z654ca0_e ?z654ca0_d ?z654ca0_u ?_; (case z654ca0_c => k_extra "CX"); (case z654ca0_n => k_asm); (case z654ca0_s => (rename ND _ => hS; exact hS)); (case z654ca0_e => exact rfl); (case z654ca0_d => omega); (case z654ca0_u => omega); intro i' d' ops' t1' t2' t3' t4' t5' t6' t7' t8' n' tk' v2' v3' v4' v5' v6' v7' v8' h' F' N' S9'))))
  (k_with "call ref" => ((k_here; (with_reducible show wpAny _ _ (call (Value.ref 496) _) _ _ _); k_dflt (refine' pool_c ?za1cf75_c ?za1cf75_n ?za1cf75_s ?za1cf75_e ?za1cf75_hl ?za1cf75_hi ?za1cf75_hn ?za1cf75_d ?za1cf75_u ?_; (case za1cf75_c => k_extra "CX"); (case za1cf75_n => k_asm); (case za1cf75_s => (rename ND _ => hS; exact hS)); (case za1cf75_e => exact rfl); (case za1cf75_hl => assumption); (case za1cf75_hi => assumption); (case za1cf75_hn => assumption); (case za1cf75_d => omega); (case za1cf75_u => omega); intro r' a' b' ta' tb' tk' h' h1' h2' h3' F' N' S9'))))
  (k_with "call ref" => ((k_here; (with_reducible show wpAny _ _ (call (Value.ref 524) _) _ _ _); k_dflt (refine wpAny_call ?_; refine' code_defC ?zf7d0a5_k1 ?zf7d0a5_k2 ?zf7d0a5_k3 ?zf7d0a5_k4 ?zf7d0a5_k5 ?zf7d0a5_kA ?zf7d0a5_kF ?zf7d0a5_kK ?zf7d0a5_k6 ?zf7d0a5_k7 ?zf7d0a5_k8 ?zf7d0a5_k9 ?zf7d0a5_kB ?zf7d0a5_kD ?_ ?zf7d0a5_c2 ?zf7d0a5_c3 ?zf7d0a5_c4; (case zf7d0a5_kA => exact rfl); (case zf7d0a5_kF => exact rfl); (case zf7d0a5_kK => exact rfl); (case zf7d0a5_k1 => k_asm); (case zf7d0a5_k2 => k_asm); (case zf7d0a5_k3 => k_asm); (case zf7d0a5_k4 => k_asm); (case zf7d0a5_k5 => k_asm); (case zf7d0a5_k6 => k_is); (case zf7d0a5_k7 => k_is); (case zf7d0a5_k8 => k_room); (case zf7d0a5_k9 => exact BindsTo.of_eq rfl); (case zf7d0a5_kB => exact rfl); (case zf7d0a5_kD => decide +kernel); (case zf7d0a5_c2 => exact rfl); (case zf7d0a5_c3 => exact rfl); (case zf7d0a5_c4 => exact rfl); intro g' L' h' tk' cells' FG' F' N' Y' B' X' T' l1; (rename ND _ => hS; have hS2 := ND.ofNews l1 hS rfl; have hS3 := ND.succ l1 hS2 rfl; have hS4 := ND.drop2 hS3); clear l1; k_cells Y'; (try simp only [List.cons_append, List.nil_append] at N'); (try dsimp only); (try k_fold)))))
  (k_with "call ref" => ((k_here; (with_reducible show wpAny _ _ (call (Value.ref 60) _) _ _ _); k_dflt (refine' call_cls ?z6fd54f_k1 ?z6fd54f_k2 ?z6fd54f_k3 ?z6fd54f_k4 ?z6fd54f_k5 ?z6fd54f_k6 ?_; (case z6fd54f_k1 => k_asm); (case z6fd54f_k2 => k_asm); (case z6fd54f_k3 => k_asm); (case z6fd54f_k4 => k_is); (case z6fd54f_k5 => k_is); (case z6fd54f_k6 => k_is); intro x' d' h' F' N' l1 l2; (try k_lt l1); (try k_lt2 l2); k_enter))))
  (k_with "PERM" => (first | exact PermP.nil | (refine' PermP.cons ?zc1685_p ?zc1685_r; (case zc1685_p => k_extra "PICK"); (case zc1685_r => k_extra "PERM"))))
  (k_with "MEMS" => (first | exact List.forall_mem_nil _ | (refine' List.forall_mem_cons.mpr ⟨?zc1a7e2_h, ?zc1a7e2_t⟩; (case zc1a7e2_h => assumption); (case zc1a7e2_t => k_extra "MEMS"))))
  trivial
section
variable {w : World} {mean : ExcName → Option Value} {mg mb : Str → Option Value} {A₀ : Around} {base h₀ : Heap} {outer : List Env} {cn : Str} {cs : Scope} {L ea : Addr} {ccd : Value} {cl : List (Str × Addr)} {m : Str → Option Value} {dp un : Nat} {s : Shared} {Q : Value → Shared → Prop} {E : Value → Shared → Prop}
theorem law_pack2 {P : Prop} {h : Heap} {led0 lams : List (Addr × Obj)} {texts mach md btree btd conn cnd cell core cd regs asked src f2 f3 f4 f5 f6 f7 f8 f9 f10 f11 f12 f13 f14 f15 f16 c2 c3 c4 c5 c6 c7 c8 c9 c10 c11 c12 c13 c14 c15 c16 : Addr} {co ro of2 of3 of4 of5 of6 of7 of8 of9 of10 of11 of12 of13 of14 of15 of16 oc2 oc3 oc4 oc5 oc6 oc7 oc8 oc9 oc10 oc11 oc12 oc13 oc14 oc15 oc16 : Obj} {tn n n0 ta tb ct a1 a2 a3 a4 a5 a6 a7 a8 a9 a10 a11 a12 a13 a14 a15 a16 a17 a18 a19 a20 a21 a22 a31 a32 a33 a34 a35 a36 a37 a38 a39 a40 a41 a51 a52 a53 a61 a62 a63 : Nat} {b1 b2 b3 b4 b5 b6 b7 b8 b31 b32 b33 b34 b35 b36 b37 b38 b61 b63 : Value} {a b : Int} {ps : Array Value} {l : Addr}
    (F : Fr h₀ L h (fun y => if y = "machine" then some (.ref mach) else if y = "source" then some (.ref src) else if y = "asked" then some (.ref asked) else if y = "core" then some (.ref core) else List.lookup y [(("script" : Str), Value.ref l)]))
    (N : News h₀ L h led0)
    (m_texts : (texts, listOf #[] tn) ∈ led0) (m_mach : (mach, instObj 60 md) ∈ led0) (m_md : (md, dictOf [KE w.params "core" a51 (.ref core), KE w.params "connection" a52 (.ref conn), KE w.params "texts" a53 (.ref texts)] 3) ∈ led0) (m_btree : (btree, instObj 485 btd) ∈ led0) (m_btd : (btd, dictOf [KE w.params "ops" a31 b31, KE w.params "columns" a32 b32, KE w.params "registers" a33 b33, KE w.params "cursors" a34 b34, KE w.params "slots" a35 b35, KE w.params "writes" a36 b36, KE w.params "labels" a37 b37, KE w.params "next_label" a38 b38, KE w.params "create" a39 (.ref f14), KE w.params "drop" a40 (.ref f15), KE w.params "clear" a41 (.ref f16)] 11) ∈ led0) (m_conn : (conn, instObj 485 cnd) ∈ led0) (m_cnd : (cnd, dictOf [KE w.params "ops" a1 b1, KE w.params "columns" a2 b2, KE w.params "registers" a3 b3, KE w.params "cursors" a4 b4, KE w.params "slots" a5 b5, KE w.params "writes" a6 b6, KE w.params "labels" a7 b7, KE w.params "next_label" a8 b8, KE w.params "btree" a9 (.ref btree), KE w.params "change_count" a10 (.int 0 ct), KE w.params "start" a11 (.ref f2), KE w.params "begin" a12 (.ref f3), KE w.params "rollback_statement" a13 (.ref f4), KE w.params "commit_statement" a14 (.ref f5), KE w.params "savepoint" a15 (.ref f6), KE w.params "load_schema" a16 (.ref f7), KE w.params "raise_cookie" a17 (.ref f8), KE w.params "verify_cookie" a18 (.ref f9), KE w.params "vacuum" a19 (.ref f10), KE w.params "integrity_texts" a20 (.ref f11), KE w.params "pragma_get" a21 (.ref f12), KE w.params "pragma_set" a22 (.ref f13)] 22) ∈ led0) (m_cell : (cell, co) ∈ led0) (m_regs : (regs, ro) ∈ led0) (m_core : (core, instObj 391 cd) ∈ led0) (m_cd : (cd, dictOf [KE w.params "bound" a61 b61, KE w.params "registers" a62 (.ref regs), KE w.params "once" a63 b63] 3) ∈ led0) (m_asked : (asked, listOf #[] n) ∈ led0) (m_src : (src, listOf #[.int a ta, .int b tb] n0) ∈ led0) (m_519 : (519, tabObj ps) ∈ led0)
    (hsub : ∀ p ∈ lams, p ∈ led0) (m_f2 : (f2, of2) ∈ lams) (m_c2 : (c2, oc2) ∈ lams) (m_f3 : (f3, of3) ∈ lams) (m_c3 : (c3, oc3) ∈ lams) (m_f4 : (f4, of4) ∈ lams) (m_c4 : (c4, oc4) ∈ lams) (m_f5 : (f5, of5) ∈ lams) (m_c5 : (c5, oc5) ∈ lams) (m_f6 : (f6, of6) ∈ lams) (m_c6 : (c6, oc6) ∈ lams) (m_f7 : (f7, of7) ∈ lams) (m_c7 : (c7, oc7) ∈ lams) (m_f8 : (f8, of8) ∈ lams) (m_c8 : (c8, oc8) ∈ lams) (m_f9 : (f9, of9) ∈ lams) (m_c9 : (c9, oc9) ∈ lams) (m_f10 : (f10, of10) ∈ lams) (m_c10 : (c10, oc10) ∈ lams) (m_f11 : (f11, of11) ∈ lams) (m_c11 : (c11, oc11) ∈ lams) (m_f12 : (f12, of12) ∈ lams) (m_c12 : (c12, oc12) ∈ lams) (m_f13 : (f13, of13) ∈ lams) (m_c13 : (c13, oc13) ∈ lams) (m_f14 : (f14, of14) ∈ lams) (m_c14 : (c14, oc14) ∈ lams) (m_f15 : (f15, of15) ∈ lams) (m_c15 : (c15, oc15) ∈ lams) (m_f16 : (f16, of16) ∈ lams) (m_c16 : (c16, oc16) ∈ lams)
    (S : ND ([texts, mach, md, 519, conn, cnd, btree, btd, cell, core, cd, regs, asked, src] ++ lams.map (·.1))) (hco : co.data = .cell (some (.ref asked))) (hr : ro.IsDictOf (intKind prog0 w) []) (hsm : (regs == sysModules) = false)
    (l2 : IsLamE 2 cell of2 c2 oc2) (l3 : IsLamE 3 cell of3 c3 oc3) (l4 : IsLamE 4 cell of4 c4 oc4) (l5 : IsLamE 5 cell of5 c5 oc5) (l6 : IsLamE 6 cell of6 c6 oc6) (l7 : IsLamE 7 cell of7 c7 oc7) (l8 : IsLamE 8 cell of8 c8 oc8) (l9 : IsLamE 9 cell of9 c9 oc9) (l10 : IsLamE 10 cell of10 c10 oc10) (l11 : IsLamE 11 cell of11 c11 oc11) (l12 : IsLamE 12 cell of12 c12 oc12) (l13 : IsLamE 13 cell of13 c13 oc13) (l14 : IsLamE 14 cell of14 c14 oc14) (l15 : IsLamE 15 cell of15 c15 oc15) (l16 : IsLamE 16 cell of16 c16 oc16)
    (k : ∀ (z : W0) (texts : Addr) (ro : Obj) (tn n n0 ta tb ct : Nat) (ps : Array Value) (lams : List (Addr × Obj)), Fr h₀ L h (fun y => if y = "machine" then some (.ref z.mach) else if y = "source" then some (.ref z.src) else if y = "asked" then some (.ref z.asked) else if y = "core" then some (.ref z.core) else List.lookup y [(("script" : Str), Value.ref l)]) → News h₀ L h ((z.mach, instObj 60 z.md) :: (z.md, dictOf (machD w.params z texts) 3) :: (texts, listOf #[] tn) :: (z.conn, instObj 485 z.cnd) :: (z.cnd, dictOf (connD w.params z 0 ct) 22) :: (z.btree, instObj 485 z.btd) :: (z.btd, dictOf (btreeD w.params z) 11) :: (z.core, instObj 391 z.cd) :: (z.cd, dictOf (coreZ w.params z) 3) :: (z.regs, ro) :: (z.cell, z.co) :: (z.asked, listOf ([] : List Value).toArray n) :: (z.src, listOf #[.int a ta, .int b tb] n0) :: (519, tabObj ps) :: lams) → ND (z.mach :: z.md :: texts :: z.conn :: z.cnd :: z.btree :: z.btd :: z.core :: z.cd :: z.regs :: z.cell :: z.asked :: z.src :: 519 :: lams.map (·.1)) → z.co.data = .cell (some (.ref z.asked)) → ro.IsDictOf (intKind prog0 w) [] → (z.regs == sysModules) = false → LamsL lams z → P) : P := by
  have S2 : ND ([mach, md, texts, conn, cnd, btree, btd, core, cd, regs, cell, asked, src, 519] ++ lams.map (·.1)) := List.Perm.nodup ((PermP.perm (by k_extra "PERM")).append_right _) S
  have N14 : ∀ p ∈ [(mach, instObj 60 md), (md, dictOf [KE w.params "core" a51 (.ref core), KE w.params "connection" a52 (.ref conn), KE w.params "texts" a53 (.ref texts)] 3), (texts, listOf #[] tn), (conn, instObj 485 cnd), (cnd, dictOf [KE w.params "ops" a1 b1, KE w.params "columns" a2 b2, KE w.params "registers" a3 b3, KE w.params "cursors" a4 b4, KE w.params "slots" a5 b5, KE w.params "writes" a6 b6, KE w.params "labels" a7 b7, KE w.params "next_label" a8 b8, KE w.params "btree" a9 (.ref btree), KE w.params "change_count" a10 (.int 0 ct), KE w.params "start" a11 (.ref f2), KE w.params "begin" a12 (.ref f3), KE w.params "rollback_statement" a13 (.ref f4), KE w.params "commit_statement" a14 (.ref f5), KE w.params "savepoint" a15 (.ref f6), KE w.params "load_schema" a16 (.ref f7), KE w.params "raise_cookie" a17 (.ref f8), KE w.params "verify_cookie" a18 (.ref f9), KE w.params "vacuum" a19 (.ref f10), KE w.params "integrity_texts" a20 (.ref f11), KE w.params "pragma_get" a21 (.ref f12), KE w.params "pragma_set" a22 (.ref f13)] 22), (btree, instObj 485 btd), (btd, dictOf [KE w.params "ops" a31 b31, KE w.params "columns" a32 b32, KE w.params "registers" a33 b33, KE w.params "cursors" a34 b34, KE w.params "slots" a35 b35, KE w.params "writes" a36 b36, KE w.params "labels" a37 b37, KE w.params "next_label" a38 b38, KE w.params "create" a39 (.ref f14), KE w.params "drop" a40 (.ref f15), KE w.params "clear" a41 (.ref f16)] 11), (core, instObj 391 cd), (cd, dictOf [KE w.params "bound" a61 b61, KE w.params "registers" a62 (.ref regs), KE w.params "once" a63 b63] 3), (regs, ro), (cell, co), (asked, listOf #[] n), (src, listOf #[.int a ta, .int b tb] n0), (519, tabObj ps)], p ∈ led0 := by k_extra "MEMS"
  refine' k (W0.mk src asked cell co core cd regs mach md conn cnd btree btd (fun i => [0, 0, f2, f3, f4, f5, f6, f7, f8, f9, f10, f11, f12, f13, f14, f15, f16].getD i 0) (fun i => [0, a1, a2, a3, a4, a5, a6, a7, a8, a9, a10, a11, a12, a13, a14, a15, a16, a17, a18, a19, a20, a21, a22, 0, 0, 0, 0, 0, 0, 0, 0, a31, a32, a33, a34, a35, a36, a37, a38, a39, a40, a41, 0, 0, 0, 0, 0, 0, 0, 0, 0, a51, a52, a53, 0, 0, 0, 0, 0, 0, 0, a61, a62, a63].getD i 0) (fun i => [.none, b1, b2, b3, b4, b5, b6, b7, b8, .none, .none, .none, .none, .none, .none, .none, .none, .none, .none, .none, .none, .none, .none, .none, .none, .none, .none, .none, .none, .none, .none, b31, b32, b33, b34, b35, b36, b37, b38, .none, .none, .none, .none, .none, .none, .none, .none, .none, .none, .none, .none, .none, .none, .none, .none, .none, .none, .none, .none, .none, .none, b61, .none, b63].getD i Value.none)) texts ro tn n n0 ta tb ct ps lams F (news_sub (l' := [(mach, instObj 60 md), (md, dictOf [KE w.params "core" a51 (.ref core), KE w.params "connection" a52 (.ref conn), KE w.params "texts" a53 (.ref texts)] 3), (texts, listOf #[] tn), (conn, instObj 485 cnd), (cnd, dictOf [KE w.params "ops" a1 b1, KE w.params "columns" a2 b2, KE w.params "registers" a3 b3, KE w.params "cursors" a4 b4, KE w.params "slots" a5 b5, KE w.params "writes" a6 b6, KE w.params "labels" a7 b7, KE w.params "next_label" a8 b8, KE w.params "btree" a9 (.ref btree), KE w.params "change_count" a10 (.int 0 ct), KE w.params "start" a11 (.ref f2), KE w.params "begin" a12 (.ref f3), KE w.params "rollback_statement" a13 (.ref f4), KE w.params "commit_statement" a14 (.ref f5), KE w.params "savepoint" a15 (.ref f6), KE w.params "load_schema" a16 (.ref f7), KE w.params "raise_cookie" a17 (.ref f8), KE w.params "verify_cookie" a18 (.ref f9), KE w.params "vacuum" a19 (.ref f10), KE w.params "integrity_texts" a20 (.ref f11), KE w.params "pragma_get" a21 (.ref f12), KE w.params "pragma_set" a22 (.ref f13)] 22), (btree, instObj 485 btd), (btd, dictOf [KE w.params "ops" a31 b31, KE w.params "columns" a32 b32, KE w.params "registers" a33 b33, KE w.params "cursors" a34 b34, KE w.params "slots" a35 b35, KE w.params "writes" a36 b36, KE w.params "labels" a37 b37, KE w.params "next_label" a38 b38, KE w.params "create" a39 (.ref f14), KE w.params "drop" a40 (.ref f15), KE w.params "clear" a41 (.ref f16)] 11), (core, instObj 391 cd), (cd, dictOf [KE w.params "bound" a61 b61, KE w.params "registers" a62 (.ref regs), KE w.params "once" a63 b63] 3), (regs, ro), (cell, co), (asked, listOf #[] n), (src, listOf #[.int a ta, .int b tb] n0), (519, tabObj ps)] ++ lams) N fun p hp => (List.mem_append.mp hp).elim (N14 p) (hsub p)) S2 hco hr hsm ?ls
  (case ls =>
    intro i h2 h16
    obtain h | h | h | h | h | h | h | h | h | h | h | h | h | h | h : i = 2 ∨ i = 3 ∨ i = 4 ∨ i = 5 ∨ i = 6 ∨ i = 7 ∨ i = 8 ∨ i = 9 ∨ i = 10 ∨ i = 11 ∨ i = 12 ∨ i = 13 ∨ i = 14 ∨ i = 15 ∨ i = 16 := by omega
    · subst h; exact ⟨_, _, _, m_f2, m_c2, l2⟩
    · subst h; exact ⟨_, _, _, m_f3, m_c3, l3⟩
    · subst h; exact ⟨_, _, _, m_f4, m_c4, l4⟩
    · subst h; exact ⟨_, _, _, m_f5, m_c5, l5⟩
    · subst h; exact ⟨_, _, _, m_f6, m_c6, l6⟩
    · subst h; exact ⟨_, _, _, m_f7, m_c7, l7⟩
    · subst h; exact ⟨_, _, _, m_f8, m_c8, l8⟩
    · subst h; exact ⟨_, _, _, m_f9, m_c9, l9⟩
    · subst h; exact ⟨_, _, _, m_f10, m_c10, l10⟩
    · subst h; exact ⟨_, _, _, m_f11, m_c11, l11⟩
    · subst h; exact ⟨_, _, _, m_f12, m_c12, l12⟩
    · subst h; exact ⟨_, _, _, m_f13, m_c13, l13⟩
    · subst h; exact ⟨_, _, _, m_f14, m_c14, l14⟩
    · subst h; exact ⟨_, _, _, m_f15, m_c15, l15⟩
    · subst h; exact ⟨_, _, _, m_f16, m_c16, l16⟩)
end

theorem fillIt22 : PySem.Challenge.rw_pb0451_01 = PySem.Challenge.rw_pb0451_01 ∧ KH = KH := by k_fill; exact ⟨rfl, rfl⟩
theorem klines_C20_0 : True := by
  k_with_none
  (k_with "subscriptTail Name Constant ref int" => ((k_here; (with_reducible show wpAny _ _ (subscriptTail _ _ (Value.ref _) (Value.int _ _)) _ _ _); (with_unfolding_all refine' item_litK ?z73ea9d_k1 ?z73ea9d_k2 ?z73ea9d_k3 ?z73ea9d_k4 ?_ ?z73ea9d_k6; (case z73ea9d_k1 => is_list); (case z73ea9d_k2 => decide); (case z73ea9d_k3 => decide); (case z73ea9d_k4 => rfl); (case z73ea9d_k6 => with_unfolding_all rfl); k_whole))))
  (k_with "ENTER" => (((case k6 => k_is); (case k7 => k_is); (case k8 => omega); (case k9 => exact BindsTo.of_eq rfl); (case kB => (conv => lhs; whnf)); (case kL => exact locs rfl); (case c2 => exact rfl); (case c3 => exact rfl); (case c4 => exact rfl); (case c5 => decide); intro g' L' h' HG' FG' F' N' B' X' T' l'; (try dsimp only); k_fold)))
  (k_with "GO" => (repeat' (first | (k_unfold; (try dsimp only)) | (k_end; wrow_close) | walk1 | (dsimp only; walk1))))
  (k_with "ATF" => (first | refine' AtF.head | (refine' AtF.tail ?zaeb911_b; (case zaeb911_b => k_extra "ATF"))))
  (k_with "AT" => (first | refine' At.head | (refine' At.tail ?z4c4c10_b; (case z4c4c10_b => k_extra "AT"))))
  (k_with "M k_upd" => ((rename ND _ => hS; refine' upd_sd ?z531fe4_a hS ?z531fe4_e; (case z531fe4_a => k_extra "AT"); (case z531fe4_e => rfl))))
  (k_with "M k_updF" => ((rename ND _ => hS; refine' updF_sd ?zc7fe0e_a hS ?zc7fe0e_e; (case zc7fe0e_a => k_extra "ATF"); (case zc7fe0e_e => rfl))))
  (k_with "M kn_among" => ((simp [codeAmong, rawInt]; done)))
  (k_with "M kn_triples" => ((simp [TriplesOk, rawInt]; done)))
  (k_with "M k_room" => ((first | omega | ((try simp only [depth_mark, depth_under_make, depth_under_kw, depth_in1, depth_deeper, depth_caller]); omega))))
  (k_with "SUB" => (first | exact List.forall_mem_nil _ | (refine' List.forall_mem_cons.mpr ⟨?z3be472_h, ?z3be472_t⟩; (case z3be472_h => k_mem); (case z3be472_t => k_extra "SUB"))))
  (k_with "ATS" => (first | refine' Ats.nil | (refine' Ats.hit ?z9e6f72_b; (case z9e6f72_b => k_extra "ATS")) | (refine' Ats.skip ?z9e6f72_b; (case z9e6f72_b => k_extra "ATS"))))
  (k_with "CX" => ((refine' ⟨?za4188e_x1, ?za4188e_x2, ?za4188e_x3, ?za4188e_x4, ?za4188e_x5⟩; (case za4188e_x1 => k_asm); (case za4188e_x2 => k_asm); (case za4188e_x3 => k_asm); (case za4188e_x4 => k_asm); (case za4188e_x5 => first | rfl | assumption))))
  (k_with "NSUB" => ((refine' news_sub ?za05c2b_N ?za05c2b_s; (case za05c2b_N => (rename News _ _ _ _ => oN; exact oN)); (case za05c2b_s => k_extra "SUB"))))
  (k_with "getMethod ref" => ((k_here; (with_reducible show wpAny _ _ (getMethod (Value.ref _) (Str.ofString "get") _) _ _ _); k_dflt (refine' kdg_method (knd := intKind prog0 _) ?z1e447a_N ?z1e447a_m ?z1e447a_d ?_; (case z1e447a_N => k_asm); (case z1e447a_m => k_mem); (case z1e447a_d => assumption)))))
  (k_with "call builtin:dict.get" => ((k_here; k_dflt (refine' kdg_get1 (knd := intKind prog0 _) ?z9e4d13_N ?z9e4d13_m ?z9e4d13_d ?z9e4d13_l ?z9e4d13_k _ rfl ?_; (case z9e4d13_N => k_asm); (case z9e4d13_m => k_mem); (case z9e4d13_d => assumption); (case z9e4d13_l => assumption); (case z9e4d13_k => exact intKind_is _ _ _ _)))))
  (k_with "KSEL" => (first | exact fun _ h => absurd h List.not_mem_nil | (refine' List.forall_mem_cons.mpr ⟨?zf64061_h, ?zf64061_t⟩; (case zf64061_h => first | exact Or.inl (by k_mem) | (refine' Or.inr ⟨_, News.get ?zf64061_n1 ?zf64061_m1, News.get ?zf64061_n2 ?zf64061_m2⟩; (case zf64061_n1 => k_asm); (case zf64061_m1 => k_mem); (case zf64061_n2 => k_asm); (case zf64061_m2 => k_mem))); (case zf64061_t => k_extra "KSEL"))))
  (k_with "KEPT" => ((refine' Kept.sel (kept_of ?z6ac77d_hg ?z6ac77d_f) ?z6ac77d_s; (case z6ac77d_hg => assumption); (case z6ac77d_f => assumption); (case z6ac77d_s => k_extra "KSEL"))))
  (k_with "SUBM" => (first | exact fun _ h => absurd h List.not_mem_nil | (refine' List.forall_mem_cons.mpr ⟨?zaff134_h, ?zaff134_t⟩; (case zaff134_h => k_mem); (case zaff134_t => k_extra "SUBM"))))
  (k_with "FRESH" => ((refine' fresh_of ?z9e8148_hg ?z9e8148_n ?z9e8148_m ?z9e8148_nd ?z9e8148_hs; (case z9e8148_hg => assumption); (case z9e8148_n => assumption); (case z9e8148_m => k_mem); (case z9e8148_nd => first | assumption | exact ND.tl (by assumption) | exact ND.tl (ND.tl (by assumption)) | exact ND.tl (ND.tl (ND.tl (by assumption)))); (case z9e8148_hs => k_extra "SUBM"))))
  (k_with "AT?" => ((refine' News.get ?z4603e9_n1 ?z4603e9_m1; (case z4603e9_n1 => k_asm); (case z4603e9_m1 => k_mem))))
  (k_with "NDSUB" => ((refine' ND.sub ?zb41ab3_s ?zb41ab3_l; (case zb41ab3_s => assumption); (case zb41ab3_l => k_extra "SUBL"))))
  (k_with "SUBL" => (first | exact List.nil_sublist _ | (refine' List.Sublist.cons_cons _ ?ze75662_b; (case ze75662_b => k_extra "SUBL")) | (refine' List.Sublist.cons _ ?ze75662_b; (case ze75662_b => k_extra "SUBL"))))
  (k_with "NDSUB" => (first | (refine' ND.sub ?ze76779_s ?ze76779_l; (case ze76779_s => assumption); (case ze76779_l => k_extra "SUBL")) | (refine' ND.p3 (ND.sub ?ze76779_s ?ze76779_l); (case ze76779_s => assumption); (case ze76779_l => k_extra "SUBL"))))
  (k_with "NEQ" => ((rename ND _ => hS; first | exact ND.ne_l hS (by k_mem) | exact ND.ne_r hS (by k_mem) | (have hS2 := ND.tl hS; k_extra "NEQ"))))
  (k_with "PICK" => (first | refine' Pick.head | (refine' Pick.tail ?z677e40_b; (case z677e40_b => k_extra "PICK"))))
  (k_with "RangeRest" => ((with_unfolding_all first | (refine RangeRest.succ (fun t' h' tk' F' N' => ?_)) | (refine RangeRest.zero (fun h' tk' F' N' => ?_); rename ND _ => hS; have hS9 := ND.tl hS))))
  (k_with "UnrEnd" => ((refine' unrEnd_pick ?z76e4c1_s ?z76e4c1_p ?_; (case z76e4c1_s => assumption); (case z76e4c1_p => k_extra "PICK"); intro hS9; first | ktu_endR | k_unrEnd)))
  (k_with "M ktu_off" => ((refine' Or.inl ?z3326b3_h; (case z3326b3_h => (try dsimp only); k_extra "NEQ"))))
  (k_with "eval List" => ((k_here; k_dflt (refine' disp_list ?z72c816_F ?z72c816_N ?z72c816_hk ?z72c816_he ?z72c816_hz ?_; (case z72c816_F => k_asm); (case z72c816_N => k_asm); (case z72c816_hk => first | rfl | assumption); (case z72c816_he => exact rfl); (case z72c816_hz => exact rfl)); intro l' h' F' N' l1; (try k_lt l1))))
  (k_with "eval Tuple" => ((k_here; k_dflt (refine' disp_tuple ?zcd943b_F ?zcd943b_N ?zcd943b_hk ?zcd943b_he ?zcd943b_hz ?_; (case zcd943b_F => k_asm); (case zcd943b_N => k_asm); (case zcd943b_hk => first | rfl | assumption); (case zcd943b_he => exact rfl); (case zcd943b_hz => exact rfl)); intro l' h' F' N' l1; (try k_lt l1))))
  (k_with "spliced" => ((k_here; (with_reducible show wpAny _ _ (spliced (backTo _ (starEach (_ :: _) _))) _ _ _); k_dflt (refine' simp_all ?z919f57_hk ?z919f57_F ?z919f57_he ?_; (case z919f57_F => k_asm); (case z919f57_hk => first | rfl | assumption); (case z919f57_he => exact rfl); try dsimp only))))
  (k_with "call ref" => ((k_here; (with_reducible show wpAny _ _ (call (Value.ref 485) _) _ _ _); k_dflt (refine' prog_c ?z602a31_c ?z602a31_n ?z602a31_s ?z602a31_e ?z602a31_d ?z602a31_u ?_; (case z602a31_c => k_extra "CX"); (case z602a31_n => k_asm); (case z602a31_s => (rename ND _ => hS; exact hS)); (case z602a31_e => exact rfl); (case z602a31_d => first | omega | (show dp + 1 + 12 < recursionLimit; omega)); (case z602a31_u => first | omega | (show un + 3 + 60 < cLine; omega)); intro i' d' ops' t1' t2' t3' t4' t5' t6' t7' t8' n' tk' v2' v3' v4' v5' v6' v7' v8' h' F' N' S9'))))
  (k_with "call ref" => ((k_here; (with_reducible show wpAny _ _ (call (Value.ref 496) _) _ _ _); k_dflt (refine' pool_c ?za1cf75_c ?za1cf75_n ?za1cf75_s ?za1cf75_e ?za1cf75_hl ?za1cf75_hi ?za1cf75_hn ?za1cf75_d ?za1cf75_u ?_; (case za1cf75_c => k_extra "CX"); (case za1cf75_n => k_asm); (case za1cf75_s => (rename ND _ => hS; exact hS)); (case za1cf75_e => exact rfl); (case za1cf75_hl => assumption); (case za1cf75_hi => assumption); (case za1cf75_hn => assumption); (case za1cf75_d => omega); (case za1cf75_u => omega); intro r' a' b' ta' tb' tk' h' h1' h2' h3' F' N' S9'))))
  (k_with "call ref" => ((k_here; (with_reducible show wpAny _ _ (call (Value.ref 524) _) _ _ _); k_dflt (refine wpAny_call ?_; refine' code_defC ?zf7d0a5_k1 ?zf7d0a5_k2 ?zf7d0a5_k3 ?zf7d0a5_k4 ?zf7d0a5_k5 ?zf7d0a5_kA ?zf7d0a5_kF ?zf7d0a5_kK ?zf7d0a5_k6 ?zf7d0a5_k7 ?zf7d0a5_k8 ?zf7d0a5_k9 ?zf7d0a5_kB ?zf7d0a5_kD ?_ ?zf7d0a5_c2 ?zf7d0a5_c3 ?zf7d0a5_c4; (case zf7d0a5_kA => exact rfl); (case zf7d0a5_kF => exact rfl); (case zf7d0a5_kK => exact rfl); (case zf7d0a5_k1 => k_asm); (case zf7d0a5_k2 => k_asm); (case zf7d0a5_k3 => k_asm); (case zf7d0a5_k4 => k_asm); (case zf7d0a5_k5 => k_asm); (case zf7d0a5_k6 => k_is); (case zf7d0a5_k7 => k_is); (case zf7d0a5_k8 => k_room); (case zf7d0a5_k9 => exact BindsTo.of_eq rfl); (case zf7d0a5_kB => exact rfl); (case zf7d0a5_kD => decide +kernel); (case zf7d0a5_c2 => exact rfl); (case zf7d0a5_c3 => exact rfl); (case zf7d0a5_c4 => exact rfl); intro g' L' h' tk' cells' FG' F' N' Y' B' X' T' l1; (rename ND _ => hS; have hS2 := ND.ofNews l1 hS rfl; have hS3 := ND.succ l1 hS2 rfl; have hS4 := ND.drop2 hS3); clear l1; k_cells Y'; (try simp only [List.cons_append, List.nil_append] at N'); (try dsimp only); (try k_fold)))))
  (k_with "call ref" => ((k_here; (with_reducible show wpAny _ _ (call (Value.ref 60) _) _ _ _); k_dflt (refine' call_cls ?z6fd54f_k1 ?z6fd54f_k2 ?z6fd54f_k3 ?z6fd54f_k4 ?z6fd54f_k5 ?z6fd54f_k6 ?_; (case z6fd54f_k1 => k_asm); (case z6fd54f_k2 => k_asm); (case z6fd54f_k3 => k_asm); (case z6fd54f_k4 => k_is); (case z6fd54f_k5 => k_is); (case z6fd54f_k6 => k_is); intro x' d' h' F' N' l1 l2; (try k_lt l1); (try k_lt2 l2); k_enter))))
  (k_with "PERM" => (first | exact PermP.nil | (refine' PermP.cons ?zc1685_p ?zc1685_r; (case zc1685_p => k_extra "PICK"); (case zc1685_r => k_extra "PERM"))))
  trivial
section
variable {w : World} {mean : ExcName → Option Value} {mg mb : Str → Option Value} {A₀ : Around} {base h₀ : Heap} {outer : List Env} {cn : Str} {cs : Scope} {L ea : Addr} {ccd : Value} {cl : List (Str × Addr)} {m : Str → Option Value} {dp un : Nat} {s : Shared} {Q : Value → Shared → Prop} {E : Value → Shared → Prop}
variable {l fa : Addr} {lcd : Value} {vs : List Value} {ns : List Int} {Qf : Flow → Shared → Prop}
theorem law_start (X : (KH w.params).In h₀) (T : Top topProg lawLoose mean mg mb h₀) (B : Below A₀ h₀ [] h₀) (F : Fr h₀ L s.heap (fun y => List.lookup y [(("script" : Str), Value.ref l)])) (hl : h₀.IsList l vs.toArray) (hi : IntsAre vs ns) (hn : ns.length ≤ 63) (CH : CodeHd h₀ 523 519)
    (N : News h₀ L s.heap [(519, tabObj #[])]) (hd : dp + 60 < recursionLimit) (hu : un + 300 < cLine)
    (k : ∀ (z : W0) (texts : Addr) (ro : Obj) (tn n n0 ta tb ct tk : Nat) (ps : Array Value) (lams : List (Addr × Obj)) (a b : Int) h', Fr h₀ L h' (fun y => if y = "machine" then some (.ref z.mach) else if y = "source" then some (.ref z.src) else if y = "asked" then some (.ref z.asked) else if y = "core" then some (.ref z.core) else List.lookup y [(("script" : Str), Value.ref l)]) → News h₀ L h' ((z.mach, instObj 60 z.md) :: (z.md, dictOf (machD w.params z texts) 3) :: (texts, listOf #[] tn) :: (z.conn, instObj 485 z.cnd) :: (z.cnd, dictOf (connD w.params z 0 ct) 22) :: (z.btree, instObj 485 z.btd) :: (z.btd, dictOf (btreeD w.params z) 11) :: (z.core, instObj 391 z.cd) :: (z.cd, dictOf (coreZ w.params z) 3) :: (z.regs, ro) :: (z.cell, z.co) :: (z.asked, listOf ([] : List Value).toArray n) :: (z.src, listOf #[.int a ta, .int b tb] n0) :: (519, tabObj ps) :: lams) → ND (z.mach :: z.md :: texts :: z.conn :: z.cnd :: z.btree :: z.btd :: z.core :: z.cd :: z.regs :: z.cell :: z.asked :: z.src :: 519 :: lams.map (·.1)) → z.co.data = .cell (some (.ref z.asked)) → ro.IsDictOf (intKind prog0 w) [] → (z.regs == sysModules) = false → LamsL lams z → 0 ≤ a → 0 ≤ b → b < 2147483647 →
      wpAny (model prog0 w) (AR dp un (envOf "law" (fScope (st 38)) L fa lcd) []) (execs ((fBody (st 38)).drop 2) (envOf "law" (fScope (st 38)) L fa lcd)) Qf E { s with heap := h', toks := tk }) :
    wpAny (model prog0 w) (AR dp un (envOf "law" (fScope (st 38)) L fa lcd) []) (execs (fBody (st 38)) (envOf "law" (fScope (st 38)) L fa lcd)) Qf E s := by
  have S := ND.one 519
  (k_with "M kn_among" => (first | (rename Low _ _ => hLw; exact hLw.2 _ (by decide)) | (simp [codeAmong, rawInt]; done)))
  (k_with "M kn_triples" => (first | (rename Low _ _ => hLw; exact hLw.1) | (simp [TriplesOk, rawInt]; done)))
  (k_with "SUBLT" => (first | exact List.Sublist.refl _ | (refine' List.Sublist.cons_cons _ ?zsb_b; (case zsb_b => k_extra "SUBLT")) | (refine' List.Sublist.cons _ ?zsb_b; (case zsb_b => k_extra "SUBLT"))))
  (conv => arg 3; arg 1; whnf)
  (try k_fold)
  iterate 95 (first | (k_unfold; (try dsimp only)) | walk1 | (dsimp only; walk1))
  rename News _ _ _ _ => oN
  rename ND _ => hS
  refine' pack3 oN hS ?_
  clear oN hS
  intro tl1 N1 S1
  have hLw1 : Low 0 #[] := Low.nil
  iterate 5 (first | (k_unfold; (try dsimp only)) | walk1 | (dsimp only; walk1))
  rename News _ _ _ _ => oN
  rename ND _ => hS
  refine' pack2 hLw1 (by decide) oN hS ?_
  clear oN
  intro ps2 tl2 hLw2 mf2 mc2 up2 N2 S2
  clear hLw1
  iterate 5 (first | (k_unfold; (try dsimp only)) | walk1 | (dsimp only; walk1))
  rename News _ _ _ _ => oN
  rename ND _ => hS
  refine' pack2 hLw2 (by decide) oN hS ?_
  clear oN
  intro ps3 tl3 hLw3 mf3 mc3 up3 N3 S3
  clear hLw2
  iterate 5 (first | (k_unfold; (try dsimp only)) | walk1 | (dsimp only; walk1))
  rename News _ _ _ _ => oN
  rename ND _ => hS
  refine' pack2 hLw3 (by decide) oN hS ?_
  clear oN
  intro ps4 tl4 hLw4 mf4 mc4 up4 N4 S4
  clear hLw3
  iterate 5 (first | (k_unfold; (try dsimp only)) | walk1 | (dsimp only; walk1))
  rename News _ _ _ _ => oN
  rename ND _ => hS
  refine' pack2 hLw4 (by decide) oN hS ?_
  clear oN
  intro ps5 tl5 hLw5 mf5 mc5 up5 N5 S5
  clear hLw4
  iterate 5 (first | (k_unfold; (try dsimp only)) | walk1 | (dsimp only; walk1))
  rename News _ _ _ _ => oN
  rename ND _ => hS
  refine' pack2 hLw5 (by decide) oN hS ?_
  clear oN
  intro ps6 tl6 hLw6 mf6 mc6 up6 N6 S6
  clear hLw5
  iterate 5 (first | (k_unfold; (try dsimp only)) | walk1 | (dsimp only; walk1))
  rename News _ _ _ _ => oN
  rename ND _ => hS
  refine' pack2 hLw6 (by decide) oN hS ?_
  clear oN
  intro ps7 tl7 hLw7 mf7 mc7 up7 N7 S7
  clear hLw6
  iterate 5 (first | (k_unfold; (try dsimp only)) | walk1 | (dsimp only; walk1))
  rename News _ _ _ _ => oN
  rename ND _ => hS
  refine' pack2 hLw7 (by decide) oN hS ?_
  clear oN
  intro ps8 tl8 hLw8 mf8 mc8 up8 N8 S8
  clear hLw7
  iterate 5 (first | (k_unfold; (try dsimp only)) | walk1 | (dsimp only; walk1))
  rename News _ _ _ _ => oN
  rename ND _ => hS
  refine' pack2 hLw8 (by decide) oN hS ?_
  clear oN
  intro ps9 tl9 hLw9 mf9 mc9 up9 N9 S9
  clear hLw8
  iterate 5 (first | (k_unfold; (try dsimp only)) | walk1 | (dsimp only; walk1))
  rename News _ _ _ _ => oN
  rename ND _ => hS
  refine' pack2 hLw9 (by decide) oN hS ?_
  clear oN
  intro ps10 tl10 hLw10 mf10 mc10 up10 N10 S10
  clear hLw9
  iterate 5 (first | (k_unfold; (try dsimp only)) | walk1 | (dsimp only; walk1))
  rename News _ _ _ _ => oN
  rename ND _ => hS
  refine' pack2 hLw10 (by decide) oN hS ?_
  clear oN
  intro ps11 tl11 hLw11 mf11 mc11 up11 N11 S11
  clear hLw10
  iterate 5 (first | (k_unfold; (try dsimp only)) | walk1 | (dsimp only; walk1))
  rename News _ _ _ _ => oN
  rename ND _ => hS
  refine' pack2 hLw11 (by decide) oN hS ?_
  clear oN
  intro ps12 tl12 hLw12 mf12 mc12 up12 N12 S12
  clear hLw11
  iterate 5 (first | (k_unfold; (try dsimp only)) | walk1 | (dsimp only; walk1))
  rename News _ _ _ _ => oN
  rename ND _ => hS
  refine' pack2 hLw12 (by decide) oN hS ?_
  clear oN
  intro ps13 tl13 hLw13 mf13 mc13 up13 N13 S13
  clear hLw12
  iterate 7 (first | (k_unfold; (try dsimp only)) | walk1 | (dsimp only; walk1))
  rename News _ _ _ _ => oN
  rename ND _ => hS
  refine' pack2 hLw13 (by decide) oN hS ?_
  clear oN
  intro ps14 tl14 hLw14 mf14 mc14 up14 N14 S14
  clear hLw13
  iterate 7 (first | (k_unfold; (try dsimp only)) | walk1 | (dsimp only; walk1))
  rename News _ _ _ _ => oN
  rename ND _ => hS
  refine' pack2 hLw14 (by decide) oN hS ?_
  clear oN
  intro ps15 tl15 hLw15 mf15 mc15 up15 N15 S15
  clear hLw14
  iterate 7 (first | (k_unfold; (try dsimp only)) | walk1 | (dsimp only; walk1))
  rename News _ _ _ _ => oN
  rename ND _ => hS
  refine' pack2 hLw15 (by decide) oN hS ?_
  clear oN
  intro ps16 tl16 hLw16 mf16 mc16 up16 N16 S16
  clear hLw15
  iterate 27 (first | (k_unfold; (try dsimp only)) | walk1 | (dsimp only; walk1))
  refine' law_pack2 (lams := tl16) ?F ?N ?m_texts ?m_mach ?m_md ?m_btree ?m_btd ?m_conn ?m_cnd ?m_cell ?m_regs ?m_core ?m_cd ?m_asked ?m_src ?m_519 ?hsub ?m_f2 ?m_c2 ?m_f3 ?m_c3 ?m_f4 ?m_c4 ?m_f5 ?m_c5 ?m_f6 ?m_c6 ?m_f7 ?m_c7 ?m_f8 ?m_c8 ?m_f9 ?m_c9 ?m_f10 ?m_c10 ?m_f11 ?m_c11 ?m_f12 ?m_c12 ?m_f13 ?m_c13 ?m_f14 ?m_c14 ?m_f15 ?m_c15 ?m_f16 ?m_c16 ?S ?hco ?hr ?hsm ?l2 ?l3 ?l4 ?l5 ?l6 ?l7 ?l8 ?l9 ?l10 ?l11 ?l12 ?l13 ?l14 ?l15 ?l16 ?_
  (case F => k_asm)
  (case N => k_asm)
  (case m_mach => k_mem)
  (case m_md => k_mem)
  (case m_texts => k_mem)
  (case m_conn => k_mem)
  (case m_cnd => k_mem)
  (case m_btree => k_mem)
  (case m_btd => k_mem)
  (case m_core => k_mem)
  (case m_cd => k_mem)
  (case m_regs => k_mem)
  (case m_asked => k_mem)
  (case m_src => k_mem)
  (case m_519 => k_mem)
  (case m_f2 => exact (up16 _ (up15 _ (up14 _ (up13 _ (up12 _ (up11 _ (up10 _ (up9 _ (up8 _ (up7 _ (up6 _ (up5 _ (up4 _ (up3 _ mf2)))))))))))))))
  case' l2 => refine' ⟨_, _, _, _, _, _, rfl, ?e2, ?g2⟩
  (case m_c2 => exact (up16 _ (up15 _ (up14 _ (up13 _ (up12 _ (up11 _ (up10 _ (up9 _ (up8 _ (up7 _ (up6 _ (up5 _ (up4 _ (up3 _ mc2)))))))))))))))
  (case e2 => assumption)
  (case g2 => assumption)
  (case m_f3 => exact (up16 _ (up15 _ (up14 _ (up13 _ (up12 _ (up11 _ (up10 _ (up9 _ (up8 _ (up7 _ (up6 _ (up5 _ (up4 _ mf3))))))))))))))
  case' l3 => refine' ⟨_, _, _, _, _, _, rfl, ?e3, ?g3⟩
  (case m_c3 => exact (up16 _ (up15 _ (up14 _ (up13 _ (up12 _ (up11 _ (up10 _ (up9 _ (up8 _ (up7 _ (up6 _ (up5 _ (up4 _ mc3))))))))))))))
  (case e3 => assumption)
  (case g3 => assumption)
  (case m_f4 => exact (up16 _ (up15 _ (up14 _ (up13 _ (up12 _ (up11 _ (up10 _ (up9 _ (up8 _ (up7 _ (up6 _ (up5 _ mf4)))))))))))))
  case' l4 => refine' ⟨_, _, _, _, _, _, rfl, ?e4, ?g4⟩
  (case m_c4 => exact (up16 _ (up15 _ (up14 _ (up13 _ (up12 _ (up11 _ (up10 _ (up9 _ (up8 _ (up7 _ (up6 _ (up5 _ mc4)))))))))))))
  (case e4 => assumption)
  (case g4 => assumption)
  (case m_f5 => exact (up16 _ (up15 _ (up14 _ (up13 _ (up12 _ (up11 _ (up10 _ (up9 _ (up8 _ (up7 _ (up6 _ mf5))))))))))))
  case' l5 => refine' ⟨_, _, _, _, _, _, rfl, ?e5, ?g5⟩
  (case m_c5 => exact (up16 _ (up15 _ (up14 _ (up13 _ (up12 _ (up11 _ (up10 _ (up9 _ (up8 _ (up7 _ (up6 _ mc5))))))))))))
  (case e5 => assumption)
  (case g5 => assumption)
  (case m_f6 => exact (up16 _ (up15 _ (up14 _ (up13 _ (up12 _ (up11 _ (up10 _ (up9 _ (up8 _ (up7 _ mf6)))))))))))
  case' l6 => refine' ⟨_, _, _, _, _, _, rfl, ?e6, ?g6⟩
  (case m_c6 => exact (up16 _ (up15 _ (up14 _ (up13 _ (up12 _ (up11 _ (up10 _ (up9 _ (up8 _ (up7 _ mc6)))))))))))
  (case e6 => assumption)
  (case g6 => assumption)
  (case m_f7 => exact (up16 _ (up15 _ (up14 _ (up13 _ (up12 _ (up11 _ (up10 _ (up9 _ (up8 _ mf7))))))))))
  case' l7 => refine' ⟨_, _, _, _, _, _, rfl, ?e7, ?g7⟩
  (case m_c7 => exact (up16 _ (up15 _ (up14 _ (up13 _ (up12 _ (up11 _ (up10 _ (up9 _ (up8 _ mc7))))))))))
  (case e7 => assumption)
  (case g7 => assumption)
  (case m_f8 => exact (up16 _ (up15 _ (up14 _ (up13 _ (up12 _ (up11 _ (up10 _ (up9 _ mf8)))))))))
  case' l8 => refine' ⟨_, _, _, _, _, _, rfl, ?e8, ?g8⟩
  (case m_c8 => exact (up16 _ (up15 _ (up14 _ (up13 _ (up12 _ (up11 _ (up10 _ (up9 _ mc8)))))))))
  (case e8 => assumption)
  (case g8 => assumption)
  (case m_f9 => exact (up16 _ (up15 _ (up14 _ (up13 _ (up12 _ (up11 _ (up10 _ mf9))))))))
  case' l9 => refine' ⟨_, _, _, _, _, _, rfl, ?e9, ?g9⟩
  (case m_c9 => exact (up16 _ (up15 _ (up14 _ (up13 _ (up12 _ (up11 _ (up10 _ mc9))))))))
  (case e9 => assumption)
  (case g9 => assumption)
  (case m_f10 => exact (up16 _ (up15 _ (up14 _ (up13 _ (up12 _ (up11 _ mf10)))))))
  case' l10 => refine' ⟨_, _, _, _, _, _, rfl, ?e10, ?g10⟩
  (case m_c10 => exact (up16 _ (up15 _ (up14 _ (up13 _ (up12 _ (up11 _ mc10)))))))
  (case e10 => assumption)
  (case g10 => assumption)
  (case m_f11 => exact (up16 _ (up15 _ (up14 _ (up13 _ (up12 _ mf11))))))
  case' l11 => refine' ⟨_, _, _, _, _, _, rfl, ?e11, ?g11⟩
  (case m_c11 => exact (up16 _ (up15 _ (up14 _ (up13 _ (up12 _ mc11))))))
  (case e11 => assumption)
  (case g11 => assumption)
  (case m_f12 => exact (up16 _ (up15 _ (up14 _ (up13 _ mf12)))))
  case' l12 => refine' ⟨_, _, _, _, _, _, rfl, ?e12, ?g12⟩
  (case m_c12 => exact (up16 _ (up15 _ (up14 _ (up13 _ mc12)))))
  (case e12 => assumption)
  (case g12 => assumption)
  (case m_f13 => exact (up16 _ (up15 _ (up14 _ mf13))))
  case' l13 => refine' ⟨_, _, _, _, _, _, rfl, ?e13, ?g13⟩
  (case m_c13 => exact (up16 _ (up15 _ (up14 _ mc13))))
  (case e13 => assumption)
  (case g13 => assumption)
  (case m_f14 => exact (up16 _ (up15 _ mf14)))
  case' l14 => refine' ⟨_, _, _, _, _, _, rfl, ?e14, ?g14⟩
  (case m_c14 => exact (up16 _ (up15 _ mc14)))
  (case e14 => assumption)
  (case g14 => assumption)
  (case m_f15 => exact (up16 _ mf15))
  case' l15 => refine' ⟨_, _, _, _, _, _, rfl, ?e15, ?g15⟩
  (case m_c15 => exact (up16 _ mc15))
  (case e15 => assumption)
  (case g15 => assumption)
  (case m_f16 => exact mf16)
  case' l16 => refine' ⟨_, _, _, _, _, _, rfl, ?e16, ?g16⟩
  (case m_c16 => exact mc16)
  (case e16 => assumption)
  (case g16 => assumption)
  (case m_cell => k_mem)
  (case hsub => (intro p hp; repeat (first | exact hp | refine List.Mem.tail _ ?_)))
  (case S => (rename ND _ => hS; refine ND.sub hS ?_; dsimp only [List.cons_append, List.nil_append]; k_extra "SUBLT"))
  (case hco => assumption)
  (case hr => assumption)
  (case hsm => assumption)
  intro z texts ro tn n n0 ta tb ct ps lams hF hN hS hco hr hsm hL
  exact k z texts ro tn n n0 ta tb ct _ ps lams _ _ _ hF hN hS hco hr hsm hL (by assumption) (by assumption) (by assumption)
end

abbrev SS : List Str := ["user_version", "journal_mode"]
theorem strs2 {i : Nat} {v : Value} {t1 t2 : Nat} (h : [Value.str "user_version" t1, .str "journal_mode" t2][i]? = some v) : ∃ x t, v = .str x t ∧ x ∈ SS ∧ x.length ≤ 1000 := by
  rcases i with _ | _ | i
  · cases h; exact ⟨_, _, rfl, .head _, by decide⟩
  · cases h; exact ⟨_, _, rfl, .tail _ (.head _), by decide⟩
  · simp at h
/-- what register 1 may hold -/
inductive IsW : Value → Prop
  | none : IsW .none
  | zero (t : Nat) : IsW (.int 0 t)
  | five (t : Nat) : IsW (.int 5 t)
  | wal (t : Nat) : IsW (.str "wal" t)
theorem isW4 {i : Nat} {v : Value} {t1 t2 t3 : Nat} (h : [Value.none, Value.int 0 t1, Value.int 5 t2, Value.str "wal" t3][i]? = some v) : IsW v := by
  rcases i with _ | _ | _ | _ | i
  · cases h; exact .none
  · cases h; exact .zero _
  · cases h; exact .five _
  · cases h; exact .wal _
  · simp at h
theorem IsW.isF {v : Value} (h : IsW v) : IsF v := by
  cases h
  · exact .none
  · exact .int _ _
  · exact .int _ _
  · exact .str _ _ (by decide +kernel)
/-- two plain values of one datum -/
inductive Alk : Value → Value → Prop
  | none : Alk .none .none
  | int (i : Int) (t u : Nat) : Alk (.int i t) (.int i u)
  | str (x : Str) (t u : Nat) (h : PyData.strOk x = true) : Alk (.str x t) (.str x u)
theorem Alk.of {v : Value} (h : IsF v) : Alk v v := by
  cases h
  · exact .none
  · exact .int _ _ _
  · exact .str _ _ _ (by assumption)
theorem Alk.data {h : Heap} {v u : Value} (x : Alk v u) : ∃ d, Reads h v d [] ∧ Reads h u d [] ∧ d.canLay0 = true ∧ d.depth = 0 ∧ PyData.eqv d d = true := by
  cases x
  · exact ⟨_, .none, .none, rfl, rfl, rfl⟩
  · exact ⟨_, .int _ _, .int _ _, rfl, rfl, by simp [PyData.eqv]⟩
  · exact ⟨_, .str _ _, .str _ _, by assumption, rfl, by simp [PyData.eqv]⟩
inductive Alks : List Value → List Value → Prop
  | nil : Alks [] []
  | cons {v u vs us} : Alk v u → Alks vs us → Alks (v :: vs) (u :: us)
theorem Alks.data {h : Heap} {vs us : List Value} (x : Alks vs us) : ∃ ds, ReadsAll h vs ds [] ∧ ReadsAll h us ds [] ∧ PyData.canLayAll0 ds = true ∧ PyData.depthAll ds = 0 ∧ PyData.eqvAll ds ds = true := by
  induction x with
  | nil => exact ⟨_, .nil, .nil, rfl, rfl, rfl⟩
  | cons a _ ih =>
    obtain ⟨ds, h1, h2, h3, h4, h5⟩ := ih
    obtain ⟨d, g1, g2, g3, g4, g5⟩ := a.data (h := h)
    exact ⟨d :: ds, .cons g1 h1, .cons g2 h2, by simp [PyData.canLayAll0, g3, h3], by simp [PyData.depthAll, g4, h4], by simp [PyData.eqvAll, g5, h5]⟩
theorem news_mid8 {h₀ h : Heap} {L : Addr} {p a b c d e f g i : Addr × Obj} {l : List (Addr × Obj)} (N : News h₀ L h (p :: a :: b :: c :: d :: e :: f :: g :: i :: l)) : News h₀ L h (p :: l) := news_sub N fun x hx => by
  rcases List.mem_cons.mp hx with rfl | hx
  · exact .head _
  · exact .tail _ (.tail _ (.tail _ (.tail _ (.tail _ (.tail _ (.tail _ (.tail _ (.tail _ hx))))))))
theorem ND.mid8 {p a b c d e f g i : Addr} {l : List Addr} (N : ND (p :: a :: b :: c :: d :: e :: f :: g :: i :: l)) : ND (p :: l) := ND.sub N (.cons_cons _ (.cons _ (.cons _ (.cons _ (.cons _ (.cons _ (.cons _ (.cons _ (.cons _ (List.Sublist.refl _))))))))))
theorem news_mid6 {h₀ h : Heap} {L : Addr} {p a b c d e f : Addr × Obj} {l : List (Addr × Obj)} (N : News h₀ L h (a :: b :: p :: c :: d :: e :: f :: l)) : News h₀ L h (p :: l) := news_sub N fun x hx => by
  rcases List.mem_cons.mp hx with rfl | hx
  · exact .tail _ (.tail _ (.head _))
  · exact .tail _ (.tail _ (.tail _ (.tail _ (.tail _ (.tail _ (.tail _ hx))))))
theorem ND.mid6 {p a b c d e f : Addr} {l : List Addr} (N : ND (a :: b :: p :: c :: d :: e :: f :: l)) : ND (p :: l) := ND.sub N (.cons _ (.cons _ (.cons_cons _ (.cons _ (.cons _ (.cons _ (.cons _ (List.Sublist.refl _))))))))
/-- seven registers, as the law's dict takes them -/
abbrev regs0 (kvs : List (Int × Value)) : List (Int × Value) := [(1, (valueAt kvs 1).getD .none), (2, (valueAt kvs 2).getD .none), (3, (valueAt kvs 3).getD .none), (4, (valueAt kvs 4).getD .none), (5, (valueAt kvs 5).getD .none), (6, (valueAt kvs 6).getD .none), (7, (valueAt kvs 7).getD .none)]
theorem regs0_at {kvs : List (Int × Value)} {i : Int} (h1 : 1 ≤ i) (h2 : i < 8) : valueAt (regs0 kvs) i = some ((valueAt kvs i).getD .none) := by
  obtain rfl | rfl | rfl | rfl | rfl | rfl | rfl : i = 1 ∨ i = 2 ∨ i = 3 ∨ i = 4 ∨ i = 5 ∨ i = 6 ∨ i = 7 := by omega
  all_goals rfl
theorem regs0_nd {kvs : List (Int × Value)} : ((regs0 kvs).map (·.1)).Nodup := by
  show [(1 : Int), 2, 3, 4, 5, 6, 7].Nodup
  decide
theorem isF_at {kvs : List (Int × Value)} (h : ∀ p ∈ kvs, IsF p.2) (i : Int) : IsF ((valueAt kvs i).getD .none) := by
  unfold valueAt
  cases q : kvs.find? fun kv => kv.1 = i with
  | none => exact .none
  | some p => exact h p (List.mem_of_find?_eq_some q)
/-- the law's dict, brought up to date, and the registers behind the step say the same -/
def Same (kvs lkv kvs' : List (Int × Value)) : Prop := ∀ i : Int, 1 ≤ i → i < 8 → ∃ v, valueAt (merged (regs0 kvs) lkv) i = some v ∧ Alk ((valueAt kvs' i).getD .none) v
theorem Same.nil {kvs : List (Int × Value)} (h : ∀ p ∈ kvs, IsF p.2) : Same kvs [] kvs := fun i h1 h2 => ⟨_, regs0_at h1 h2, .of (isF_at h i)⟩
theorem Same.snoc {kvs lkv kvs' : List (Int × Value)} {k : Int} {v u : Value} (h : Same kvs lkv kvs') (a : Alk v u) : Same kvs (lkv ++ [(k, u)]) (stored kvs' k v) := fun i h1 h2 => by
  have e : merged (regs0 kvs) (lkv ++ [(k, u)]) = stored (merged (regs0 kvs) lkv) k u := by unfold merged; rw [List.foldl_append]; rfl
  rw [e, valueAt_stored, valueAt_stored]
  split
  · exact ⟨u, rfl, a⟩
  · exact h i h1 h2
theorem Same.at {kvs lkv kvs' : List (Int × Value)} (h : Same kvs lkv kvs') (i : Int) (h1 : 1 ≤ i) (h2 : i < 8) : valueAt (merged (regs0 kvs) lkv) i = some ((valueAt (merged (regs0 kvs) lkv) i).getD .none) := by
  obtain ⟨v, e, _⟩ := h i h1 h2
  rw [e]; rfl
theorem Same.alk {kvs lkv kvs' : List (Int × Value)} (h : Same kvs lkv kvs') (i : Int) (h1 : 1 ≤ i) (h2 : i < 8) : Alk ((valueAt kvs' i).getD .none) ((valueAt (merged (regs0 kvs) lkv) i).getD .none) := by
  obtain ⟨v, e, a⟩ := h i h1 h2
  rw [e]; exact a
/-- a row of plain values: its datum -/
def RowIs (row : Array Value) (rs : List PyData) : Prop := ∀ h, ReadsAll h row.toList rs []
def ShowOk (rs : List PyData) : Prop := (PyData.list [.tuple rs]).hasDict = false ∧ (PyData.list [.tuple rs]).showable = true ∧ (PyData.list [.tuple rs]).depth ≤ 2 ∧ (PyData.list [.tuple rs]).shown.length ≤ sizeLine
inductive PairsIn (news : List (Addr × Obj)) : List Value → List (Int × Value) → Prop
  | nil : PairsIn news [] []
  | cons {a t i j v u vs ps} : (a, tupOf #[.int i t, v]) ∈ news → i = j → v = u → PairsIn news vs ps → PairsIn news (.ref a :: vs) ((j, u) :: ps)
theorem PairsIn.len {news : List (Addr × Obj)} {vs : List Value} {ps : List (Int × Value)} (x : PairsIn news vs ps) : ps.length = vs.length := by
  induction x with
  | nil => rfl
  | cons _ _ _ _ ih => simp [ih]
theorem PairsIn.at {h₀ h : Heap} {L : Addr} {news : List (Addr × Obj)} (N : News h₀ L h news) {vs : List Value} {ps : List (Int × Value)} (x : PairsIn news vs ps) : ∀ j v, vs[j]? = some v → PairAt h ps j v := by
  induction x with
  | nil => intro j v h; simp at h
  | @cons a t i j' v' u vs ps hm e1 e2 _ ih =>
    subst e1; subst e2
    intro j v h
    cases j with
    | zero => cases h; exact ⟨a, t, _, rfl, rfl, (N _ hm).1⟩
    | succ j => exact ih j v h
section
variable {w : World} {A : Around} {E : Value → Shared → Prop} {s : Shared} {h₀ : Heap} {L : Addr} {m : Str → Option Value} {news : List (Addr × Obj)}
theorem dict_pairs {l : Addr} {vs : List Value} {ps : List (Int × Value)} {n : Nat} {Q : Value → Shared → Prop} (F : Fr h₀ L s.heap m) (N : News h₀ L s.heap news) (hbig : h₀.NoLimit) (hA : A.handled = none) (hm : (l, listOf vs.toArray n) ∈ news) (hp : PairsIn news vs ps) (hn : (ps.map (·.1)).Nodup) (hz : vs.length ≤ 900)
    (h : ∀ d o h' tk, Fr h₀ L h' m → News h₀ L h' ((d, o) :: news) → (∀ p ∈ news, p.1 < d) → (d == sysModules) = false → o.IsDictOf (intKind prog0 w) ps → Q (.ref d) { s with heap := h', toks := tk }) :
    wpAny (model prog0 w) A (call (.type "dict") [.ref l]) Q E s := by
  refine call_dict_list (ps := ps) hA (N _ hm).1 (by simpa using hz) (by simpa using hp.len) (fun j v hv => hp.at N j v (by simpa using hv)) fun h' tk hd hk => ?_
  rw [merged_nil_of_nodup _ hn] at hd
  obtain ⟨o, ho, hd⟩ := Heap.dictOf_iff.mp hd
  refine h _ o h' tk (F.keeps hk) (fun p hp => ?_) (fun p hp => Heap.lt_size (N p hp).1) (F.notModules (modules_low hbig)) hd
  rcases List.mem_cons.mp hp with rfl | hp
  · exact ⟨ho, Nat.ne_of_gt F.ns.lt, next_is_new F⟩
  · exact ⟨hk _ _ (N p hp).1, (N p hp).2⟩
theorem dict_any {w : World} {h₀ h : Heap} {L : Addr} {m : Str → Option Value} {news : List (Addr × Obj)} {vs : List (Value × Value)} {P : Heap → Prop} (F : Fr h₀ L h m) (N : News h₀ L h news) (hbig : h₀.NoLimit) (hk : allIntKeys vs = true) (hn : ((intKeyPairs vs).map (·.1)).Nodup)
    (k : ∀ h' o, Fr h₀ L h' m → News h₀ L h' ((h.objs.size, o) :: news) → (∀ p ∈ news, p.1 < h.objs.size) → (h.objs.size == sysModules) = false → o.IsDictOf (intKind prog0 w) (intKeyPairs vs) → P h') :
    ∃ kvs, Carries (intKind prog0 w) vs kvs ∧ (h.push { cls := .type "dict", data := .dict #[] }).DictOf (intKind prog0 w) h.objs.size [] ∧ ∀ h', h'.DictOf (intKind prog0 w) h.objs.size (merged [] kvs) → Heap.SameBut h.objs.size (h.push { cls := .type "dict", data := .dict #[] }) h' → P h' :=
  made_int F N hk hn fun h' o F' N' hd => k h' o F' N' (fun p hp => Heap.lt_size (N p hp).1) (F.notModules (modules_low hbig)) hd
theorem upd_method {d : Addr} {o : Obj} {kvs : List (Int × Value)} {pl : Sem Bool} {Q : Value × List Value → Shared → Prop} (N : News h₀ L s.heap news) (hp : (d, o) ∈ news) (hd : o.IsDictOf (intKind prog0 w) kvs) (h : Q (.builtin "dict.update", [.ref d]) s) : wpAny (model prog0 w) A (getMethod (.ref d) "update" pl) Q E s :=
  have hD := kda_dict N hp hd
  getMethod_builtin hD.typeIs PySem.F.plainAttrs_dict PySem.F.slot_dict_update PySem.F.type_dict_update hD.mapOf.noDict h
theorem upd_call {d l : Addr} {o ol : Obj} {g : Obj → List (Addr × Obj)} {kvs more : List (Int × Value)} {Q : Value → Shared → Prop} (F : Fr h₀ L s.heap m) (N : News h₀ L s.heap news) (U : UpdF d o news g) (hd : o.IsDictOf (intKind prog0 w) kvs) (hl : (l, ol) ∈ news) (hol : ol.IsDictOf (intKind prog0 w) more) (hne : d ≠ l) (lo : (l == sysModules) = false) (hz : kvs.length + more.length ≤ 1000)
    (h : ∀ h' o', Fr h₀ L h' m → News h₀ L h' (g o') → o'.IsDictOf (intKind prog0 w) (merged kvs more) → Q .none { s with heap := h' }) : wpAny (model prog0 w) A (call (.builtin "dict.update") [.ref d, .ref l]) Q E s := by
  have hD2 := kda_dict N hl hol
  obtain ⟨pre, post, rfl, hg, a, b⟩ := U.split
  have hm := N (d, o) (List.mem_append_right _ (.head _))
  have hD : s.heap.DictOf (intKind prog0 w) d kvs := Heap.dictOf_iff.mpr ⟨o, hm.1, hd⟩
  refine call_meetsIn PySem.F.slot_dict_update hD.typeIs PySem.F.entry_dict_update (PySem.F.args_dict_update_2 _ _) (meets_dict_update (intKind prog0 w) d l hne lo) ⟨kvs, more, hD, hD2, Nat.le_trans hz (by decide), fun h' hmm _ hs => ?_⟩
  obtain ⟨o', ho', hd'⟩ := Heap.dictOf_iff.mp hmm
  exact h h' o' (F.change hs hm.2.1 hm.2.2) (hg o' ▸ N.setIn a b hs ho') hd'
theorem repr_row {D r : Addr} {row : Array Value} {rs : List PyData} {n : Nat} {Q : Value → Shared → Prop} (F : Fr h₀ L s.heap m) (N : News h₀ L s.heap news) (m1 : (D, listOf #[.ref r] n) ∈ news) (m2 : (r, tupOf row) ∈ news) (hrow : RowIs row rs) (hs : ShowOk rs) (hg : A.guards = some []) (hu : A.units + 10 < cLine)
    (h : ∀ X h' u tk, X = (PyData.list [.tuple rs]).shown → Fr h₀ L h' m → News h₀ L h' news → Q (.str X u) { s with heap := h', toks := tk }) : wpAny (model prog0 w) A (call (.builtin "repr") [.ref D]) Q E s :=
  repr_HN F N (Reads.list (N _ m1).1 rfl rfl (ReadsAll.cons (Reads.tuple (N _ m2).1 rfl rfl (hrow _)) ReadsAll.nil)) hs.1 hs.2.1 hg (by have := hs.2.2.1; omega) (fun h' u tk => h _ h' u tk rfl) hs.2.2.2
theorem ne_same {X Y T : Str} {t u : Nat} {Q : Value → Shared → Prop} (e1 : X = T) (e2 : Y = T) (h : Q (.bool false) s) : wpAny (model prog0 w) A (compareOp .NotEq (.str X t) (.str Y u)) Q E s := by
  subst e1; subst e2
  exact PyProof.Rows.ne_str (by simpa using h)
theorem eq_alks {a b : Addr} {xs ys : List Value} {n n2 : Nat} {Q : Value → Shared → Prop} (N : News h₀ L s.heap news) (m1 : (a, listOf xs.toArray n) ∈ news) (m2 : (b, listOf ys.toArray n2) ∈ news) (e : Alks xs ys) (hu : A.units + 64 < cLine) (h : Q (.bool true) s) :
    wpAny (model prog0 w) A (compareOp .Eq (.ref a) (.ref b)) Q E s := by
  obtain ⟨ds, h1, h2, h3, h4, h5⟩ := e.data (h := s.heap)
  refine eq_dataH (reads_list_at (N _ m1).1 rfl rfl h1) (reads_list_at (N _ m2).1 rfl rfl h2) (by simp [SeqAt.shaped, PyData.canLay0, PyData.depth, h3, h4]) (by simp [SeqAt.shaped, PyData.canLay0, PyData.depth, h3, h4]) hu ?_
  simpa [PyData.eqv, h5] using h
end
theorem ND.two_up {L : Addr} {as : List Addr} {news : List (Addr × Obj)} (l : ∀ p ∈ news, p.1 < L) (s : ND as) (e : news.map (·.1) = as) : ND ((L + 2 : Addr) :: (L + 1 : Addr) :: as) := by
  subst e
  have lt : ∀ a ∈ news.map (·.1), a < L := fun a ha => by
    obtain ⟨p, hp, rfl⟩ := List.mem_map.mp ha
    exact l p hp
  refine List.nodup_cons.mpr ⟨fun h => ?_, List.nodup_cons.mpr ⟨fun h => ?_, s⟩⟩
  · rcases List.mem_cons.mp h with h | h
    · exact absurd h (Nat.ne_of_gt (Nat.lt_succ_self _))
    · exact absurd (lt _ h) (Nat.not_lt.mpr (Nat.le_add_right _ _))
  · exact absurd (lt _ h) (Nat.not_lt.mpr (Nat.le_add_right _ _))
section
variable {prog : Program} {w : World} {A₀ A : Around} {s : Shared} {base h₀ : Heap} {outer : List Env} {L : Addr} {m : Str → Option Value} {env : Env} {news : List (Addr × Obj)}
  {R : Result → Shared → Prop} {name qual : Str} {params : Arguments} {body : List Stmt} {scope : Scope} {dV kV doc pm cdv ct : Value} {an : Option Addr} {fo : Obj} {f : Addr} {args : Args} {binds : List (Str × Value)}
/-- a def with cells of its own, called: what its ground keeps is told (callG is the like for a def without) -/
theorem callGC (B : Below A₀ base outer h₀) (F : Fr h₀ L s.heap m) (N : News h₀ L s.heap news) (hlim : h₀.NoLimit) (hA : A.frames = some (env :: outer)) (hf : env.frame = some L) (hke : env.scope.kind = .function)
    (ho : s.heap.get? f = some fo) (hd : fo.data = .func (fnX name qual params body scope [] dV kV doc pm an cdv ct)) (hcd : s.heap.CodeRec cdv qual) (hroom : A.depth < recursionLimit)
    (hbind : BindsTo s (fnX name qual params body scope [] dV kV doc pm an cdv ct) args binds)
    (hkind : ∀ n, ∀ x ∈ binds, scope.names.lookup x.1 = some .local ∨ (scope.names.lookup x.1 = some .cell ∧ ((cellsFrom n scope.names []).lookup x.1).isSome = true))
    (hnd : ((cellsFrom 0 scope.names []).map (·.1)).Nodup)
    (h : ∀ g L' h₁ tk cells, (∀ b o, s.heap.get? b = some o → b ∉ news.map (·.1) → g.get? b = some o) → Fr h₀ L g m → Fr g L' h₁ (bindL (envOfC qual scope L' f cdv).kindOf binds fun _ => none) → News g L' h₁ (cells ++ news) →
      CellsAre (bindC (envOfC qual scope L' f cdv).kindOf binds fun _ => none) (cellsFrom (L' + 1) scope.names []) cells → Below A base (env :: outer) g → h₀.StaysIn g → (∀ p ∈ news, p.1 < L') →
      wpAny (model prog w) (A.deeper (envOfC qual scope L' f cdv)) (execs body (envOfC qual scope L' f cdv))
        (fun fl s' => LeaveK h₀ L m g R (match fl with | .ret v => v | _ => .none) s')
        (fun _ _ => False) { s with heap := h₁, toks := tk })
    (hco : scope.isCoroutine = false) (hgen : scope.isGenerator = false) (hk : scope.kind = .function) : codeAny (model prog w) A (.call (.ref f) args) R s := by
  have G := groundX (R := R) B F N hA hf hke
  refine codeAny_call_function hroom ho hd hco hgen rfl hcd (hbind _ _ _ _ (wpAny_newFunctionEnv_cells hk (hkind _) fun env' he s' x => ?_))
  subst he
  refine ⟨(hlim.keeps F.keep).keeps x.toInCall.keep, codeAny_func ?_⟩
  obtain ⟨h₁, tk, rfl, _⟩ := x.done
  have up := x.toInCall.keep
  obtain ⟨cells, NC, Y⟩ := Cl.news (h₀ := s.heap) (Nat.le_refl _) fun n c hm => ⟨x.cell n c (lookup_of_mem_nodup (cellsFrom_names scope.names 0 (s.heap.objs.size + 1) [] [] rfl ▸ hnd) hm), x.above n c hm⟩
  have NN : News (hideAll s.heap (news.map (·.1))) s.heap.objs.size h₁ (cells ++ news) := fun p hp => by
    rcases List.mem_append.mp hp with hp | hp
    · have z := NC p hp
      refine ⟨z.1, z.2.1, ?_⟩
      cases q : (hideAll s.heap (news.map (·.1))).get? p.1 with
      | none => rfl
      | some o => have := of_hideAll _ q; rw [z.2.2] at this; cases this
    · exact ⟨up _ _ (N p hp).1, Nat.ne_of_lt (Heap.lt_size (N p hp).1), hideAll_none _ (List.mem_map_of_mem hp)⟩
  have FF : Fr (hideAll s.heap (news.map (·.1))) s.heap.objs.size h₁ _ := ⟨x.toInCall.ns, fun b o e => up b o (of_hideAll _ e), Nat.le_of_eq (hideAll_size _ _)⟩
  exact wpAny_mono (h _ _ h₁ tk cells (fun b o e hb => hideAll_get _ e hb) G.1 FF NN Y G.2.1 G.2.2.1 fun p hp => Heap.lt_size (N p hp).1) (fun _ s' hl => G.2.2.2 _ s' hl) fun _ _ y => y.elim
end
section
variable {w : World} {mean : ExcName → Option Value} {mg mb : Str → Option Value} {A₀ : Around} {base h₀ : Heap} {outer : List Env} {env : Env} {L : Addr} {m : Str → Option Value} {dp un : Nat} {s : Shared} {news : List (Addr × Obj)}
  {Q : Value → Shared → Prop} {E : Value → Shared → Prop}
abbrev opEnv (L c2 c1 : Addr) : Env := envX "_law_opcode_right" (fScope (st 34)) L 541 (.ref 540) [("registers", c2), ("core", c1)]
abbrev opMap (src mach asked : Value) : Str → Option Value := fun y => if y = "asked" then some asked else if y = "machine" then some mach else if y = "source" then some src else none
/-- _law_opcode_right, called: two of its names are cells -/
theorem enter_op {src core mach asked : Value} (X : (KH w.params).In h₀) (T : Top topProg lawLoose mean mg mb h₀) (B : Below A₀ base outer h₀) (F : Fr h₀ L s.heap m) (N : News h₀ L s.heap news) (hf : env.frame = some L) (hk : env.scope.kind = .function) (hroom : dp < recursionLimit)
    (h : ∀ g L' h₁ tk co2 co1, (∀ b o, s.heap.get? b = some o → b ∉ news.map (·.1) → g.get? b = some o) → Fr h₀ L g m → Fr g L' h₁ (opMap src mach asked) → News g L' h₁ ((L' + 2, co2) :: (L' + 1, co1) :: news) → co2.data = .cell none → co1.data = .cell (some core) →
      Below (AR dp un env outer) base (env :: outer) g → (KH w.params).In g → Top topProg lawLoose mean mg mb g → (∀ p ∈ news, p.1 < L') →
      wpAny (model prog0 w) (AR (dp + 1) (un + 3) (opEnv L' (L' + 2) (L' + 1)) (env :: outer)) (execs (fBody (st 34)) (opEnv L' (L' + 2) (L' + 1)))
        (fun fl s' => LeaveK h₀ L m g (fun r s' => match r with | .ok (.ret v) => Q v s' | .ok _ => False | .error e => E e s') (match fl with | .ret v => v | _ => .none) s')
        (fun _ _ => False) { s with heap := h₁, toks := tk }) :
    wpAny (model prog0 w) (AR dp un env outer) (call (.ref 541) [src, core, mach, asked]) Q E s := by
  have ho : (KH w.params).lookup (nat_lit 541) = some _ := rfl
  refine wpAny_call (callGC (binds := [(("source" : Str), src), (("core" : Str), core), (("machine" : Str), mach), (("asked" : Str), asked)]) B F N T.nolimit rfl hf hk ((X.keeps F.keep) _ _ ho) rfl (codeRec_of (X.keeps F.keep) (by rfl)) hroom (BindsTo.of_eq rfl) ?_ (by decide +kernel) (fun g L' h₁ tk cells z a b c d e t u => ?_) rfl rfl rfl)
  · intro n x hx
    simp only [List.mem_cons, List.not_mem_nil, or_false] at hx
    rcases hx with rfl | rfl | rfl | rfl
    · exact .inl rfl
    · exact .inr ⟨rfl, rfl⟩
    · exact .inl rfl
    · exact .inl rfl
  · obtain ⟨co2, co1, rfl, d2, d1⟩ := d.two
    exact wpAny_mono (h g L' h₁ tk co2 co1 z a b c d2 d1 e (X.keeps t) (T.keeps t) u) (fun _ _ x => x) fun _ _ x => x.elim
end

def lcOf : PySem.Expr → PySem.Expr × Scope
  | .ListComp e _ sc _ => (e, sc)
  | e => (e, fScope (st 34))
def cmpA : PySem.Expr := match (fBody (st 34))[(4 : Nat)]? with
  | some (.Assign _ (.Call _ [lc] _ _) _) => lc
  | _ => .Constant .none 0 ⟨0, 0, 0, 0⟩
def cmpB : PySem.Expr := match (fBody (st 34))[(7 : Nat)]? with
  | some (.Return (some (.Compare l _ _ _)) _) => l
  | _ => .Constant .none 0 ⟨0, 0, 0, 0⟩
def cmpC : PySem.Expr := match (fBody (st 34))[(7 : Nat)]? with
  | some (.Return (some (.Compare _ _ [r] _)) _) => r
  | _ => .Constant .none 0 ⟨0, 0, 0, 0⟩
def getA : PySem.Expr := match (lcOf cmpA).1 with
  | .Tuple [_, g] _ _ => g
  | e => e
def gets (f : Int → Value) : Nat → Nat → List Value
  | 0, _ => []
  | n + 1, i => f (1 + (i : Int)) :: gets f n (i + 1)
def pairs (f : Int → Value) : Nat → Nat → List (Int × Value)
  | 0, _ => []
  | n + 1, i => (1 + (i : Int), f (1 + (i : Int))) :: pairs f n (i + 1)
theorem gets_len {f : Int → Value} : ∀ n i, (gets f n i).length = n
  | 0, _ => rfl
  | n + 1, i => congrArg (· + 1) (gets_len n (i + 1))
theorem alks_gets {kvs lkv kvs' : List (Int × Value)} (h : Same kvs lkv kvs') : ∀ n i : Nat, i + n ≤ 7 → Alks (gets (fun j => (valueAt kvs' j).getD .none) n i) (gets (fun j => (valueAt (merged (regs0 kvs) lkv) j).getD .none) n i)
  | 0, _, _ => .nil
  | n + 1, i, hi => .cons (h.alk _ (by omega) (by omega)) (alks_gets h n (i + 1) (by omega))
theorem PairsIn.mono {l l' : List (Addr × Obj)} {vs : List Value} {ps : List (Int × Value)} (x : PairsIn l vs ps) (h : ∀ p ∈ l, p ∈ l') : PairsIn l' vs ps := by
  induction x with
  | nil => exact .nil
  | cons m e1 e2 _ ih => exact .cons (h _ m) e1 e2 ih
theorem news_dropA {h₀ h : Heap} {L : Addr} {p q : Addr × Obj} {o l : List (Addr × Obj)} (N : News h₀ L h (p :: q :: (o ++ l))) : News h₀ L h (p :: l) := news_sub N fun x hx => by
  rcases List.mem_cons.mp hx with rfl | hx
  · exact .head _
  · exact .tail _ (.tail _ (List.mem_append_right _ hx))
theorem ND.dropA {p q : Addr} {o l : List (Addr × Obj)} (N : ND (p :: q :: (o ++ l).map (·.1))) : ND (p :: l.map (·.1)) := by
  rw [List.map_append] at N
  exact ND.sub N (.cons_cons _ (.cons _ (List.sublist_append_right _ _)))
theorem fillIt34 : PySem.Challenge.rw_pb0451_01 = PySem.Challenge.rw_pb0451_01 ∧ KH = KH := by k_fill; exact ⟨rfl, rfl⟩
theorem klines_G7_0 : True := by
  k_with_none
  (k_with "subscriptTail Name Constant ref int" => ((k_here; (with_reducible show wpAny _ _ (subscriptTail _ _ (Value.ref _) (Value.int _ _)) _ _ _); (with_unfolding_all refine' item_litK ?z73ea9d_k1 ?z73ea9d_k2 ?z73ea9d_k3 ?z73ea9d_k4 ?_ ?z73ea9d_k6; (case z73ea9d_k1 => is_list); (case z73ea9d_k2 => decide); (case z73ea9d_k3 => decide); (case z73ea9d_k4 => rfl); (case z73ea9d_k6 => with_unfolding_all rfl); k_whole))))
  (k_with "ENTER" => (((case k6 => k_is); (case k7 => k_is); (case k8 => omega); (case k9 => exact BindsTo.of_eq rfl); (case kB => (conv => lhs; whnf)); (case kL => exact locs rfl); (case c2 => exact rfl); (case c3 => exact rfl); (case c4 => exact rfl); (case c5 => decide); intro g' L' h' HG' FG' F' N' B' X' T' l'; (try dsimp only); k_fold)))
  (k_with "GO" => (repeat' (first | (k_unfold; (try dsimp only)) | (k_end; wrow_close) | walk1 | (dsimp only; walk1))))
  (k_with "ATF" => (first | refine' AtF.head | (refine' AtF.tail ?zaeb911_b; (case zaeb911_b => k_extra "ATF"))))
  (k_with "AT" => (first | refine' At.head | (refine' At.tail ?z4c4c10_b; (case z4c4c10_b => k_extra "AT"))))
  (k_with "M k_upd" => ((rename ND _ => hS; refine' upd_sd ?z531fe4_a hS ?z531fe4_e; (case z531fe4_a => k_extra "AT"); (case z531fe4_e => rfl))))
  (k_with "M k_updF" => ((rename ND _ => hS; refine' updF_sd ?zc7fe0e_a hS ?zc7fe0e_e; (case zc7fe0e_a => k_extra "ATF"); (case zc7fe0e_e => rfl))))
  (k_with "M kn_among" => ((simp [codeAmong, rawInt]; done)))
  (k_with "M kn_triples" => ((simp [TriplesOk, rawInt]; done)))
  (k_with "M k_room" => ((first | omega | ((try simp only [depth_mark, depth_under_make, depth_under_kw, depth_in1, depth_deeper, depth_caller]); omega))))
  (k_with "SUB" => (first | exact List.forall_mem_nil _ | (refine' List.forall_mem_cons.mpr ⟨?z3be472_h, ?z3be472_t⟩; (case z3be472_h => k_mem); (case z3be472_t => k_extra "SUB"))))
  (k_with "ATS" => (first | refine' Ats.nil | (refine' Ats.hit ?z9e6f72_b; (case z9e6f72_b => k_extra "ATS")) | (refine' Ats.skip ?z9e6f72_b; (case z9e6f72_b => k_extra "ATS"))))
  (k_with "CX" => ((refine' ⟨?za4188e_x1, ?za4188e_x2, ?za4188e_x3, ?za4188e_x4, ?za4188e_x5⟩; (case za4188e_x1 => k_asm); (case za4188e_x2 => k_asm); (case za4188e_x3 => k_asm); (case za4188e_x4 => k_asm); (case za4188e_x5 => first | rfl | assumption))))
  (k_with "NSUB" => ((refine' news_sub ?za05c2b_N ?za05c2b_s; (case za05c2b_N => (rename News _ _ _ _ => oN; exact oN)); (case za05c2b_s => k_extra "SUB"))))
  (k_with "getMethod ref" => ((k_here; (with_reducible show wpAny _ _ (getMethod (Value.ref _) (Str.ofString "get") _) _ _ _); k_dflt (refine' kdg_method (knd := intKind prog0 _) ?z1e447a_N ?z1e447a_m ?z1e447a_d ?_; (case z1e447a_N => k_asm); (case z1e447a_m => k_mem); (case z1e447a_d => assumption)))))
  (k_with "call builtin:dict.get" => ((k_here; k_dflt (refine' kdg_get1 (knd := intKind prog0 _) ?z9e4d13_N ?z9e4d13_m ?z9e4d13_d ?z9e4d13_l ?z9e4d13_k _ rfl ?_; (case z9e4d13_N => k_asm); (case z9e4d13_m => k_mem); (case z9e4d13_d => assumption); (case z9e4d13_l => assumption); (case z9e4d13_k => exact intKind_is _ _ _ _)))))
  (k_with "KSEL" => (first | exact fun _ h => absurd h List.not_mem_nil | (refine' List.forall_mem_cons.mpr ⟨?zf64061_h, ?zf64061_t⟩; (case zf64061_h => first | exact Or.inl (by k_mem) | (refine' Or.inr ⟨_, News.get ?zf64061_n1 ?zf64061_m1, News.get ?zf64061_n2 ?zf64061_m2⟩; (case zf64061_n1 => k_asm); (case zf64061_m1 => k_mem); (case zf64061_n2 => k_asm); (case zf64061_m2 => k_mem))); (case zf64061_t => k_extra "KSEL"))))
  (k_with "KEPT" => ((refine' Kept.sel (kept_of ?z6ac77d_hg ?z6ac77d_f) ?z6ac77d_s; (case z6ac77d_hg => assumption); (case z6ac77d_f => assumption); (case z6ac77d_s => k_extra "KSEL"))))
  (k_with "SUBM" => (first | exact fun _ h => absurd h List.not_mem_nil | (refine' List.forall_mem_cons.mpr ⟨?zaff134_h, ?zaff134_t⟩; (case zaff134_h => k_mem); (case zaff134_t => k_extra "SUBM"))))
  (k_with "FRESH" => ((refine' fresh_of ?z9e8148_hg ?z9e8148_n ?z9e8148_m ?z9e8148_nd ?z9e8148_hs; (case z9e8148_hg => assumption); (case z9e8148_n => assumption); (case z9e8148_m => k_mem); (case z9e8148_nd => first | assumption | exact ND.tl (by assumption) | exact ND.tl (ND.tl (by assumption)) | exact ND.tl (ND.tl (ND.tl (by assumption)))); (case z9e8148_hs => k_extra "SUBM"))))
  (k_with "AT?" => ((refine' News.get ?z4603e9_n1 ?z4603e9_m1; (case z4603e9_n1 => k_asm); (case z4603e9_m1 => k_mem))))
  (k_with "NDSUB" => ((refine' ND.sub ?zb41ab3_s ?zb41ab3_l; (case zb41ab3_s => assumption); (case zb41ab3_l => k_extra "SUBL"))))
  (k_with "SUBL" => (first | exact List.nil_sublist _ | (refine' List.Sublist.cons_cons _ ?ze75662_b; (case ze75662_b => k_extra "SUBL")) | (refine' List.Sublist.cons _ ?ze75662_b; (case ze75662_b => k_extra "SUBL"))))
  (k_with "NDSUB" => (first | (refine' ND.sub ?ze76779_s ?ze76779_l; (case ze76779_s => assumption); (case ze76779_l => k_extra "SUBL")) | (refine' ND.p3 (ND.sub ?ze76779_s ?ze76779_l); (case ze76779_s => assumption); (case ze76779_l => k_extra "SUBL"))))
  (k_with "NEQ" => ((rename ND _ => hS; first | exact ND.ne_l hS (by k_mem) | exact ND.ne_r hS (by k_mem) | (have hS2 := ND.tl hS; k_extra "NEQ"))))
  (k_with "PICK" => (first | refine' Pick.head | (refine' Pick.tail ?z677e40_b; (case z677e40_b => k_extra "PICK"))))
  (k_with "RangeRest" => ((with_unfolding_all first | (refine RangeRest.succ (fun t' h' tk' F' N' => ?_)) | (refine RangeRest.zero (fun h' tk' F' N' => ?_); rename ND _ => hS; have hS9 := ND.tl hS))))
  (k_with "UnrEnd" => ((refine' unrEnd_pick ?z76e4c1_s ?z76e4c1_p ?_; (case z76e4c1_s => assumption); (case z76e4c1_p => k_extra "PICK"); intro hS9; first | ktu_endR | k_unrEnd)))
  (k_with "M ktu_off" => ((refine' Or.inl ?z3326b3_h; (case z3326b3_h => (try dsimp only); k_extra "NEQ"))))
  (k_with "call ref" => ((k_here; (with_reducible show wpAny _ _ (call (Value.ref 348) _) _ _ _); k_dflt (refine' get_v ?z5f229e_c ?z5f229e_n ?z5f229e_s ?z5f229e_hr ?z5f229e_sm ?z5f229e_d ?z5f229e_hv ?_; (case z5f229e_c => k_extra "CX"); (case z5f229e_n => k_extra "NSUB"); (case z5f229e_hr => assumption); (case z5f229e_sm => assumption); (case z5f229e_s => k_extra "NDSUB"); (case z5f229e_d => omega); (case z5f229e_hv => rfl); intro tk' h' F' hK'; (rename News _ _ _ _ => oN); have N' := news_kept oN hK' (fun _ _ h => nomatch h); clear oN))))
  (k_with "subscriptTail Name Name ref int" => ((k_here; (with_reducible show wpAny _ _ (subscriptTail _ _ (Value.ref _) (Value.int _ _)) _ _ _); k_dflt (refine' kda_item (knd := intKind prog0 _) ?ze65cca_N ?ze65cca_m ?ze65cca_d ?ze65cca_k ?ze65cca_v ?_ ?ze65cca_hs ?ze65cca_hg; (case ze65cca_N => k_asm); (case ze65cca_m => k_mem); (case ze65cca_d => assumption); (case ze65cca_k => exact intKind_is _ _ _ _); (case ze65cca_v => assumption); (case ze65cca_hs => with_unfolding_all rfl); (case ze65cca_hg => (intro _; with_unfolding_all rfl))))))
  trivial
section
variable {w : World} {mean : ExcName → Option Value} {mg mb : Str → Option Value} {A₀ : Around} {base h₀ : Heap} {outer : List Env} {cn : Str} {cs : Scope} {L ea : Addr} {ccd : Value} {cl : List (Str × Addr)} {m : Str → Option Value} {dp un : Nat} {s : Shared} {Q : Value → Shared → Prop} {E : Value → Shared → Prop}
variable {z : W0} {c2 c1 : Addr} {ro co1 : Obj} {kvs : List (Int × Value)}
theorem get_coreA {C : Addr} {oC : Obj} {m2 : Str → Option Value} {i : Int} {t : Nat} (X : (KH w.params).In h₀) (T : Top topProg lawLoose mean mg mb h₀) (B : Below A₀ base outer h₀) (F : Fr h₀ L s.heap m)
    (N : News h₀ L s.heap [(C, oC), (c1, co1), (z.core, instObj 391 z.cd), (z.cd, dictOf (coreZ w.params z) 3), (z.regs, ro)]) (S : ND [C, c1, z.core, z.cd, z.regs]) (hc1 : co1.data = .cell (some (.ref z.core))) (hr : ro.IsDictOf (intKind prog0 w) kvs) (hsm : (z.regs == sysModules) = false) (hC : LCg.NsObj oC m2) (hx : m2 "at" = some (.int i t)) (hd : dp + 10 < recursionLimit)
    (k : ∀ tk h', Fr h₀ L h' m → Kept [] s.heap h' → Q ((valueAt kvs i).getD .none) { s with heap := h', toks := tk }) :
    wpAny (model prog0 w) (AR dp un (opEnv L c2 c1) outer) (eval getA (compEnvC (lcOf cmpB).2 [("core", c1)] C (opEnv L c2 c1))) Q E s := by
  (conv => arg 3; arg 1; whnf)
  k_extra "GO"
  first
    | exact k _ _ (by assumption) (by assumption)
    | exact k _ _ (by assumption) (fun b o e _ => e)
theorem get_coreB {C : Addr} {oC : Obj} {m2 : Str → Option Value} {i : Int} {t : Nat} (X : (KH w.params).In h₀) (T : Top topProg lawLoose mean mg mb h₀) (B : Below A₀ base outer h₀) (F : Fr h₀ L s.heap m)
    (N : News h₀ L s.heap [(C, oC), (c1, co1), (z.core, instObj 391 z.cd), (z.cd, dictOf (coreZ w.params z) 3), (z.regs, ro)]) (S : ND [C, c1, z.core, z.cd, z.regs]) (hc1 : co1.data = .cell (some (.ref z.core))) (hr : ro.IsDictOf (intKind prog0 w) kvs) (hsm : (z.regs == sysModules) = false) (hC : LCg.NsObj oC m2) (hx : m2 "at" = some (.int i t)) (hd : dp + 10 < recursionLimit)
    (k : ∀ tk h', Fr h₀ L h' m → Kept [] s.heap h' → Q ((valueAt kvs i).getD .none) { s with heap := h', toks := tk }) :
    wpAny (model prog0 w) (AR dp un (opEnv L c2 c1) outer) (eval (lcOf cmpB).1 (compEnvC (lcOf cmpB).2 [("core", c1)] C (opEnv L c2 c1))) Q E s := by
  (conv => arg 3; arg 1; whnf)
  k_extra "GO"
  first
    | exact k _ _ (by assumption) (by assumption)
    | exact k _ _ (by assumption) (fun b o e _ => e)
theorem turn_A {C : Addr} {oC : Obj} {m2 : Str → Option Value} {i : Int} {t : Nat} (X : (KH w.params).In h₀) (T : Top topProg lawLoose mean mg mb h₀) (B : Below A₀ base outer h₀) (F : Fr h₀ L s.heap m)
    (N : News h₀ L s.heap [(C, oC), (c1, co1), (z.core, instObj 391 z.cd), (z.cd, dictOf (coreZ w.params z) 3), (z.regs, ro)]) (S : ND [C, c1, z.core, z.cd, z.regs]) (hc1 : co1.data = .cell (some (.ref z.core))) (hr : ro.IsDictOf (intKind prog0 w) kvs) (hsm : (z.regs == sysModules) = false) (hC : LCg.NsObj oC m2) (hx : m2 "at" = some (.int i t)) (hd : dp + 10 < recursionLimit)
    (k : ∀ (tp : Addr) tk h', Fr h₀ L h' m → Kept [] s.heap h' → h'.get? tp = some (tupOf #[.int i t, (valueAt kvs i).getD .none]) → s.heap.get? tp = none → Q (.ref tp) { s with heap := h', toks := tk }) :
    wpAny (model prog0 w) (AR dp un (opEnv L c2 c1) outer) (eval (lcOf cmpA).1 (compEnvC (lcOf cmpA).2 [("core", c1)] C (opEnv L c2 c1))) Q E s := by
  (conv => arg 3; arg 1; whnf)
  refine wpAny_Tuple (spliced_more (LCgL.ld_own N (.head _) hC hx (spliced_more (get_coreA X T B F N S hc1 hr hsm hC hx hd fun tk h' F' hK => spliced_none ⟨show 2 ≤ sizeLine by decide, ?_⟩))))
  refine k _ _ _ (F'.push _) (fun b o e hb => Heap.get?_push_of_some _ (hK b o e hb)) (Heap.get?_push_size _ rfl) ?_
  cases q : s.heap.get? h'.objs.size with
  | none => rfl
  | some o => exact absurd (Heap.lt_size (hK _ _ q (fun x => nomatch x))) (Nat.lt_irrefl _)
theorem turn_C {C d : Addr} {oC co2 od : Obj} {v : Value} {m2 : Str → Option Value} {i : Int} {t : Nat} (X : (KH w.params).In h₀) (T : Top topProg lawLoose mean mg mb h₀) (B : Below A₀ base outer h₀) (F : Fr h₀ L s.heap m)
    (N : News h₀ L s.heap [(C, oC), (d, od), (c2, co2)]) (S : ND [C, d, c2]) (hc2 : co2.data = .cell (some (.ref d))) (hdo : od.IsDictOf (intKind prog0 w) kvs) (hC : LCg.NsObj oC m2) (hx : m2 "at" = some (.int i t)) (hd : dp + 10 < recursionLimit) (hv : valueAt kvs i = some v) 
    (k : ∀  tk h', Fr h₀ L h' m → Kept [] s.heap h' → Q v { s with heap := h', toks := tk }) :
    wpAny (model prog0 w) (AR dp un (opEnv L c2 c1) outer) (eval (lcOf cmpC).1 (compEnvC (lcOf cmpC).2 [("registers", c2)] C (opEnv L c2 c1))) Q E s := by
  (conv => arg 3; arg 1; whnf)
  k_extra "GO"
  exact k _ _ (by assumption) (fun b o e _ => e)
theorem small {C I D : Addr} {oI oC : Obj} {ys : List Value} {news l : List (Addr × Obj)} {h : Heap} (N : News h₀ L h ((I, oI) :: (C, oC) :: (D, LCg.lst ys) :: news)) (hm : ∀ p ∈ l, p ∈ news) (nd : ND (l.map (·.1))) (off : LCg.Off3 I C D news) : News h₀ L h ((C, oC) :: l) ∧ ND (C :: l.map (·.1)) :=
  ⟨fun p hp => (List.mem_cons.mp hp).elim (fun e => e ▸ N _ (.tail _ (.head _))) fun hp => N p (.tail _ (.tail _ (.tail _ (hm p hp)))), List.nodup_cons.mpr ⟨fun h => by
    obtain ⟨p, hp, e⟩ := List.mem_map.mp h
    exact (off.mem p (hm p hp)).2.1 e, nd⟩⟩
abbrev CL (w : World) (z : W0) (c1 : Addr) (co1 ro : Obj) : List (Addr × Obj) := [(c1, co1), (z.core, instObj 391 z.cd), (z.cd, dictOf (coreZ w.params z) 3), (z.regs, ro)]
theorem comp_A {Fin : List Value → List (Addr × Obj) → Prop} (X : (KH w.params).In h₀) (T : Top topProg lawLoose mean mg mb h₀) (B : Below A₀ base outer h₀) (S : ND [c1, z.core, z.cd, z.regs]) (hc1 : co1.data = .cell (some (.ref z.core))) (hr : ro.IsDictOf (intKind prog0 w) kvs) (hsm : (z.regs == sysModules) = false) (hd : dp + 10 < recursionLimit) :
    ∀ (n i : Nat) (ys : List Value) (news : List (Addr × Obj)), (∀ p ∈ CL w z c1 co1 ro, p ∈ news) → ND (news.map (·.1)) → (∀ us objs, PairsIn (objs ++ news) us (pairs (fun j => (valueAt kvs j).getD .none) n i) → ND ((objs ++ news).map (·.1)) → Fin (ys ++ us) (objs ++ news)) →
      LCg.CompRest prog0 w (AR dp un (opEnv L c2 c1) outer) h₀ L m (opEnv L c2 c1) (lcOf cmpA).1 "at" (lcOf cmpA).2 [("core", c1)] s (fun _ => True) (fun i v => ∃ t, v = .int (1 + (i : Int)) t) Fin n i ys news
  | 0, i, ys, news, hm, nd, k => LCg.CompRest.zero (by simpa using k [] [] .nil nd)
  | n + 1, i, ys, news, hm, nd, k => LCg.CompRest.succ fun v I oI C oC D m2 h tk E' hv hC hx F N off ne => by
    obtain ⟨t, rfl⟩ := hv
    obtain ⟨N2, S2⟩ := small N hm S off
    refine turn_A (s := { s with heap := h, toks := tk }) X T B F N2 S2 hc1 hr hsm hC hx hd fun tp tk' h' F' hK g f => ?_
    have ndall : ND ((I :: C :: D :: news.map (·.1))) := nd_comp nd off ne rfl
    have N3 : News h₀ L h' ((tp, tupOf #[.int (1 + (i : Int)) t, (valueAt kvs (1 + (i : Int))).getD .none]) :: (I, oI) :: (C, oC) :: (D, LCg.lst ys) :: news) := with_back1 (ch := []) N ndall rfl hK (List.forall_mem_nil _) f g F Ats.nil fun x => x
    have nd3 : ND (tp :: I :: C :: D :: news.map (·.1)) := ND.fresh ndall N rfl f
    refine LCg.CompEnd.intro F' N3 ((tp, tupOf #[.int (1 + (i : Int)) t, (valueAt kvs (1 + (i : Int))).getD .none]) :: news) (fun p hp => ?_) (LCg.Off3.of fun p hp => ?_) trivial (comp_A X T B S hc1 hr hsm hd n (i + 1) (ys ++ [.ref tp]) ((tp, tupOf #[.int (1 + (i : Int)) t, (valueAt kvs (1 + (i : Int))).getD .none]) :: news) (fun p hp => .tail _ (hm p hp)) (ND.sub nd3 (.cons_cons _ (.cons _ (.cons _ (.cons _ (List.Sublist.refl _)))))) fun us objs hp hnd => ?_)
    · simp only [List.mem_cons] at hp ⊢
      rcases hp with h | h | h | h | h <;> simp [h]
    · rcases List.mem_cons.mp hp with rfl | hp
      · exact ⟨ND.ne_l nd3 (.head _), ND.ne_l nd3 (.tail _ (.head _)), ND.ne_l nd3 (.tail _ (.tail _ (.head _)))⟩
      · exact off.mem p hp
    · have := k (.ref tp :: us) (objs ++ [(tp, tupOf #[.int (1 + (i : Int)) t, (valueAt kvs (1 + (i : Int))).getD .none])]) (by rw [List.append_assoc]; exact .cons (List.mem_append_right _ (.head _)) rfl rfl hp) (by rw [List.append_assoc]; exact hnd)
      rw [List.append_assoc] at this
      rw [List.append_assoc]
      exact this
theorem comp_B {Fin : List Value → List (Addr × Obj) → Prop} {news : List (Addr × Obj)} (X : (KH w.params).In h₀) (T : Top topProg lawLoose mean mg mb h₀) (B : Below A₀ base outer h₀) (S : ND [c1, z.core, z.cd, z.regs]) (hc1 : co1.data = .cell (some (.ref z.core))) (hr : ro.IsDictOf (intKind prog0 w) kvs) (hsm : (z.regs == sysModules) = false) (hd : dp + 10 < recursionLimit) (hm : ∀ p ∈ CL w z c1 co1 ro, p ∈ news) :
    ∀ (n i : Nat) (ys : List Value), Fin (ys ++ gets (fun j => (valueAt kvs j).getD .none) n i) news →
      LCg.CompRest prog0 w (AR dp un (opEnv L c2 c1) outer) h₀ L m (opEnv L c2 c1) (lcOf cmpB).1 "at" (lcOf cmpB).2 [("core", c1)] s (fun _ => True) (fun i v => ∃ t, v = .int (1 + (i : Int)) t) Fin n i ys news
  | 0, i, ys, k => LCg.CompRest.zero (by simpa [gets] using k)
  | n + 1, i, ys, k => LCg.CompRest.succ fun v I oI C oC D m2 h tk E' hv hC hx F N off ne => by
    obtain ⟨t, rfl⟩ := hv
    obtain ⟨N2, S2⟩ := small N hm S off
    refine get_coreB (s := { s with heap := h, toks := tk }) X T B F N2 S2 hc1 hr hsm hC hx hd fun tk' h' F' hK => ?_
    exact LCg.CompEnd.intro F' (news_kept N hK fun _ _ h => nomatch h) news (fun _ h => h) off trivial (comp_B X T B S hc1 hr hsm hd hm n (i + 1) _ (by rw [List.append_assoc]; exact k))
theorem comp_C {Fin : List Value → List (Addr × Obj) → Prop} {news : List (Addr × Obj)} {d : Addr} {co2 od : Obj} {kv2 lkv kvs' : List (Int × Value)} (X : (KH w.params).In h₀) (T : Top topProg lawLoose mean mg mb h₀) (B : Below A₀ base outer h₀) (S : ND [d, c2]) (hc2 : co2.data = .cell (some (.ref d))) (hdo : od.IsDictOf (intKind prog0 w) (merged (regs0 kv2) lkv)) (hs : Same kv2 lkv kvs') (hd : dp + 10 < recursionLimit) (hm : ∀ p ∈ [(d, od), (c2, co2)], p ∈ news) :
    ∀ (n i : Nat) (ys : List Value), i + n ≤ 7 → Fin (ys ++ gets (fun j => (valueAt (merged (regs0 kv2) lkv) j).getD .none) n i) news →
      LCg.CompRest prog0 w (AR dp un (opEnv L c2 c1) outer) h₀ L m (opEnv L c2 c1) (lcOf cmpC).1 "at" (lcOf cmpC).2 [("registers", c2)] s (fun _ => True) (fun i v => ∃ t, v = .int (1 + (i : Int)) t) Fin n i ys news
  | 0, i, ys, hi, k => LCg.CompRest.zero (by simpa [gets] using k)
  | n + 1, i, ys, hi, k => LCg.CompRest.succ fun v I oI C oC D m2 h tk E' hv hC hx F N off ne => by
    obtain ⟨t, rfl⟩ := hv
    obtain ⟨N2, S2⟩ := small N hm S off
    refine turn_C (s := { s with heap := h, toks := tk }) X T B F N2 S2 hc2 hdo hC hx hd (hs.at _ (by omega) (by omega)) fun tk' h' F' hK => ?_
    exact LCg.CompEnd.intro F' (news_kept N hK fun _ _ h => nomatch h) news (fun _ h => h) off trivial (comp_C X T B S hc2 hdo hs hd hm n (i + 1) _ (by omega) (by rw [List.append_assoc]; exact k))
end

/-- what is asked of the step of one opcode -/
def StepOk (w : World) (h₀ : Heap) (L : Addr) (dp un : Nat) (env : Env) (outer : List Env) (z : W0) (texts : Addr) (ro : Obj) (tn n : Nat) (vs : List Value) (kvs lkv : List (Int × Value)) (rs : List PyData) (opl : Addr) (ol : Obj) : Prop :=
  ∀ (m : Str → Option Value) (s : Shared) (t : Nat) (cc : Int) (ct : Nat) (Q E : Value → Shared → Prop), Fr h₀ L s.heap m → News h₀ L s.heap [(opl, ol), (z.mach, instObj 60 z.md), (z.md, dictOf (machD w.params z texts) 3), (z.conn, instObj 485 z.cnd), (z.cnd, dictOf (connD w.params z cc ct) 22), (z.btree, instObj 485 z.btd), (z.btd, dictOf (btreeD w.params z) 11), (z.core, instObj 391 z.cd), (z.cd, dictOf (coreZ w.params z) 3), (z.regs, ro), (z.cell, z.co), (z.asked, listOf vs.toArray n)] → ND [opl, z.mach, z.md, z.conn, z.cnd, z.btree, z.btd, z.core, z.cd, z.regs, z.cell, z.asked] →
    (∀ (r : Addr) (row : Array Value) (ro' : Obj) (kvs' : List (Int × Value)) (n' tk : Nat) h', Fr h₀ L h' m → h'.get? r = some (tupOf row) → s.heap.get? r = none → h'.get? z.asked = some (listOf (vs ++ [Value.ref r]).toArray n') → h'.get? z.regs = some ro' → ro'.IsDictOf (intKind prog0 w) kvs' → kvs'.length ≤ kvs.length + 3 → (∀ p ∈ kvs', IsF p.2) → RowIs row rs → Same kvs lkv kvs' → Kept [z.regs, z.asked] s.heap h' → Q (.int 9 t) { s with heap := h', toks := tk }) →
    wpAny (model prog0 w) (AR dp un env outer) (call (.ref 50) [.ref z.mach, .ref opl, .int 9 t]) Q E s
theorem StepOk.use {w : World} {h₀ : Heap} {L : Addr} {dp un : Nat} {env : Env} {outer : List Env} {z : W0} {texts : Addr} {ro : Obj} {tn n : Nat} {vs : List Value} {kvs lkv : List (Int × Value)} {rs : List PyData} {opl : Addr} {ol : Obj} (x : StepOk w h₀ L dp un env outer z texts ro tn n vs kvs lkv rs opl ol) {m : Str → Option Value} {s : Shared} {t : Nat} {cc : Int} {ct : Nat} {Q E : Value → Shared → Prop} (F : Fr h₀ L s.heap m) (N : News h₀ L s.heap [(opl, ol), (z.mach, instObj 60 z.md), (z.md, dictOf (machD w.params z texts) 3), (z.conn, instObj 485 z.cnd), (z.cnd, dictOf (connD w.params z cc ct) 22), (z.btree, instObj 485 z.btd), (z.btd, dictOf (btreeD w.params z) 11), (z.core, instObj 391 z.cd), (z.cd, dictOf (coreZ w.params z) 3), (z.regs, ro), (z.cell, z.co), (z.asked, listOf vs.toArray n)]) (S : ND [opl, z.mach, z.md, z.conn, z.cnd, z.btree, z.btd, z.core, z.cd, z.regs, z.cell, z.asked])
    (k : ∀ (r : Addr) (row : Array Value) (ro' : Obj) (kvs' : List (Int × Value)) (n' tk : Nat) h', Fr h₀ L h' m → h'.get? r = some (tupOf row) → s.heap.get? r = none → h'.get? z.asked = some (listOf (vs ++ [Value.ref r]).toArray n') → h'.get? z.regs = some ro' → ro'.IsDictOf (intKind prog0 w) kvs' → kvs'.length ≤ kvs.length + 3 → (∀ p ∈ kvs', IsF p.2) → RowIs row rs → Same kvs lkv kvs' → Kept [z.regs, z.asked] s.heap h' → Q (.int 9 t) { s with heap := h', toks := tk }) :
    wpAny (model prog0 w) (AR dp un env outer) (call (.ref 50) [.ref z.mach, .ref opl, .int 9 t]) Q E s := x m s t cc ct Q E F N S k
theorem fillIt28 : PySem.Challenge.rw_pb0451_01 = PySem.Challenge.rw_pb0451_01 ∧ KH = KH := by k_fill; exact ⟨rfl, rfl⟩
theorem klines_G2_0 : True := by
  k_with_none
  (k_with "subscriptTail Name Constant ref int" => ((k_here; (with_reducible show wpAny _ _ (subscriptTail _ _ (Value.ref _) (Value.int _ _)) _ _ _); (with_unfolding_all refine' item_litK ?z73ea9d_k1 ?z73ea9d_k2 ?z73ea9d_k3 ?z73ea9d_k4 ?_ ?z73ea9d_k6; (case z73ea9d_k1 => is_list); (case z73ea9d_k2 => decide); (case z73ea9d_k3 => decide); (case z73ea9d_k4 => rfl); (case z73ea9d_k6 => with_unfolding_all rfl); k_whole))))
  (k_with "ENTER" => (((case k6 => k_is); (case k7 => k_is); (case k8 => omega); (case k9 => exact BindsTo.of_eq rfl); (case kB => (conv => lhs; whnf)); (case kL => exact locs rfl); (case c2 => exact rfl); (case c3 => exact rfl); (case c4 => exact rfl); (case c5 => decide); intro g' L' h' HG' FG' F' N' B' X' T' l'; (try dsimp only); k_fold)))
  (k_with "GO" => (repeat' (first | (k_unfold; (try dsimp only)) | (k_end; wrow_close) | walk1 | (dsimp only; walk1))))
  (k_with "ATF" => (first | refine' AtF.head | (refine' AtF.tail ?zaeb911_b; (case zaeb911_b => k_extra "ATF"))))
  (k_with "AT" => (first | refine' At.head | (refine' At.tail ?z4c4c10_b; (case z4c4c10_b => k_extra "AT"))))
  (k_with "M k_upd" => ((rename ND _ => hS; refine' upd_sd ?z531fe4_a hS ?z531fe4_e; (case z531fe4_a => k_extra "AT"); (case z531fe4_e => rfl))))
  (k_with "M k_updF" => ((rename ND _ => hS; refine' updF_sd ?zc7fe0e_a hS ?zc7fe0e_e; (case zc7fe0e_a => k_extra "ATF"); (case zc7fe0e_e => rfl))))
  (k_with "M kn_among" => ((simp [codeAmong, rawInt]; done)))
  (k_with "M kn_triples" => ((simp [TriplesOk, rawInt]; done)))
  (k_with "M k_room" => ((first | omega | ((try simp only [depth_mark, depth_under_make, depth_under_kw, depth_in1, depth_deeper, depth_caller]); omega))))
  (k_with "SUB" => (first | exact List.forall_mem_nil _ | (refine' List.forall_mem_cons.mpr ⟨?z3be472_h, ?z3be472_t⟩; (case z3be472_h => k_mem); (case z3be472_t => k_extra "SUB"))))
  (k_with "ATS" => (first | refine' Ats.nil | (refine' Ats.hit ?z9e6f72_b; (case z9e6f72_b => k_extra "ATS")) | (refine' Ats.skip ?z9e6f72_b; (case z9e6f72_b => k_extra "ATS"))))
  (k_with "CX" => ((refine' ⟨?za4188e_x1, ?za4188e_x2, ?za4188e_x3, ?za4188e_x4, ?za4188e_x5⟩; (case za4188e_x1 => k_asm); (case za4188e_x2 => k_asm); (case za4188e_x3 => k_asm); (case za4188e_x4 => k_asm); (case za4188e_x5 => first | rfl | assumption))))
  (k_with "NSUB" => ((refine' news_sub ?za05c2b_N ?za05c2b_s; (case za05c2b_N => (rename News _ _ _ _ => oN; exact oN)); (case za05c2b_s => k_extra "SUB"))))
  (k_with "getMethod ref" => ((k_here; (with_reducible show wpAny _ _ (getMethod (Value.ref _) (Str.ofString "get") _) _ _ _); k_dflt (refine' kdg_method (knd := intKind prog0 _) ?z1e447a_N ?z1e447a_m ?z1e447a_d ?_; (case z1e447a_N => k_asm); (case z1e447a_m => k_mem); (case z1e447a_d => assumption)))))
  (k_with "call builtin:dict.get" => ((k_here; k_dflt (refine' kdg_get1 (knd := intKind prog0 _) ?z9e4d13_N ?z9e4d13_m ?z9e4d13_d ?z9e4d13_l ?z9e4d13_k _ rfl ?_; (case z9e4d13_N => k_asm); (case z9e4d13_m => k_mem); (case z9e4d13_d => assumption); (case z9e4d13_l => assumption); (case z9e4d13_k => exact intKind_is _ _ _ _)))))
  (k_with "KSEL" => (first | exact fun _ h => absurd h List.not_mem_nil | (refine' List.forall_mem_cons.mpr ⟨?zf64061_h, ?zf64061_t⟩; (case zf64061_h => first | exact Or.inl (by k_mem) | (refine' Or.inr ⟨_, News.get ?zf64061_n1 ?zf64061_m1, News.get ?zf64061_n2 ?zf64061_m2⟩; (case zf64061_n1 => k_asm); (case zf64061_m1 => k_mem); (case zf64061_n2 => k_asm); (case zf64061_m2 => k_mem))); (case zf64061_t => k_extra "KSEL"))))
  (k_with "KEPT" => ((refine' Kept.sel (kept_of ?z6ac77d_hg ?z6ac77d_f) ?z6ac77d_s; (case z6ac77d_hg => assumption); (case z6ac77d_f => assumption); (case z6ac77d_s => k_extra "KSEL"))))
  (k_with "SUBM" => (first | exact fun _ h => absurd h List.not_mem_nil | (refine' List.forall_mem_cons.mpr ⟨?zaff134_h, ?zaff134_t⟩; (case zaff134_h => k_mem); (case zaff134_t => k_extra "SUBM"))))
  (k_with "FRESH" => ((refine' fresh_of ?z9e8148_hg ?z9e8148_n ?z9e8148_m ?z9e8148_nd ?z9e8148_hs; (case z9e8148_hg => assumption); (case z9e8148_n => assumption); (case z9e8148_m => k_mem); (case z9e8148_nd => first | assumption | exact ND.tl (by assumption) | exact ND.tl (ND.tl (by assumption)) | exact ND.tl (ND.tl (ND.tl (by assumption)))); (case z9e8148_hs => k_extra "SUBM"))))
  (k_with "AT?" => ((refine' News.get ?z4603e9_n1 ?z4603e9_m1; (case z4603e9_n1 => k_asm); (case z4603e9_m1 => k_mem))))
  (k_with "NDSUB" => ((refine' ND.sub ?zb41ab3_s ?zb41ab3_l; (case zb41ab3_s => assumption); (case zb41ab3_l => k_extra "SUBL"))))
  (k_with "SUBL" => (first | exact List.nil_sublist _ | (refine' List.Sublist.cons_cons _ ?ze75662_b; (case ze75662_b => k_extra "SUBL")) | (refine' List.Sublist.cons _ ?ze75662_b; (case ze75662_b => k_extra "SUBL"))))
  (k_with "BACK0" => ((intro tk' h' F' hK'; (rename News _ _ _ _ => oN); have N' := news_kept oN hK' (fun _ _ h => nomatch h); clear oN hK')))
  (k_with "NDSUB" => (first | (refine' ND.sub ?ze76779_s ?ze76779_l; (case ze76779_s => assumption); (case ze76779_l => k_extra "SUBL")) | (refine' ND.p3 (ND.sub ?ze76779_s ?ze76779_l); (case ze76779_s => assumption); (case ze76779_l => k_extra "SUBL"))))
  (k_with "NEQ" => ((rename ND _ => hS; first | exact ND.ne_l hS (by k_mem) | exact ND.ne_r hS (by k_mem) | (have hS2 := ND.tl hS; k_extra "NEQ"))))
  (k_with "PICK" => (first | refine' Pick.head | (refine' Pick.tail ?z677e40_b; (case z677e40_b => k_extra "PICK"))))
  (k_with "RangeRest" => ((with_unfolding_all first | (refine RangeRest.succ (fun t' h' tk' F' N' => ?_)) | (refine RangeRest.zero (fun h' tk' F' N' => ?_); rename ND _ => hS; have hS9 := ND.tl hS))))
  (k_with "UnrEnd" => ((refine' unrEnd_pick ?z76e4c1_s ?z76e4c1_p ?_; (case z76e4c1_s => assumption); (case z76e4c1_p => k_extra "PICK"); intro hS9; first | ktu_endR | k_unrEnd)))
  (k_with "M ktu_off" => ((refine' Or.inl ?z3326b3_h; (case z3326b3_h => (try dsimp only); k_extra "NEQ"))))
  (k_with "eval List" => ((k_here; k_dflt (refine' disp_list ?z72c816_F ?z72c816_N ?z72c816_hk ?z72c816_he ?z72c816_hz ?_; (case z72c816_F => k_asm); (case z72c816_N => k_asm); (case z72c816_hk => first | rfl | assumption); (case z72c816_he => exact rfl); (case z72c816_hz => exact rfl)); intro l' h' F' N' l1; (try k_lt l1))))
  (k_with "eval Tuple" => ((k_here; k_dflt (refine' disp_tuple ?zcd943b_F ?zcd943b_N ?zcd943b_hk ?zcd943b_he ?zcd943b_hz ?_; (case zcd943b_F => k_asm); (case zcd943b_N => k_asm); (case zcd943b_hk => first | rfl | assumption); (case zcd943b_he => exact rfl); (case zcd943b_hz => exact rfl)); intro l' h' F' N' l1; (try k_lt l1))))
  (k_with "spliced" => ((k_here; (with_reducible show wpAny _ _ (spliced (backTo _ (starEach (_ :: _) _))) _ _ _); k_dflt (refine' simp_all ?z919f57_hk ?z919f57_F ?z919f57_he ?_; (case z919f57_F => k_asm); (case z919f57_hk => first | rfl | assumption); (case z919f57_he => exact rfl); try dsimp only))))
  (k_with "call ref" => ((k_here; (with_reducible show wpAny _ _ (call (Value.ref 348) _) _ _ _); k_dflt (refine' get_v ?zdb1ea9_c ?zdb1ea9_n ?zdb1ea9_s ?zdb1ea9_hr ?zdb1ea9_sm ?zdb1ea9_d ?zdb1ea9_hv ?_; (case zdb1ea9_c => k_extra "CX"); (case zdb1ea9_n => k_extra "NSUB"); (case zdb1ea9_hr => assumption); (case zdb1ea9_sm => assumption); (case zdb1ea9_s => k_extra "NDSUB"); (case zdb1ea9_d => omega); (case zdb1ea9_hv => first | assumption | exact get_stored | rfl); k_extra "BACK0"))))
  (k_with "M k_offL" => ((rename ND _ => hS; exact OffI.of_nd hS)))
  (k_with "UnrEnd" => ((refine' unrEnd_pick ?zba9df2_s ?zba9df2_p ?_; (case zba9df2_s => assumption); (case zba9df2_p => k_extra "PICK"); intro hS9; k_unrEndL)))
  (k_with "ListRest" => ((with_unfolding_all first | (refine ListRest.succ (fun it' h' tk' hit' F' N' => ?_)) | (refine ListRest.zero (fun h' tk' F' N' => ?_); rename ND _ => hS; have hS9 := ND.tl hS))))
  (k_with "compareOp Eq ref ref" => ((k_here; (with_reducible show wpAny _ _ (compareOp CmpOp.Eq (Value.ref _) (Value.ref _)) _ _ _); k_dflt (refine' eq_one ?zeb1da7_N ?zeb1da7_m1 ?zeb1da7_m2 ?zeb1da7_e1 ?zeb1da7_e2 ?zeb1da7_ho ?zeb1da7_u ?_; (case zeb1da7_N => k_asm); (case zeb1da7_m1 => k_mem); (case zeb1da7_m2 => k_mem); (case zeb1da7_e1 => assumption); (case zeb1da7_e2 => assumption); (case zeb1da7_ho => exact (Kd.show_ok (by assumption) (by assumption)).2.2.2.2); (case zeb1da7_u => omega)))))
  (k_with "M lcg_off" => ((rename ND (_ :: _ :: _ :: _) => hS; exact off3_of_nd hS rfl)))
  (k_with "CompRest" => ((with_unfolding_all first | (refine LCg.CompRest.succ ?_; intro v' I' oI' C' oC' D' m' h' tk' E' hv' hC' hx' F' N' off' ne'; (rename ND _ => hS); (have hS9 := nd_comp hS off' ne' rfl); clear off'; (first | lcg_open hv' | (obtain ⟨t9', hv9'⟩ := hv'; subst hv9'))) | refine LCg.CompRest.zero ?_)))
  (k_with "CompEnd" => ((refine' comp_end ?z44caad_s ?z44caad_p1 ?z44caad_p2 ?z44caad_p3 ?_; (case z44caad_s => assumption); (case z44caad_p1 => k_extra "PICK"); (case z44caad_p2 => k_extra "PICK"); (case z44caad_p3 => k_extra "PICK"); intro hS9; lcg_end; have hS10 := ND.tl (ND.tl (ND.tl hS9)))))
  (k_with "FinE" => (((unfold LCg.FinE); intro D' h' tk' F' N' o1'; (rename ND _ => hS); (have hS9 := nd_fin hS o1' rfl); clear o1'; (try simp only [List.nil_append, List.cons_append] at N'); (try dsimp only))))
  (k_with "FinA" => (((unfold LCg.FinA); intro D' h' tk' F' N' o1'; (rename ND _ => hS); (have hS9 := nd_fin hS o1' rfl); clear o1'; (try simp only [List.nil_append, List.cons_append] at N'); (try dsimp only))))
  (k_with "eval ListComp" => ((k_here; (with_reducible show wpAny _ _ (eval (PySem.Expr.ListComp _ _ _ _) _) _ _ _); lcf_look; k_dflt (refine LCg.ListComp_U (F₀ := by k_asm) (by with_unfolding_all rfl) (by decide) (by rfl) (by decide) (by rfl) ?_); k_dflt lcg_toSrc)))
  (k_with "CompSrc" => ((k_here; k_dflt (refine LCg.CompSrc.range (by rfl) (by k_asm) (by k_asm) (by assumption) (by first | decide | rfl) (by first | rfl | decide) (by exact Nat.le_of_ble_eq_true rfl) ?_; intro g'; lcg_lit))))
  (k_with "PAIRS" => (first | exact PairsIn.nil | (refine' PairsIn.cons ?z4ea387_pm ?z4ea387_pi ?z4ea387_pv ?z4ea387_pr; (case z4ea387_pm => k_mem); (case z4ea387_pi => rfl); (case z4ea387_pv => rfl); (case z4ea387_pr => k_extra "PAIRS"))))
  (k_with "ALKS" => (first | exact Alks.nil | (refine' Alks.cons ?zefa3f3_pa ?zefa3f3_pr; (case zefa3f3_pa => (rename Same _ _ _ => hSa; exact hSa.alk _ (by decide) (by decide))); (case zefa3f3_pr => k_extra "ALKS"))))
  (k_with "call type:dict" => ((k_here; (with_reducible show wpAny _ _ (call (Value.type _) [Value.ref _]) _ _ _); k_dflt (rename PairsIn _ _ _ => hPa; refine' dict_pairs (ps := regs0 _) ?zc55f7b_u4F ?zc55f7b_u4N ?zc55f7b_u4T ?zc55f7b_u4A ?zc55f7b_u4m ?zc55f7b_u4p ?zc55f7b_u4n ?zc55f7b_u4z ?_; (case zc55f7b_u4F => k_asm); (case zc55f7b_u4N => k_asm); (case zc55f7b_u4T => exact Top.nolimit (by k_asm)); (case zc55f7b_u4A => rfl); (case zc55f7b_u4m => k_mem); (case zc55f7b_u4p => exact hPa.mono (fun _ h => .tail _ h)); (case zc55f7b_u4n => exact regs0_nd); (case zc55f7b_u4z => exact Nat.le_trans (Nat.le_of_eq hPa.len.symm) (show 7 ≤ 900 by decide)); intro d' o' h' tk' F' N' l1 lo' hd'; (k_lt l1); (rename News _ _ _ _ => oN); (rename ND _ => hS); have N' := news_dropA oN; have hS2 := ND.dropA hS; clear oN; simp only [List.map_cons, List.map_nil] at hS2))))
  (k_with "getMethod ref" => ((k_here; (with_reducible show wpAny _ _ (getMethod (Value.ref _) (Str.ofString "update") _) _ _ _); k_dflt (refine' upd_method ?z452491_u5u5N ?z452491_u5u5m ?z452491_u5u5d ?_; (case z452491_u5u5N => k_asm); (case z452491_u5u5m => k_mem); (case z452491_u5u5d => assumption)))))
  (k_with "call builtin:dict.update" => ((k_here; k_dflt (refine' upd_call ?z4dda31_u6u6F ?z4dda31_u6u6N ?z4dda31_u6u6U ?z4dda31_u6u6hd ?z4dda31_u6u6hl ?z4dda31_u6u6hol ?z4dda31_u6u6ne ?z4dda31_u6u6lo ?z4dda31_u6u6z ?_; (case z4dda31_u6u6F => k_asm); (case z4dda31_u6u6N => k_asm); (case z4dda31_u6u6U => k_updF); (case z4dda31_u6u6hd => assumption); (case z4dda31_u6u6hl => k_mem); (case z4dda31_u6u6hol => assumption); (case z4dda31_u6u6ne => k_extra "NEQ"); (case z4dda31_u6u6lo => assumption); (case z4dda31_u6u6z => (simp only [List.length_cons, List.length_nil]; omega)); intro h' o' F' N' hd'; (try dsimp only at N')))))
  (k_with "call ref" => ((k_here; (with_reducible show wpAny _ _ (call (Value.ref 50) _) _ _ _); k_dflt (rename StepOk _ _ _ _ _ _ _ _ _ _ _ _ _ _ _ _ _ _ => hSt; refine' StepOk.use hSt ?zc3f321_u7u7F ?zc3f321_u7u7N ?zc3f321_u7u7S ?_; (case zc3f321_u7u7F => k_asm); (case zc3f321_u7u7N => k_extra "NSUB"); (case zc3f321_u7u7S => k_extra "NDSUB"); intro r' row' ro' kvs' n' tk' h' F' g1' f1' hs' hg' hd' hz' hf' hrw' hV' hK'; (rename ND _ => hS); (rename News _ _ _ _ => oN); (have hS2 := ND.fresh hS oN rfl f1'); refine' with_back1 (ch := [(_, _), (_, _)]) oN hS rfl hK' (List.forall_mem_cons.mpr ⟨hg', List.forall_mem_cons.mpr ⟨hs', List.forall_mem_nil _⟩⟩) f1' g1' ?zc3f321_u7u7fr ?zc3f321_u7t ?_; (case zc3f321_u7u7fr => assumption); (case zc3f321_u7t => k_extra "ATS"); intro N'; clear oN hK' hg' hs' g1' f1'))))
  (k_with "compareOp NotIn str ref" => ((k_here; (with_reducible show wpAny _ _ (compareOp CmpOp.NotIn (Value.str _ _) (Value.ref 22)) _ _ _); k_dflt (refine' notin_names ?z3fbc86_u8u8X ?z3fbc86_u8u8F ?z3fbc86_u8u8hx ?_; (case z3fbc86_u8u8X => k_asm); (case z3fbc86_u8u8F => k_asm); (case z3fbc86_u8u8hx => assumption)))))
  (k_with "call builtin:repr" => ((k_here; (with_reducible show wpAny _ _ (call (Value.builtin _) [Value.ref _]) _ _ _); k_dflt (refine' repr_row ?zdfde0b_u9u9F ?zdfde0b_u9u9N ?zdfde0b_u9u9m1 ?zdfde0b_u9u9m2 ?zdfde0b_u9u9hr ?zdfde0b_u9u9hs ?zdfde0b_u9u9hg ?zdfde0b_u9u9u ?_; (case zdfde0b_u9u9F => k_asm); (case zdfde0b_u9u9N => k_asm); (case zdfde0b_u9u9m1 => k_mem); (case zdfde0b_u9u9m2 => k_mem); (case zdfde0b_u9u9hr => assumption); (case zdfde0b_u9u9hs => assumption); (case zdfde0b_u9u9hg => rfl); (case zdfde0b_u9u9u => (try dsimp only); omega); intro X' h' u' tk' hX' F' N'))))
  (k_with "compareOp NotEq str str" => ((k_here; k_dflt (refine' ne_same ?zbdea7a_u10u10e1 ?zbdea7a_u10u10e2 ?_; (case zbdea7a_u10u10e1 => assumption); (case zbdea7a_u10u10e2 => assumption)); (rename News _ _ _ _ => oN); (rename ND _ => hS); have N' := news_mid6 oN; have hS2 := ND.mid6 hS; clear oN hS)))
  (k_with "subscriptTail Name Slice ref ref" => ((k_here; (with_reducible show wpAny _ _ (subscriptTail _ (PySem.Expr.Slice _ _ none _) (Value.ref _) (Value.ref _)) _ _ _); k_dflt (refine' kmk_slice_lit ?z39152a_u11u11F ?z39152a_u11u11N ?z39152a_u11u11l ?z39152a_u11u11p ?z39152a_u11u11q ?z39152a_u11u11e ?_ ?z39152a_u11u11s ?z39152a_u11u11t ?z39152a_u11u11z; (case z39152a_u11u11F => k_asm); (case z39152a_u11u11N => k_asm); (case z39152a_u11u11l => kmk_list); (case z39152a_u11u11p => kmk_part); (case z39152a_u11u11q => kmk_part); (case z39152a_u11u11e => exact slice_end); (case z39152a_u11u11s => with_unfolding_all rfl); (case z39152a_u11u11t => kmk_pure); (case z39152a_u11u11z => exact size_end (by simp only [List.length_cons, List.length_nil]; omega))); intro D' h' F' N' l1; (try k_lt l1))))
  (k_with "CompRest" => ((k_dflt (first | (refine' comp_A ?zb0dbaf_X ?zb0dbaf_T ?zb0dbaf_B ?zb0dbaf_S ?zb0dbaf_hc ?zb0dbaf_hr ?zb0dbaf_sm ?zb0dbaf_hd 7 0 [] _ ?zb0dbaf_hm ?zb0dbaf_nd ?_; (case zb0dbaf_hm => (dsimp only [CL]; k_extra "SUB")); (case zb0dbaf_X => k_asm); (case zb0dbaf_T => k_asm); (case zb0dbaf_B => k_asm); (case zb0dbaf_S => k_extra "NDSUB"); (case zb0dbaf_hc => assumption); (case zb0dbaf_hr => assumption); (case zb0dbaf_sm => assumption); (case zb0dbaf_hd => omega); (case zb0dbaf_nd => (rename ND _ => hS; exact hS)); intro us' objs' hp' hnd') | (refine' comp_B ?zb0dbaf_X ?zb0dbaf_T ?zb0dbaf_B ?zb0dbaf_S ?zb0dbaf_hc ?zb0dbaf_hr ?zb0dbaf_sm ?zb0dbaf_hd ?zb0dbaf_hm 7 0 [] ?_; (case zb0dbaf_hm => (dsimp only [CL]; k_extra "SUB")); (case zb0dbaf_X => k_asm); (case zb0dbaf_T => k_asm); (case zb0dbaf_B => k_asm); (case zb0dbaf_S => k_extra "NDSUB"); (case zb0dbaf_hc => assumption); (case zb0dbaf_hr => assumption); (case zb0dbaf_sm => assumption); (case zb0dbaf_hd => omega)) | (refine' comp_C ?zb0dbaf_X ?zb0dbaf_T ?zb0dbaf_B ?zb0dbaf_S ?zb0dbaf_hc ?zb0dbaf_hdo ?zb0dbaf_hs ?zb0dbaf_hd ?zb0dbaf_hm 7 0 [] ?zb0dbaf_h7 ?_; (case zb0dbaf_hs => assumption); (case zb0dbaf_hdo => assumption); (case zb0dbaf_hm => k_extra "SUB"); (case zb0dbaf_X => k_asm); (case zb0dbaf_T => k_asm); (case zb0dbaf_B => k_asm); (case zb0dbaf_S => k_extra "NDSUB"); (case zb0dbaf_hc => assumption); (case zb0dbaf_hd => omega); (case zb0dbaf_h7 => decide))))))
  (k_with "compareOp Eq ref ref" => ((k_here; (with_reducible show wpAny _ _ (compareOp CmpOp.Eq (Value.ref _) (Value.ref _)) _ _ _); k_dflt (refine' eq_alks ?zfae78d_u13N ?zfae78d_u13m1 ?zfae78d_u13m2 ?zfae78d_u13e ?zfae78d_u13u ?_; (case zfae78d_u13N => k_asm); (case zfae78d_u13m1 => k_mem); (case zfae78d_u13m2 => k_mem); (case zfae78d_u13e => exact alks_gets (by assumption) 7 0 (by decide)); (case zfae78d_u13u => (try dsimp only); omega)))))
  trivial
section
variable {w : World} {mean : ExcName → Option Value} {mg mb : Str → Option Value} {A₀ : Around} {base h₀ : Heap} {outer : List Env} {cn : Str} {cs : Scope} {L ea : Addr} {ccd : Value} {cl : List (Str × Addr)} {m : Str → Option Value} {dp un : Nat} {s : Shared} {Q : Value → Shared → Prop} {E : Value → Shared → Prop}
variable {z : W0} {texts : Addr} {ro : Obj} {kvs : List (Int × Value)} {vs : List Value} {n n0 tn ta tb : Nat} {cc : Int} {ct : Nat} {a b : Int}
theorem opcode_rest {c2 c1 opl due dt lat : Addr} {lo so co2 co1 : Obj} {lkv : List (Int × Value)} {row : Array Value} {rs : List PyData} {nm : Str} {p1 p2 p3 p4 sv nv gv : Value} {q0 on n1 tbf : Nat} {Qf : Flow → Shared → Prop} (X : (KH w.params).In h₀) (T : Top topProg lawLoose mean mg mb h₀) (B : Below A₀ base outer h₀)
    (F : Fr h₀ L s.heap (fun y => if y = "later" then some (.ref lat) else if y = "due" then some (.ref due) else if y = "op" then some (.ref opl) else if y = "held" then some gv else if y = "before" then some (.int vs.length tbf) else if y = "number" then some nv else if y = "setting" then some sv else opMap (.ref z.src) (.ref z.mach) (.ref z.asked) y))
    (N : News h₀ L s.heap [(lat, lo), (due, listOf #[.ref dt] n1), (dt, tupOf row), (opl, listOf #[.str nm q0, p1, p2, p3, p4] on), (c2, co2), (c1, co1), (z.mach, instObj 60 z.md), (z.md, dictOf (machD w.params z texts) 3), (texts, listOf #[] tn), (z.conn, instObj 485 z.cnd), (z.cnd, dictOf (connD w.params z cc ct) 22), (z.btree, instObj 485 z.btd), (z.btd, dictOf (btreeD w.params z) 11), (z.core, instObj 391 z.cd), (z.cd, dictOf (coreZ w.params z) 3), (z.regs, ro), (z.cell, z.co), (z.asked, listOf vs.toArray n), (z.src, so)]) (S : ND [lat, due, dt, opl, c2, c1, z.mach, z.md, texts, z.conn, z.cnd, z.btree, z.btd, z.core, z.cd, z.regs, z.cell, z.asked, z.src]) (hc2 : co2.data = .cell none) (hc1 : co1.data = .cell (some (.ref z.core)))
    (hrow : RowIs row rs) (hshow : ShowOk rs) (hnm : nm ∈ NAMES) (hlo : lo.IsDictOf (intKind prog0 w) lkv) (hls : (lat == sysModules) = false) (hlz : lkv.length ≤ 10) (hr : ro.IsDictOf (intKind prog0 w) kvs) (hsm : (z.regs == sysModules) = false) (hz : vs.length ≤ 900) (hd : dp + 24 < recursionLimit) (hu : un + 90 < cLine)
    (hstep : StepOk w h₀ L dp un (opEnv L c2 c1) outer z texts ro tn n vs kvs lkv rs opl (listOf #[.str nm q0, p1, p2, p3, p4] on))
    (k : ∀ (r : Addr) (ro' : Obj) (kvs' : List (Int × Value)) (n' tk : Nat) (m' : Str → Option Value) h', ro'.IsDictOf (intKind prog0 w) kvs' → kvs'.length ≤ kvs.length + 3 → (∀ p ∈ kvs', IsF p.2) → Fr h₀ L h' m' → News h₀ L h' [(z.mach, instObj 60 z.md), (z.md, dictOf (machD w.params z texts) 3), (texts, listOf #[] tn), (z.conn, instObj 485 z.cnd), (z.cnd, dictOf (connD w.params z cc ct) 22), (z.btree, instObj 485 z.btd), (z.btd, dictOf (btreeD w.params z) 11), (z.core, instObj 391 z.cd), (z.cd, dictOf (coreZ w.params z) 3), (z.regs, ro'), (z.cell, z.co), (z.asked, listOf (vs ++ [Value.ref r]).toArray n'), (z.src, so)] → Qf (.ret (.bool true)) { s with heap := h', toks := tk }) :
    wpAny (model prog0 w) (AR dp un (opEnv L c2 c1) outer) (execs ((fBody (st 34)).drop 4) (opEnv L c2 c1)) Qf (fun _ _ => False) s := by
  (conv => arg 3; arg 1; whnf)
  (try k_fold)
  k_extra "GO"
  rename Fr h₀ L _ _ => hF
  rename News h₀ L _ _ => hN
  refine' k _ _ _ _ _ _ _ ?h1 ?h2 ?h3 hF ?hN
  (case h1 => assumption)
  (case h2 => assumption)
  (case h3 => assumption)
  (case hN => (refine' news_sub hN ?s; (case s => k_extra "SUB")))
end

/-- what stands while the nine opcodes are displayed -/
structure OpCx (w : World) (mean : ExcName → Option Value) (mg mb : Str → Option Value) (A₀ : Around) (base h₀ : Heap) (outer : List Env) (dp un : Nat) (z : W0) (ro : Obj) (kvs : List (Int × Value)) (vs : List Value) (d : Int) (x : Str) (gv : Value) : Prop where
  X : (KH w.params).In h₀
  T : Top topProg lawLoose mean mg mb h₀
  B : Below A₀ base outer h₀
  LG : ∀ i, 2 ≤ i → i ≤ 16 → LamAt h₀ i (z.lam i) z.cell
  hr : ro.IsDictOf (intKind prog0 w) kvs
  hkz : kvs.length ≤ 800
  hkf : ∀ p ∈ kvs, IsF p.2
  hsm : (z.regs == sysModules) = false
  hco : z.co.data = .cell (some (.ref z.asked))
  hz : vs.length ≤ 900
  hd : dp + 24 < recursionLimit
  hu : un + 90 < cLine
  d0 : 0 ≤ d
  d1 : d < 30
  hx : x ∈ SS
  hxl : x.length ≤ 1000
  hw : IsW gv
  hv : (valueAt kvs 1).getD .none = gv
def OpIn (w : World) (h₀ : Heap) (L : Addr) (dp un : Nat) (env : Env) (outer : List Env) (z : W0) (texts : Addr) (ro : Obj) (tn n : Nat) (vs : List Value) (kvs : List (Int × Value)) (objs : List (Addr × Obj)) (v : Value) : Prop :=
  ∃ (tp opl due dt lat : Addr) (lo : Obj) (lkv : List (Int × Value)) (row : Array Value) (rs : List PyData) (nm : Str) (p1 p2 p3 p4 : Value) (q0 : Nat), v = .ref tp ∧ [(tp, tupOf #[.ref opl, .ref due, .ref lat]), (lat, lo), (due, listOf #[.ref dt] 0), (dt, tupOf row), (opl, listOf #[.str nm q0, p1, p2, p3, p4] 0)].Sublist objs ∧
    RowIs row rs ∧ ShowOk rs ∧ nm ∈ NAMES ∧ lo.IsDictOf (intKind prog0 w) lkv ∧ (lat == sysModules) = false ∧ lkv.length ≤ 10 ∧ StepOk w h₀ L dp un env outer z texts ro tn n vs kvs lkv rs opl (listOf #[.str nm q0, p1, p2, p3, p4] 0)
def opEs : List PySem.Expr := match (fBody (st 34))[(3 : Nat)]? with
  | some (.Assign _ (.Call _ [_, .List es _] _ _) _) => es
  | _ => []
def opE (i : Nat) : PySem.Expr := (opEs[i]?).getD (.Constant .none 0 ⟨0, 0, 0, 0⟩)
/-- one of the nine, displayed -/
def DispOk (w : World) (h₀ : Heap) (L : Addr) (dp un : Nat) (env : Env) (outer : List Env) (z : W0) (texts : Addr) (ro : Obj) (tn n : Nat) (vs : List Value) (kvs : List (Int × Value)) (m : Str → Option Value) (e : PySem.Expr) : Prop :=
  ∀ (s : Shared) (news : List (Addr × Obj)) (Q : Value → Shared → Prop), Fr h₀ L s.heap m → News h₀ L s.heap news → ND (news.map (·.1)) → (∀ objs v tk h', OpIn w h₀ L dp un env outer z texts ro tn n vs kvs objs v → Fr h₀ L h' m → News h₀ L h' (objs ++ news) → ND ((objs ++ news).map (·.1)) → Q v { s with heap := h', toks := tk }) →
    wpAny (model prog0 w) (AR dp un env outer) (eval e env) Q (fun _ _ => False) s
theorem OpIn.intro {w : World} {h₀ : Heap} {L : Addr} {dp un : Nat} {env : Env} {outer : List Env} {z : W0} {texts : Addr} {ro : Obj} {tn n : Nat} {vs : List Value} {kvs lkv : List (Int × Value)} {objs : List (Addr × Obj)} {tp opl due dt lat : Addr} {lo : Obj} {row : Array Value} {rs : List PyData} {nm : Str} {p1 p2 p3 p4 : Value} {q0 : Nat}
    (hs : [(tp, tupOf #[.ref opl, .ref due, .ref lat]), (lat, lo), (due, listOf #[.ref dt] 0), (dt, tupOf row), (opl, listOf #[.str nm q0, p1, p2, p3, p4] 0)].Sublist objs) (hnm : nm ∈ NAMES) (hlo : lo.IsDictOf (intKind prog0 w) lkv) (hls : (lat == sysModules) = false) (hlz : lkv.length ≤ 10)
    (hok : StepOk w h₀ L dp un env outer z texts ro tn n vs kvs lkv rs opl (listOf #[.str nm q0, p1, p2, p3, p4] 0)) (hrow : RowIs row rs) (hshow : ShowOk rs) : OpIn w h₀ L dp un env outer z texts ro tn n vs kvs objs (.ref tp) :=
  ⟨tp, opl, due, dt, lat, lo, lkv, row, rs, nm, p1, p2, p3, p4, q0, rfl, hs, hrow, hshow, hnm, hlo, hls, hlz, hok⟩
theorem OpIn.more {w : World} {h₀ : Heap} {L : Addr} {dp un : Nat} {env : Env} {outer : List Env} {z : W0} {texts : Addr} {ro : Obj} {tn n : Nat} {vs : List Value} {kvs : List (Int × Value)} {o1 o2 : List (Addr × Obj)} {v : Value} (h : OpIn w h₀ L dp un env outer z texts ro tn n vs kvs o1 v) (s : o1.Sublist o2) : OpIn w h₀ L dp un env outer z texts ro tn n vs kvs o2 v := by
  obtain ⟨tp, opl, due, dt, lat, lo, lkv, row, rs, nm, p1, p2, p3, p4, q0, e, hs, r⟩ := h
  exact ⟨tp, opl, due, dt, lat, lo, lkv, row, rs, nm, p1, p2, p3, p4, q0, e, hs.trans s, r⟩
theorem disp_many {w : World} {h₀ : Heap} {L : Addr} {dp un : Nat} {env : Env} {outer : List Env} {z : W0} {texts : Addr} {ro : Obj} {tn n : Nat} {vs : List Value} {kvs : List (Int × Value)} {m : Str → Option Value} {pos : Pos} :
    ∀ (es : List PySem.Expr), (∀ e ∈ es, DispOk w h₀ L dp un env outer z texts ro tn n vs kvs m e ∧ ∀ r, starEach (e :: r) env = (false, eval e env) :: starEach r env) → ∀ (s : Shared) (news : List (Addr × Obj)) (Q : List Value → Shared → Prop), Fr h₀ L s.heap m → News h₀ L s.heap news → ND (news.map (·.1)) →
      (∀ objs us tk h', us.length = es.length → (∀ v ∈ us, OpIn w h₀ L dp un env outer z texts ro tn n vs kvs objs v) → Fr h₀ L h' m → News h₀ L h' (objs ++ news) → ND ((objs ++ news).map (·.1)) → Q us { s with heap := h', toks := tk }) →
      wpAny (model prog0 w) (AR dp un env outer) (spliced (backTo pos (starEach es env))) Q (fun _ _ => False) s
  | [], _, s, news, Q, F, N, S, k => spliced_none (k [] [] _ _ rfl (fun _ h => nomatch h) F N S)
  | e :: es, he, s, news, Q, F, N, S, k => by
    refine spliced_more ((he e (.head _)).1 s news _ F N S fun o1 v tk h1 hv F1 N1 S1 => ?_) ((he e (.head _)).2 es)
    refine disp_many es (fun e' h' => he e' (.tail _ h')) { s with heap := h1, toks := tk } (o1 ++ news) _ F1 N1 S1 fun o2 us tk2 h2 hl hus F2 N2 S2 => ?_
    rw [← List.append_assoc] at N2 S2
    refine k (o2 ++ o1) (v :: us) tk2 h2 (congrArg (· + 1) hl) (fun u hu => ?_) F2 N2 S2
    rcases List.mem_cons.mp hu with rfl | hu
    · exact hv.more (List.sublist_append_right _ _)
    · exact (hus u hu).more (List.sublist_append_left _ _)
theorem disp_ops {w : World} {h₀ : Heap} {L : Addr} {dp un : Nat} {env : Env} {outer : List Env} {z : W0} {texts : Addr} {ro : Obj} {tn n : Nat} {vs : List Value} {kvs : List (Int × Value)} {m : Str → Option Value} {pos : Pos} {es : List PySem.Expr} {s : Shared} {news : List (Addr × Obj)} {Q : Value → Shared → Prop} (F : Fr h₀ L s.heap m) (N : News h₀ L s.heap news) (S : ND (news.map (·.1)))
    (he : ∀ e ∈ es, DispOk w h₀ L dp un env outer z texts ro tn n vs kvs m e ∧ ∀ r, starEach (e :: r) env = (false, eval e env) :: starEach r env) (hl : es.length = 9)
    (k : ∀ (l : Addr) (objs : List (Addr × Obj)) (us : List Value) (tk : Nat) h', us.length = 9 → (∀ v ∈ us, OpIn w h₀ L dp un env outer z texts ro tn n vs kvs objs v) → Fr h₀ L h' m → News h₀ L h' ((l, listOf us.toArray 0) :: (objs ++ news)) → ND (l :: (objs ++ news).map (·.1)) → Q (.ref l) { s with heap := h', toks := tk }) :
    wpAny (model prog0 w) (AR dp un env outer) (eval (.List es pos) env) Q (fun _ _ => False) s := by
  refine wpAny_List (disp_many es he s news _ F N S fun objs us tk h' hl' hus F' N' S' => ⟨by rw [hl', hl]; decide, ?_⟩)
  exact k _ objs us _ _ (hl'.trans hl) hus (F'.push _) (News.push F' N' _) (ND.ofNews (fun p hp => Heap.lt_size (N' p hp).1) S' rfl)
theorem regs_asked {z : W0} {opl : Addr} (S : ND [opl, z.mach, z.md, z.conn, z.cnd, z.btree, z.btd, z.core, z.cd, z.regs, z.cell, z.asked]) : z.regs ≠ z.asked := ND.ne_l S.tl.tl.tl.tl.tl.tl.tl.tl.tl (List.mem_cons_of_mem _ (List.mem_singleton.mpr rfl))
theorem rowIs1 {x : Str} {t : Nat} : RowIs #[.str x t] [.str x] := fun _ => .cons (.str _ _) .nil
theorem rowIs2 {x : Str} {t : Nat} {v : Value} {r : PyData} (h : ∀ g, Reads g v r []) : RowIs #[.str x t, v] [.str x, r] := fun g => .cons (.str _ _) (.cons (h g) .nil)
theorem rowIs3 {x : Str} {t : Nat} {v u : Value} {r p : PyData} (h : ∀ g, Reads g v r []) (h2 : ∀ g, Reads g u p []) : RowIs #[.str x t, v, u] [.str x, r, p] := fun g => .cons (.str _ _) (.cons (h g) (.cons (h2 g) .nil))
/-- what the step leaves alone stands in the register's dict -/
theorem kept_regs {h₀ h h' : Heap} {L : Addr} {a b : Addr} {o : Obj} {l : List (Addr × Obj)} (N : News h₀ L h l) (k : Kept [b] h h') (m : (a, o) ∈ l) (ne : a ≠ b) : h'.get? a = some o := k _ _ (N _ m).1 fun hm => ne (List.mem_singleton.mp hm)
def showB (rs : List PyData) : Bool := !(PyData.list [.tuple rs]).hasDict && (PyData.list [.tuple rs]).showable && decide ((PyData.list [.tuple rs]).depth ≤ 2) && decide ((PyData.list [.tuple rs]).shown.length ≤ sizeLine)
theorem showB_ok {rs : List PyData} (h : showB rs = true) : ShowOk rs := by
  simp only [showB, Bool.and_eq_true, Bool.not_eq_true', decide_eq_true_eq] at h
  exact ⟨h.1.1.1, h.1.1.2, h.1.2, h.2⟩
theorem show_int {f : PyData → List PyData} (h : ((List.range 30).all fun k => showB (f (.int (k : Int)))) = true) {d : Int} (d0 : 0 ≤ d) (d1 : d < 30) : ShowOk (f (.int d)) := by
  obtain ⟨k, rfl⟩ : ∃ k : Nat, d = (k : Int) := ⟨d.toNat, by omega⟩
  exact showB_ok (List.all_eq_true.mp h k (List.mem_range.mpr (by omega)))
theorem show_SS {f : Str → List PyData} (h : (SS.all fun x => showB (f x)) = true) {x : Str} (hx : x ∈ SS) : ShowOk (f x) := showB_ok (List.all_eq_true.mp h x hx)
abbrev WD : List PyData := [.none, .int 0, .int 5, .str "wal"]
theorem IsW.dat {v : Value} (h : IsW v) : ∃ r, r ∈ WD ∧ ∀ g, Reads g v r [] := by
  cases h
  · exact ⟨_, .head _, fun _ => .none⟩
  · exact ⟨_, .tail _ (.head _), fun _ => .int _ _⟩
  · exact ⟨_, .tail _ (.tail _ (.head _)), fun _ => .int _ _⟩
  · exact ⟨_, .tail _ (.tail _ (.tail _ (.head _))), fun _ => .str _ _⟩
theorem show_set {x : Str} {r : PyData} (hx : x ∈ SS) (hr : r ∈ WD) : ShowOk [.str "pragma_set", .str x, r] := by
  have h : (SS.all fun x => WD.all fun r => showB [.str "pragma_set", .str x, r]) = true := by decide +kernel
  exact showB_ok (List.all_eq_true.mp (List.all_eq_true.mp h x hx) r hr)
theorem SS.ok {x : Str} (hx : x ∈ SS) : PyData.strOk x = true := by
  have h : (SS.all PyData.strOk) = true := by decide +kernel
  exact List.all_eq_true.mp h x hx
theorem stored_F {kvs : List (Int × Value)} {k : Int} {v : Value} (h : ∀ p ∈ kvs, IsF p.2) (hv : IsF v) : ∀ p ∈ stored kvs k v, IsF p.2 := by
  intro p hp
  unfold stored at hp
  split at hp
  · obtain ⟨q, hq, rfl⟩ := List.mem_map.mp hp
    split
    · exact hv
    · exact h q hq
  · rcases List.mem_append.mp hp with hp | hp
    · exact h p hp
    · rw [List.mem_singleton.mp hp]; exact hv
theorem fillIt30 : PySem.Challenge.rw_pb0451_01 = PySem.Challenge.rw_pb0451_01 ∧ KH = KH := by k_fill; exact ⟨rfl, rfl⟩
theorem klines_G3_0 : True := by
  k_with_none
  (k_with "subscriptTail Name Constant ref int" => ((k_here; (with_reducible show wpAny _ _ (subscriptTail _ _ (Value.ref _) (Value.int _ _)) _ _ _); (with_unfolding_all refine' item_litK ?z73ea9d_k1 ?z73ea9d_k2 ?z73ea9d_k3 ?z73ea9d_k4 ?_ ?z73ea9d_k6; (case z73ea9d_k1 => is_list); (case z73ea9d_k2 => decide); (case z73ea9d_k3 => decide); (case z73ea9d_k4 => rfl); (case z73ea9d_k6 => with_unfolding_all rfl); k_whole))))
  (k_with "ENTER" => (((case k6 => k_is); (case k7 => k_is); (case k8 => omega); (case k9 => exact BindsTo.of_eq rfl); (case kB => (conv => lhs; whnf)); (case kL => exact locs rfl); (case c2 => exact rfl); (case c3 => exact rfl); (case c4 => exact rfl); (case c5 => decide); intro g' L' h' HG' FG' F' N' B' X' T' l'; (try dsimp only); k_fold)))
  (k_with "GO" => (repeat' (first | (k_unfold; (try dsimp only)) | (k_end; wrow_close) | walk1 | (dsimp only; walk1))))
  (k_with "ATF" => (first | refine' AtF.head | (refine' AtF.tail ?zaeb911_b; (case zaeb911_b => walk_at "ATF"))))
  (k_with "AT" => (first | refine' At.head | (refine' At.tail ?z4c4c10_b; (case z4c4c10_b => walk_at "AT"))))
  (k_with "M k_upd" => ((rename ND _ => hS; refine' upd_sd ?z531fe4_a hS ?z531fe4_e; (case z531fe4_a => walk_at "AT"); (case z531fe4_e => rfl))))
  (k_with "M k_updF" => ((rename ND _ => hS; refine' updF_sd ?zc7fe0e_a hS ?zc7fe0e_e; (case zc7fe0e_a => walk_at "ATF"); (case zc7fe0e_e => rfl))))
  (k_with "M kn_among" => ((simp [codeAmong, rawInt]; done)))
  (k_with "M kn_triples" => ((simp [TriplesOk, rawInt]; done)))
  (k_with "M k_room" => ((first | omega | ((try simp only [depth_mark, depth_under_make, depth_under_kw, depth_in1, depth_deeper, depth_caller]); omega))))
  (k_with "SUB" => (first | exact List.forall_mem_nil _ | (refine' List.forall_mem_cons.mpr ⟨?z3be472_h, ?z3be472_t⟩; (case z3be472_h => k_mem); (case z3be472_t => walk_at "SUB"))))
  (k_with "ATS" => (first | refine' Ats.nil | (refine' Ats.hit ?z9e6f72_b; (case z9e6f72_b => walk_at "ATS")) | (refine' Ats.skip ?z9e6f72_b; (case z9e6f72_b => walk_at "ATS"))))
  (k_with "CX" => ((refine' ⟨?za4188e_x1, ?za4188e_x2, ?za4188e_x3, ?za4188e_x4, ?za4188e_x5⟩; (case za4188e_x1 => k_asm); (case za4188e_x2 => k_asm); (case za4188e_x3 => k_asm); (case za4188e_x4 => k_asm); (case za4188e_x5 => first | rfl | assumption))))
  (k_with "NSUB" => ((refine' news_sub ?za05c2b_N ?za05c2b_s; (case za05c2b_N => (rename News _ _ _ _ => oN; exact oN)); (case za05c2b_s => walk_at "SUB"))))
  (k_with "getMethod ref" => ((k_here; (with_reducible show wpAny _ _ (getMethod (Value.ref _) (Str.ofString "get") _) _ _ _); k_dflt (refine' kdg_method (knd := intKind prog0 _) ?z1e447a_N ?z1e447a_m ?z1e447a_d ?_; (case z1e447a_N => k_asm); (case z1e447a_m => k_mem); (case z1e447a_d => assumption)))))
  (k_with "call builtin:dict.get" => ((k_here; k_dflt (refine' kdg_get1 (knd := intKind prog0 _) ?z9e4d13_N ?z9e4d13_m ?z9e4d13_d ?z9e4d13_l ?z9e4d13_k _ rfl ?_; (case z9e4d13_N => k_asm); (case z9e4d13_m => k_mem); (case z9e4d13_d => assumption); (case z9e4d13_l => assumption); (case z9e4d13_k => exact intKind_is _ _ _ _)))))
  (k_with "KSEL" => (first | exact fun _ h => absurd h List.not_mem_nil | (refine' List.forall_mem_cons.mpr ⟨?zf64061_h, ?zf64061_t⟩; (case zf64061_h => first | exact Or.inl (by k_mem) | (refine' Or.inr ⟨_, News.get ?zf64061_n1 ?zf64061_m1, News.get ?zf64061_n2 ?zf64061_m2⟩; (case zf64061_n1 => k_asm); (case zf64061_m1 => k_mem); (case zf64061_n2 => k_asm); (case zf64061_m2 => k_mem))); (case zf64061_t => walk_at "KSEL"))))
  (k_with "KEPT" => ((refine' Kept.sel (kept_of ?z6ac77d_hg ?z6ac77d_f) ?z6ac77d_s; (case z6ac77d_hg => assumption); (case z6ac77d_f => assumption); (case z6ac77d_s => walk_at "KSEL"))))
  (k_with "SUBM" => (first | exact fun _ h => absurd h List.not_mem_nil | (refine' List.forall_mem_cons.mpr ⟨?zaff134_h, ?zaff134_t⟩; (case zaff134_h => k_mem); (case zaff134_t => walk_at "SUBM"))))
  (k_with "FRESH" => ((refine' fresh_of ?z9e8148_hg ?z9e8148_n ?z9e8148_m ?z9e8148_nd ?z9e8148_hs; (case z9e8148_hg => assumption); (case z9e8148_n => assumption); (case z9e8148_m => k_mem); (case z9e8148_nd => first | assumption | exact ND.tl (by assumption) | exact ND.tl (ND.tl (by assumption)) | exact ND.tl (ND.tl (ND.tl (by assumption)))); (case z9e8148_hs => walk_at "SUBM"))))
  (k_with "AT?" => ((refine' News.get ?z4603e9_n1 ?z4603e9_m1; (case z4603e9_n1 => k_asm); (case z4603e9_m1 => k_mem))))
  (k_with "NDSUB" => ((refine' ND.sub ?zb41ab3_s ?zb41ab3_l; (case zb41ab3_s => assumption); (case zb41ab3_l => walk_at "SUBL"))))
  (k_with "SUBL" => (first | exact List.nil_sublist _ | (refine' List.Sublist.cons_cons _ ?ze75662_b; (case ze75662_b => walk_at "SUBL")) | (refine' List.Sublist.cons _ ?ze75662_b; (case ze75662_b => walk_at "SUBL"))))
  trivial
section
variable {w : World} {mean : ExcName → Option Value} {mg mb : Str → Option Value} {A₀ : Around} {base h₀ : Heap} {outer : List Env} {cn : Str} {cs : Scope} {L ea : Addr} {ccd : Value} {cl : List (Str × Addr)} {m : Str → Option Value} {dp un : Nat} {s : Shared} {Q : Value → Shared → Prop} {E : Value → Shared → Prop}
variable {z : W0} {texts opl : Addr} {ro : Obj} {kvs : List (Int × Value)} {vs : List Value} {n tn c2 c1 td tx tbf q0 q1 q2 : Nat} {d : Int} {x : Str} {gv p1 p2 p3 p4 : Value} {env : Env}
theorem ok_start (hk : cs.kind = .function) (C : OpCx w mean mg mb A₀ base h₀ outer dp un z ro kvs vs d x gv) : StepOk w h₀ L dp un (envX cn cs L ea ccd cl) outer z texts ro tn n vs kvs [] [.str "start", .bool (decide (0 < d.fmod 3))] opl (listOf #[.str "Transaction" q0, .int (d.fmod 3) q1, p2, p3, p4] 0) := fun m s t cc ct Q E F N S k =>
  step_start (w := w) ⟨C.X, C.T, C.B, F, hk⟩ (C.LG _ (by decide) (by decide)) N S C.hco (Nat.le_trans C.hz (by decide)) (by have := C.hd; omega) (by have := C.hu; omega) fun r q n' tk h' F' a b c e => k r _ ro kvs n' tk h' F' a b c (kept_regs N e (by k_mem) (regs_asked S)) C.hr (Nat.le_add_right _ _) C.hkf (rowIs2 fun _ => by have e1 := Int.fmod_nonneg_of_pos d (b := 3) (by decide); rw [show ((d.fmod 3 != 0) = decide (0 < d.fmod 3)) from by rw [Bool.eq_iff_iff]; simp only [bne_iff_ne, decide_eq_true_eq]; omega]; exact .bool _) (Same.nil C.hkf) (e.more fun q hq => .tail _ hq)
theorem ok_create {j : Int} {X : Str} {t : Nat} (hk : cs.kind = .function) (C : OpCx w mean mg mb A₀ base h₀ outer dp un z ro kvs vs d x gv) (h : (j = 0 ∧ X = "rows") ∨ (j = 1 ∧ X = "keys")) : StepOk w h₀ L dp un (envX cn cs L ea ccd cl) outer z texts ro tn n vs kvs [((2 : Int), Value.int 44 t)] [.str "create", .str X] opl (listOf #[.str "CreateBtree" q0, .int 2 q1, .int (1 + j) q2, p3, p4] 0) := by
  rcases h with ⟨rfl, rfl⟩ | ⟨rfl, rfl⟩
  · exact fun m s t' cc ct Q E F N S k => step_create1 (w := w) ⟨C.X, C.T, C.B, F, hk⟩ (C.LG _ (by decide) (by decide)) C.hr (Nat.le_trans C.hkz (by decide)) C.hsm N S C.hco (Nat.le_trans C.hz (by decide)) (by have := C.hd; omega) (by have := C.hu; omega) fun r q q2 n' tk qv ro' h' F' a b c e f g => k r _ ro' _ n' tk h' F' a b c e f (Nat.le_trans length_stored_le (Nat.add_le_add_left (by decide) _)) (stored_F C.hkf (.int _ _)) (rowIs2 fun _ => .str _ _) (Same.snoc (lkv := []) (Same.nil C.hkf) (.int 44 _ _)) g
  · exact fun m s t' cc ct Q E F N S k => step_create2 (w := w) ⟨C.X, C.T, C.B, F, hk⟩ (C.LG _ (by decide) (by decide)) C.hr (Nat.le_trans C.hkz (by decide)) C.hsm N S C.hco (Nat.le_trans C.hz (by decide)) (by have := C.hd; omega) (by have := C.hu; omega) fun r q q2 n' tk qv ro' h' F' a b c e f g => k r _ ro' _ n' tk h' F' a b c e f (Nat.le_trans length_stored_le (Nat.add_le_add_left (by decide) _)) (stored_F C.hkf (.int _ _)) (rowIs2 fun _ => .str _ _) (Same.snoc (lkv := []) (Same.nil C.hkf) (.int 44 _ _)) g
theorem ok_drop (hk : cs.kind = .function) (C : OpCx w mean mg mb A₀ base h₀ outer dp un z ro kvs vs d x gv) : StepOk w h₀ L dp un (envX cn cs L ea ccd cl) outer z texts ro tn n vs kvs [] [.str "drop", .int d] opl (listOf #[.str "Destroy" q0, .int d q1, p2, p3, p4] 0) := fun m s t cc ct Q E F N S k =>
  step_drop (w := w) ⟨C.X, C.T, C.B, F, hk⟩ (C.LG _ (by decide) (by decide)) N S C.hco (Nat.le_trans C.hz (by decide)) (by have := C.hd; omega) (by have := C.hu; omega) fun r q n' tk h' F' a b c e => k r _ ro kvs n' tk h' F' a b c (kept_regs N e (by k_mem) (regs_asked S)) C.hr (Nat.le_add_right _ _) C.hkf (rowIs2 fun _ => .int _ _) (Same.nil C.hkf) (e.more fun q hq => .tail _ hq)
theorem ok_clear (hk : cs.kind = .function) (C : OpCx w mean mg mb A₀ base h₀ outer dp un z ro kvs vs d x gv) : StepOk w h₀ L dp un (envX cn cs L ea ccd cl) outer z texts ro tn n vs kvs [((3 : Int), Value.int (3 * d) tx)] [.str "clear", .int d] opl (listOf #[.str "Clear" q0, .int d q1, .int 3 q2, p3, p4] 0) := fun m s t cc ct Q E F N S k =>
  step_clear (w := w) ⟨C.X, C.T, C.B, F, hk⟩ (C.LG _ (by decide) (by decide)) C.hr (Nat.le_trans C.hkz (by decide)) C.hsm C.d0 (by have := C.d1; omega) N S C.hco (Nat.le_trans C.hz (by decide)) (by have := C.hd; omega) (by have := C.hu; omega) fun r q n' tk qv ro' h' F' a b c e f g => k r _ ro' _ n' tk h' F' a b c e f (Nat.le_trans length_stored_le (Nat.add_le_add_left (by decide) _)) (stored_F C.hkf (.int _ _)) (rowIs2 fun _ => .int _ _) (Same.snoc (lkv := []) (Same.nil C.hkf) (.int (3 * d) _ _)) g
theorem ok_loadSchema (hk : cs.kind = .function) (C : OpCx w mean mg mb A₀ base h₀ outer dp un z ro kvs vs d x gv) : StepOk w h₀ L dp un (envX cn cs L ea ccd cl) outer z texts ro tn n vs kvs [] [.str "load_schema"] opl (listOf #[.str "LoadSchema" q0, p1, p2, p3, p4] 0) := fun m s t cc ct Q E F N S k =>
  step_loadSchema (w := w) ⟨C.X, C.T, C.B, F, hk⟩ (C.LG _ (by decide) (by decide)) N S C.hco (Nat.le_trans C.hz (by decide)) (by have := C.hd; omega) (by have := C.hu; omega) fun r q n' tk h' F' a b c e => k r _ ro kvs n' tk h' F' a b c (kept_regs N e (by k_mem) (regs_asked S)) C.hr (Nat.le_add_right _ _) C.hkf rowIs1 (Same.nil C.hkf) (e.more fun q hq => .tail _ hq)
theorem ok_setCookie (hk : cs.kind = .function) (C : OpCx w mean mg mb A₀ base h₀ outer dp un z ro kvs vs d x gv) : StepOk w h₀ L dp un (envX cn cs L ea ccd cl) outer z texts ro tn n vs kvs [] [.str "raise_cookie"] opl (listOf #[.str "SetCookie" q0, p1, p2, p3, p4] 0) := fun m s t cc ct Q E F N S k =>
  step_setCookie (w := w) ⟨C.X, C.T, C.B, F, hk⟩ (C.LG _ (by decide) (by decide)) N S C.hco (Nat.le_trans C.hz (by decide)) (by have := C.hd; omega) (by have := C.hu; omega) fun r q n' tk h' F' a b c e => k r _ ro kvs n' tk h' F' a b c (kept_regs N e (by k_mem) (regs_asked S)) C.hr (Nat.le_add_right _ _) C.hkf rowIs1 (Same.nil C.hkf) (e.more fun q hq => .tail _ hq)
theorem ok_verifyCookie (hk : cs.kind = .function) (C : OpCx w mean mg mb A₀ base h₀ outer dp un z ro kvs vs d x gv) : StepOk w h₀ L dp un (envX cn cs L ea ccd cl) outer z texts ro tn n vs kvs [] [.str "verify_cookie", .int d] opl (listOf #[.str "VerifyCookie" q0, .int d q1, p2, p3, p4] 0) := fun m s t cc ct Q E F N S k =>
  step_verifyCookie (w := w) ⟨C.X, C.T, C.B, F, hk⟩ (C.LG _ (by decide) (by decide)) N S C.hco (Nat.le_trans C.hz (by decide)) (by have := C.hd; omega) (by have := C.hu; omega) fun r q n' tk h' F' a b c e => k r _ ro kvs n' tk h' F' a b c (kept_regs N e (by k_mem) (regs_asked S)) C.hr (Nat.le_add_right _ _) C.hkf (rowIs2 fun _ => .int _ _) (Same.nil C.hkf) (e.more fun q hq => .tail _ hq)
theorem ok_pragmaGet (hk : cs.kind = .function) (C : OpCx w mean mg mb A₀ base h₀ outer dp un z ro kvs vs d x gv) : StepOk w h₀ L dp un (envX cn cs L ea ccd cl) outer z texts ro tn n vs kvs [((4 : Int), Value.int x.length td)] [.str "pragma_get", .str x] opl (listOf #[.str "PragmaGet" q0, .int 4 q1, p2, p3, .str x tx] 0) := fun m s t cc ct Q E F N S k =>
  step_pragmaGet (w := w) ⟨C.X, C.T, C.B, F, hk⟩ (C.LG _ (by decide) (by decide)) C.hr (Nat.le_trans C.hkz (by decide)) C.hsm C.hxl N S C.hco (Nat.le_trans C.hz (by decide)) (by have := C.hd; omega) (by have := C.hu; omega) fun r q n' tk qv ro' h' F' a b c e f g => k r _ ro' _ n' tk h' F' a b c e f (Nat.le_trans length_stored_le (Nat.add_le_add_left (by decide) _)) (stored_F C.hkf (.int _ _)) (rowIs2 fun _ => .str _ _) (Same.snoc (lkv := []) (Same.nil C.hkf) (.int x.length _ _)) g
theorem ok_pragmaSet {r : PyData} {t u : Nat} (hk : cs.kind = .function) (C : OpCx w mean mg mb A₀ base h₀ outer dp un z ro kvs vs d x gv) (hr : ∀ g, Reads g gv r []) : StepOk w h₀ L dp un (envX cn cs L ea ccd cl) outer z texts ro tn n vs kvs [((4 : Int), Value.str x u), (5, gv), (6, Value.int 7 t)] [.str "pragma_set", .str x, r] opl (listOf #[.str "PragmaSet" q0, .int 1 q1, .int 4 q2, p3, .str x tx] 0) := fun m s t' cc ct Q E F N S k =>
  step_pragmaSet (w := w) ⟨C.X, C.T, C.B, F, hk⟩ (C.LG _ (by decide) (by decide)) C.hr (Nat.le_trans C.hkz (by decide)) C.hsm C.hv N S C.hco (Nat.le_trans C.hz (by decide)) (by have := C.hd; omega) (by have := C.hu; omega) fun r' q n' tk qv ro' h' F' a b c e f g => k r' _ ro' _ n' tk h' F' a b c e f
    (Nat.le_trans length_stored_le (Nat.succ_le_succ (Nat.le_trans length_stored_le (Nat.succ_le_succ length_stored_le)))) (stored_F (stored_F (stored_F C.hkf (.str _ _ (SS.ok C.hx))) C.hw.isF) (.int _ _)) (rowIs3 (fun _ => .str _ _) hr)
    (Same.snoc (lkv := [((4 : Int), Value.str x u), (5, gv)]) (Same.snoc (lkv := [((4 : Int), Value.str x u)]) (Same.snoc (lkv := []) (Same.nil C.hkf) (.str x _ _ (SS.ok C.hx))) (.of C.hw.isF)) (.int 7 _ _)) g
end

theorem strsRK {j : Int} {v : Value} {t1 t2 : Nat} (h0 : 0 ≤ j) (h1 : j < 2) (h : [Value.str "rows" t1, .str "keys" t2][j.toNat]? = some v) : ∃ X t, v = .str X t ∧ ((j = 0 ∧ X = "rows") ∨ (j = 1 ∧ X = "keys")) := by
  obtain rfl | rfl : j = 0 ∨ j = 1 := by omega
  · cases h; exact ⟨_, _, rfl, .inl ⟨rfl, rfl⟩⟩
  · cases h; exact ⟨_, _, rfl, .inr ⟨rfl, rfl⟩⟩
theorem fillIt31 : PySem.Challenge.rw_pb0451_01 = PySem.Challenge.rw_pb0451_01 ∧ KH = KH := by k_fill; exact ⟨rfl, rfl⟩
theorem klines_G4_0 : True := by
  k_with_none
  (k_with "subscriptTail Name Constant ref int" => ((k_here; (with_reducible show wpAny _ _ (subscriptTail _ _ (Value.ref _) (Value.int _ _)) _ _ _); (with_unfolding_all refine' item_litK ?z73ea9d_k1 ?z73ea9d_k2 ?z73ea9d_k3 ?z73ea9d_k4 ?_ ?z73ea9d_k6; (case z73ea9d_k1 => is_list); (case z73ea9d_k2 => decide); (case z73ea9d_k3 => decide); (case z73ea9d_k4 => rfl); (case z73ea9d_k6 => with_unfolding_all rfl); k_whole))))
  (k_with "ENTER" => (((case k6 => k_is); (case k7 => k_is); (case k8 => omega); (case k9 => exact BindsTo.of_eq rfl); (case kB => (conv => lhs; whnf)); (case kL => exact locs rfl); (case c2 => exact rfl); (case c3 => exact rfl); (case c4 => exact rfl); (case c5 => decide); intro g' L' h' HG' FG' F' N' B' X' T' l'; (try dsimp only); k_fold)))
  (k_with "GO" => (repeat' (first | (k_unfold; (try dsimp only)) | (k_end; wrow_close) | walk1 | (dsimp only; walk1))))
  (k_with "ATF" => (first | refine' AtF.head | (refine' AtF.tail ?zaeb911_b; (case zaeb911_b => walk_at "ATF"))))
  (k_with "AT" => (first | refine' At.head | (refine' At.tail ?z4c4c10_b; (case z4c4c10_b => walk_at "AT"))))
  (k_with "M k_upd" => ((rename ND _ => hS; refine' upd_sd ?z531fe4_a hS ?z531fe4_e; (case z531fe4_a => walk_at "AT"); (case z531fe4_e => rfl))))
  (k_with "M k_updF" => ((rename ND _ => hS; refine' updF_sd ?zc7fe0e_a hS ?zc7fe0e_e; (case zc7fe0e_a => walk_at "ATF"); (case zc7fe0e_e => rfl))))
  (k_with "M kn_among" => ((simp [codeAmong, rawInt]; done)))
  (k_with "M kn_triples" => ((simp [TriplesOk, rawInt]; done)))
  (k_with "M k_room" => ((first | omega | ((try simp only [depth_mark, depth_under_make, depth_under_kw, depth_in1, depth_deeper, depth_caller]); omega))))
  (k_with "SUB" => (first | exact List.forall_mem_nil _ | (refine' List.forall_mem_cons.mpr ⟨?z3be472_h, ?z3be472_t⟩; (case z3be472_h => k_mem); (case z3be472_t => walk_at "SUB"))))
  (k_with "ATS" => (first | refine' Ats.nil | (refine' Ats.hit ?z9e6f72_b; (case z9e6f72_b => walk_at "ATS")) | (refine' Ats.skip ?z9e6f72_b; (case z9e6f72_b => walk_at "ATS"))))
  (k_with "CX" => ((refine' ⟨?za4188e_x1, ?za4188e_x2, ?za4188e_x3, ?za4188e_x4, ?za4188e_x5⟩; (case za4188e_x1 => k_asm); (case za4188e_x2 => k_asm); (case za4188e_x3 => k_asm); (case za4188e_x4 => k_asm); (case za4188e_x5 => first | rfl | assumption))))
  (k_with "NSUB" => ((refine' news_sub ?za05c2b_N ?za05c2b_s; (case za05c2b_N => (rename News _ _ _ _ => oN; exact oN)); (case za05c2b_s => walk_at "SUB"))))
  (k_with "getMethod ref" => ((k_here; (with_reducible show wpAny _ _ (getMethod (Value.ref _) (Str.ofString "get") _) _ _ _); k_dflt (refine' kdg_method (knd := intKind prog0 _) ?z1e447a_N ?z1e447a_m ?z1e447a_d ?_; (case z1e447a_N => k_asm); (case z1e447a_m => k_mem); (case z1e447a_d => assumption)))))
  (k_with "call builtin:dict.get" => ((k_here; k_dflt (refine' kdg_get1 (knd := intKind prog0 _) ?z9e4d13_N ?z9e4d13_m ?z9e4d13_d ?z9e4d13_l ?z9e4d13_k _ rfl ?_; (case z9e4d13_N => k_asm); (case z9e4d13_m => k_mem); (case z9e4d13_d => assumption); (case z9e4d13_l => assumption); (case z9e4d13_k => exact intKind_is _ _ _ _)))))
  (k_with "KSEL" => (first | exact fun _ h => absurd h List.not_mem_nil | (refine' List.forall_mem_cons.mpr ⟨?zf64061_h, ?zf64061_t⟩; (case zf64061_h => first | exact Or.inl (by k_mem) | (refine' Or.inr ⟨_, News.get ?zf64061_n1 ?zf64061_m1, News.get ?zf64061_n2 ?zf64061_m2⟩; (case zf64061_n1 => k_asm); (case zf64061_m1 => k_mem); (case zf64061_n2 => k_asm); (case zf64061_m2 => k_mem))); (case zf64061_t => walk_at "KSEL"))))
  (k_with "KEPT" => ((refine' Kept.sel (kept_of ?z6ac77d_hg ?z6ac77d_f) ?z6ac77d_s; (case z6ac77d_hg => assumption); (case z6ac77d_f => assumption); (case z6ac77d_s => walk_at "KSEL"))))
  (k_with "SUBM" => (first | exact fun _ h => absurd h List.not_mem_nil | (refine' List.forall_mem_cons.mpr ⟨?zaff134_h, ?zaff134_t⟩; (case zaff134_h => k_mem); (case zaff134_t => walk_at "SUBM"))))
  (k_with "FRESH" => ((refine' fresh_of ?z9e8148_hg ?z9e8148_n ?z9e8148_m ?z9e8148_nd ?z9e8148_hs; (case z9e8148_hg => assumption); (case z9e8148_n => assumption); (case z9e8148_m => k_mem); (case z9e8148_nd => first | assumption | exact ND.tl (by assumption) | exact ND.tl (ND.tl (by assumption)) | exact ND.tl (ND.tl (ND.tl (by assumption)))); (case z9e8148_hs => walk_at "SUBM"))))
  (k_with "AT?" => ((refine' News.get ?z4603e9_n1 ?z4603e9_m1; (case z4603e9_n1 => k_asm); (case z4603e9_m1 => k_mem))))
  (k_with "NDSUB" => ((refine' ND.sub ?zb41ab3_s ?zb41ab3_l; (case zb41ab3_s => assumption); (case zb41ab3_l => walk_at "SUBL"))))
  (k_with "SUBL" => (first | exact List.nil_sublist _ | (refine' List.Sublist.cons_cons _ ?ze75662_b; (case ze75662_b => walk_at "SUBL")) | (refine' List.Sublist.cons _ ?ze75662_b; (case ze75662_b => walk_at "SUBL"))))
  (k_with "NDSUB" => (first | (refine' ND.sub ?ze76779_s ?ze76779_l; (case ze76779_s => assumption); (case ze76779_l => walk_at "SUBL")) | (refine' ND.p3 (ND.sub ?ze76779_s ?ze76779_l); (case ze76779_s => assumption); (case ze76779_l => walk_at "SUBL"))))
  (k_with "NEQ" => ((rename ND _ => hS; first | exact ND.ne_l hS (by k_mem) | exact ND.ne_r hS (by k_mem) | (have hS2 := ND.tl hS; walk_at "NEQ"))))
  (k_with "PICK" => (first | refine' Pick.head | (refine' Pick.tail ?z677e40_b; (case z677e40_b => walk_at "PICK"))))
  (k_with "RangeRest" => ((with_unfolding_all first | (refine RangeRest.succ (fun t' h' tk' F' N' => ?_)) | (refine RangeRest.zero (fun h' tk' F' N' => ?_); rename ND _ => hS; have hS9 := ND.tl hS))))
  (k_with "UnrEnd" => ((refine' unrEnd_pick ?z76e4c1_s ?z76e4c1_p ?_; (case z76e4c1_s => assumption); (case z76e4c1_p => walk_at "PICK"); intro hS9; first | ktu_endR | k_unrEnd)))
  (k_with "M ktu_off" => ((refine' Or.inl ?z3326b3_h; (case z3326b3_h => (try dsimp only); walk_at "NEQ"))))
  (k_with "eval List" => ((k_here; k_dflt (refine' disp_list ?z72c816_F ?z72c816_N ?z72c816_hk ?z72c816_he ?z72c816_hz ?_; (case z72c816_F => k_asm); (case z72c816_N => k_asm); (case z72c816_hk => first | rfl | assumption); (case z72c816_he => exact rfl); (case z72c816_hz => exact rfl)); intro l' h' F' N' l1; (try k_lt l1))))
  (k_with "eval Tuple" => ((k_here; k_dflt (refine' disp_tuple ?zcd943b_F ?zcd943b_N ?zcd943b_hk ?zcd943b_he ?zcd943b_hz ?_; (case zcd943b_F => k_asm); (case zcd943b_N => k_asm); (case zcd943b_hk => first | rfl | assumption); (case zcd943b_he => exact rfl); (case zcd943b_hz => exact rfl)); intro l' h' F' N' l1; (try k_lt l1))))
  (k_with "spliced" => ((k_here; (with_reducible show wpAny _ _ (spliced (backTo _ (starEach (_ :: _) _))) _ _ _); k_dflt (refine' simp_all ?z919f57_hk ?z919f57_F ?z919f57_he ?_; (case z919f57_F => k_asm); (case z919f57_hk => first | rfl | assumption); (case z919f57_he => exact rfl); try dsimp only))))
  (k_with "Exists" => ((k_here; k_dflt (refine dict_any (by k_asm) (by k_asm) (Top.nolimit (by k_asm)) (by rfl) (of_decide_eq_true (by rfl)) ?_; intro h' o' F' N' l1 lo' hd'; (try k_lt l1)))))
  (k_with "subscriptTail" => ((k_here; (with_reducible show wpAny _ _ (subscriptTail (PySem.Expr.List _ _) _ (Value.ref _) (Value.int _ _)) _ _ _); k_dflt ((have hj0 := Int.fmod_nonneg_of_pos d (b := 2) (by decide)); (have hj1 := Int.fmod_lt_of_pos d (b := 2) (by decide)); refine' item_m ?z926907_N ?z926907_m ?z926907_a ?z926907_b ?z926907_z ?z926907_s ?_; (case z926907_N => k_asm); (case z926907_m => k_mem); (case z926907_a => assumption); (case z926907_b => assumption); (case z926907_z => exact (show 2 < 2 ^ 62 by decide)); (case z926907_s => with_unfolding_all rfl); intro v' hv'; (obtain ⟨X', t', e', hX'⟩ := strsRK hj0 hj1 hv'; subst e')))))
  trivial
section
variable {w : World} {mean : ExcName → Option Value} {mg mb : Str → Option Value} {A₀ : Around} {base h₀ : Heap} {outer : List Env} {cn : Str} {cs : Scope} {L ea : Addr} {ccd : Value} {cl : List (Str × Addr)} {m : Str → Option Value} {dp un : Nat} {s : Shared} {Q : Value → Shared → Prop} {E : Value → Shared → Prop}
variable {z : W0} {texts opl : Addr} {ro : Obj} {kvs : List (Int × Value)} {vs : List Value} {n tn c2 c1 td tx tbf q0 q1 q2 : Nat} {d : Int} {x : Str} {gv p1 p2 p3 p4 : Value} {env : Env}
theorem disp_0 (C : OpCx w mean mg mb A₀ base h₀ outer dp un z ro kvs vs d x gv) : DispOk w h₀ L dp un (opEnv L c2 c1) outer z texts ro tn n vs kvs (fun y => if y = "held" then some gv else if y = "before" then some (.int vs.length tbf) else if y = "number" then some (.int d td) else if y = "setting" then some (.str x tx) else opMap (.ref z.src) (.ref z.mach) (.ref z.asked) y) (opE 0) := by
  intro s news Q F N S k
  have X := C.X
  have T := C.T
  have B := C.B
  have hd := C.hd
  have hu := C.hu
  have d0 := C.d0
  have d1 := C.d1
  have hxl := C.hxl
  (conv => arg 3; arg 1; whnf)
  (try k_fold)
  iterate 34 (first | (k_unfold; (try dsimp only)) | walk1 | (dsimp only; walk1))
  rename Fr _ _ _ _ => hF
  rename News _ _ _ _ => hN
  rename ND _ => hS
  rename Obj.IsDictOf _ _ _ => hD
  rename (_ == sysModules) = false => hL
  refine' k [(_, _), (_, _), (_, _), (_, _), (_, _)] _ _ _ (OpIn.intro ?w1 ?w2 ?w3 ?w4 ?w5 ?w6 ?w7 ?w8) hF hN hS
  (case w1 => walk_at "SUBL")
  (case w2 => decide)
  (case w3 => exact hD)
  (case w4 => exact hL)
  (case w5 => exact Nat.le_of_ble_eq_true rfl)
  (case w6 => exact (ok_start rfl C))
  (case w7 => exact (rowIs2 fun _ => .bool _))
  (case w8 => exact (by cases decide (0 < d.fmod 3) <;> exact showB_ok (by decide +kernel)))
theorem disp_1 (C : OpCx w mean mg mb A₀ base h₀ outer dp un z ro kvs vs d x gv) : DispOk w h₀ L dp un (opEnv L c2 c1) outer z texts ro tn n vs kvs (fun y => if y = "held" then some gv else if y = "before" then some (.int vs.length tbf) else if y = "number" then some (.int d td) else if y = "setting" then some (.str x tx) else opMap (.ref z.src) (.ref z.mach) (.ref z.asked) y) (opE 1) := by
  intro s news Q F N S k
  have X := C.X
  have T := C.T
  have B := C.B
  have hd := C.hd
  have hu := C.hu
  have d0 := C.d0
  have d1 := C.d1
  have hxl := C.hxl
  (conv => arg 3; arg 1; whnf)
  (try k_fold)
  iterate 44 (first | (k_unfold; (try dsimp only)) | walk1 | (dsimp only; walk1))
  rename Fr _ _ _ _ => hF
  rename News _ _ _ _ => hN
  rename ND _ => hS
  rename Obj.IsDictOf _ _ _ => hD
  rename (_ == sysModules) = false => hL
  rename (_ ∧ _) ∨ (_ ∧ _) => hX9
  refine' k [(_, _), (_, _), (_, _), (_, _), (_, _), (_, _)] _ _ _ (OpIn.intro ?w1 ?w2 ?w3 ?w4 ?w5 ?w6 ?w7 ?w8) hF hN hS
  (case w1 => walk_at "SUBL")
  (case w2 => decide)
  (case w3 => exact hD)
  (case w4 => exact hL)
  (case w5 => exact Nat.le_of_ble_eq_true rfl)
  (case w6 => exact (ok_create rfl C hX9))
  (case w7 => exact (rowIs2 fun _ => .str _ _))
  (case w8 => exact (by rcases hX9 with ⟨_, rfl⟩ | ⟨_, rfl⟩ <;> exact showB_ok (by decide +kernel)))
theorem disp_2 (C : OpCx w mean mg mb A₀ base h₀ outer dp un z ro kvs vs d x gv) : DispOk w h₀ L dp un (opEnv L c2 c1) outer z texts ro tn n vs kvs (fun y => if y = "held" then some gv else if y = "before" then some (.int vs.length tbf) else if y = "number" then some (.int d td) else if y = "setting" then some (.str x tx) else opMap (.ref z.src) (.ref z.mach) (.ref z.asked) y) (opE 2) := by
  intro s news Q F N S k
  have X := C.X
  have T := C.T
  have B := C.B
  have hd := C.hd
  have hu := C.hu
  have d0 := C.d0
  have d1 := C.d1
  have hxl := C.hxl
  (conv => arg 3; arg 1; whnf)
  (try k_fold)
  iterate 13 (first | (k_unfold; (try dsimp only)) | walk1 | (dsimp only; walk1))
  rename Fr _ _ _ _ => hF
  rename News _ _ _ _ => hN
  rename ND _ => hS
  rename Obj.IsDictOf _ _ _ => hD
  rename (_ == sysModules) = false => hL
  refine' k [(_, _), (_, _), (_, _), (_, _), (_, _)] _ _ _ (OpIn.intro ?w1 ?w2 ?w3 ?w4 ?w5 ?w6 ?w7 ?w8) hF hN hS
  (case w1 => walk_at "SUBL")
  (case w2 => decide)
  (case w3 => exact hD)
  (case w4 => exact hL)
  (case w5 => exact Nat.le_of_ble_eq_true rfl)
  (case w6 => exact (ok_drop rfl C))
  (case w7 => exact (rowIs2 fun _ => .int _ _))
  (case w8 => exact (show_int (f := fun a => [.str "drop", a]) (by decide +kernel) d0 d1))
theorem disp_3 (C : OpCx w mean mg mb A₀ base h₀ outer dp un z ro kvs vs d x gv) : DispOk w h₀ L dp un (opEnv L c2 c1) outer z texts ro tn n vs kvs (fun y => if y = "held" then some gv else if y = "before" then some (.int vs.length tbf) else if y = "number" then some (.int d td) else if y = "setting" then some (.str x tx) else opMap (.ref z.src) (.ref z.mach) (.ref z.asked) y) (opE 3) := by
  intro s news Q F N S k
  have X := C.X
  have T := C.T
  have B := C.B
  have hd := C.hd
  have hu := C.hu
  have d0 := C.d0
  have d1 := C.d1
  have hxl := C.hxl
  (conv => arg 3; arg 1; whnf)
  (try k_fold)
  iterate 21 (first | (k_unfold; (try dsimp only)) | walk1 | (dsimp only; walk1))
  rename Fr _ _ _ _ => hF
  rename News _ _ _ _ => hN
  rename ND _ => hS
  rename Obj.IsDictOf _ _ _ => hD
  rename (_ == sysModules) = false => hL
  refine' k [(_, _), (_, _), (_, _), (_, _), (_, _)] _ _ _ (OpIn.intro ?w1 ?w2 ?w3 ?w4 ?w5 ?w6 ?w7 ?w8) hF hN hS
  (case w1 => walk_at "SUBL")
  (case w2 => decide)
  (case w3 => exact hD)
  (case w4 => exact hL)
  (case w5 => exact Nat.le_of_ble_eq_true rfl)
  (case w6 => exact (ok_clear rfl C))
  (case w7 => exact (rowIs2 fun _ => .int _ _))
  (case w8 => exact (show_int (f := fun a => [.str "clear", a]) (by decide +kernel) d0 d1))
theorem disp_4 (C : OpCx w mean mg mb A₀ base h₀ outer dp un z ro kvs vs d x gv) : DispOk w h₀ L dp un (opEnv L c2 c1) outer z texts ro tn n vs kvs (fun y => if y = "held" then some gv else if y = "before" then some (.int vs.length tbf) else if y = "number" then some (.int d td) else if y = "setting" then some (.str x tx) else opMap (.ref z.src) (.ref z.mach) (.ref z.asked) y) (opE 4) := by
  intro s news Q F N S k
  have X := C.X
  have T := C.T
  have B := C.B
  have hd := C.hd
  have hu := C.hu
  have d0 := C.d0
  have d1 := C.d1
  have hxl := C.hxl
  (conv => arg 3; arg 1; whnf)
  (try k_fold)
  iterate 13 (first | (k_unfold; (try dsimp only)) | walk1 | (dsimp only; walk1))
  rename Fr _ _ _ _ => hF
  rename News _ _ _ _ => hN
  rename ND _ => hS
  rename Obj.IsDictOf _ _ _ => hD
  rename (_ == sysModules) = false => hL
  refine' k [(_, _), (_, _), (_, _), (_, _), (_, _)] _ _ _ (OpIn.intro ?w1 ?w2 ?w3 ?w4 ?w5 ?w6 ?w7 ?w8) hF hN hS
  (case w1 => walk_at "SUBL")
  (case w2 => decide)
  (case w3 => exact hD)
  (case w4 => exact hL)
  (case w5 => exact Nat.le_of_ble_eq_true rfl)
  (case w6 => exact (ok_loadSchema rfl C))
  (case w7 => exact rowIs1)
  (case w8 => exact (showB_ok (by decide +kernel)))
theorem disp_5 (C : OpCx w mean mg mb A₀ base h₀ outer dp un z ro kvs vs d x gv) : DispOk w h₀ L dp un (opEnv L c2 c1) outer z texts ro tn n vs kvs (fun y => if y = "held" then some gv else if y = "before" then some (.int vs.length tbf) else if y = "number" then some (.int d td) else if y = "setting" then some (.str x tx) else opMap (.ref z.src) (.ref z.mach) (.ref z.asked) y) (opE 5) := by
  intro s news Q F N S k
  have X := C.X
  have T := C.T
  have B := C.B
  have hd := C.hd
  have hu := C.hu
  have d0 := C.d0
  have d1 := C.d1
  have hxl := C.hxl
  (conv => arg 3; arg 1; whnf)
  (try k_fold)
  iterate 13 (first | (k_unfold; (try dsimp only)) | walk1 | (dsimp only; walk1))
  rename Fr _ _ _ _ => hF
  rename News _ _ _ _ => hN
  rename ND _ => hS
  rename Obj.IsDictOf _ _ _ => hD
  rename (_ == sysModules) = false => hL
  refine' k [(_, _), (_, _), (_, _), (_, _), (_, _)] _ _ _ (OpIn.intro ?w1 ?w2 ?w3 ?w4 ?w5 ?w6 ?w7 ?w8) hF hN hS
  (case w1 => walk_at "SUBL")
  (case w2 => decide)
  (case w3 => exact hD)
  (case w4 => exact hL)
  (case w5 => exact Nat.le_of_ble_eq_true rfl)
  (case w6 => exact (ok_setCookie rfl C))
  (case w7 => exact rowIs1)
  (case w8 => exact (showB_ok (by decide +kernel)))
theorem disp_6 (C : OpCx w mean mg mb A₀ base h₀ outer dp un z ro kvs vs d x gv) : DispOk w h₀ L dp un (opEnv L c2 c1) outer z texts ro tn n vs kvs (fun y => if y = "held" then some gv else if y = "before" then some (.int vs.length tbf) else if y = "number" then some (.int d td) else if y = "setting" then some (.str x tx) else opMap (.ref z.src) (.ref z.mach) (.ref z.asked) y) (opE 6) := by
  intro s news Q F N S k
  have X := C.X
  have T := C.T
  have B := C.B
  have hd := C.hd
  have hu := C.hu
  have d0 := C.d0
  have d1 := C.d1
  have hxl := C.hxl
  (conv => arg 3; arg 1; whnf)
  (try k_fold)
  iterate 13 (first | (k_unfold; (try dsimp only)) | walk1 | (dsimp only; walk1))
  rename Fr _ _ _ _ => hF
  rename News _ _ _ _ => hN
  rename ND _ => hS
  rename Obj.IsDictOf _ _ _ => hD
  rename (_ == sysModules) = false => hL
  refine' k [(_, _), (_, _), (_, _), (_, _), (_, _)] _ _ _ (OpIn.intro ?w1 ?w2 ?w3 ?w4 ?w5 ?w6 ?w7 ?w8) hF hN hS
  (case w1 => walk_at "SUBL")
  (case w2 => decide)
  (case w3 => exact hD)
  (case w4 => exact hL)
  (case w5 => exact Nat.le_of_ble_eq_true rfl)
  (case w6 => exact (ok_verifyCookie rfl C))
  (case w7 => exact (rowIs2 fun _ => .int _ _))
  (case w8 => exact (show_int (f := fun a => [.str "verify_cookie", a]) (by decide +kernel) d0 d1))
theorem disp_7 (C : OpCx w mean mg mb A₀ base h₀ outer dp un z ro kvs vs d x gv) : DispOk w h₀ L dp un (opEnv L c2 c1) outer z texts ro tn n vs kvs (fun y => if y = "held" then some gv else if y = "before" then some (.int vs.length tbf) else if y = "number" then some (.int d td) else if y = "setting" then some (.str x tx) else opMap (.ref z.src) (.ref z.mach) (.ref z.asked) y) (opE 7) := by
  intro s news Q F N S k
  have X := C.X
  have T := C.T
  have B := C.B
  have hd := C.hd
  have hu := C.hu
  have d0 := C.d0
  have d1 := C.d1
  have hxl := C.hxl
  (conv => arg 3; arg 1; whnf)
  (try k_fold)
  iterate 22 (first | (k_unfold; (try dsimp only)) | walk1 | (dsimp only; walk1))
  rename Fr _ _ _ _ => hF
  rename News _ _ _ _ => hN
  rename ND _ => hS
  rename Obj.IsDictOf _ _ _ => hD
  rename (_ == sysModules) = false => hL
  refine' k [(_, _), (_, _), (_, _), (_, _), (_, _)] _ _ _ (OpIn.intro ?w1 ?w2 ?w3 ?w4 ?w5 ?w6 ?w7 ?w8) hF hN hS
  (case w1 => walk_at "SUBL")
  (case w2 => decide)
  (case w3 => exact hD)
  (case w4 => exact hL)
  (case w5 => exact Nat.le_of_ble_eq_true rfl)
  (case w6 => exact (ok_pragmaGet rfl C))
  (case w7 => exact (rowIs2 fun _ => .str _ _))
  (case w8 => exact (show_SS (f := fun x => [.str "pragma_get", .str x]) (by decide +kernel) C.hx))
theorem disp_8 (C : OpCx w mean mg mb A₀ base h₀ outer dp un z ro kvs vs d x gv) : DispOk w h₀ L dp un (opEnv L c2 c1) outer z texts ro tn n vs kvs (fun y => if y = "held" then some gv else if y = "before" then some (.int vs.length tbf) else if y = "number" then some (.int d td) else if y = "setting" then some (.str x tx) else opMap (.ref z.src) (.ref z.mach) (.ref z.asked) y) (opE 8) := by
  intro s news Q F N S k
  have X := C.X
  have T := C.T
  have B := C.B
  have hd := C.hd
  have hu := C.hu
  have d0 := C.d0
  have d1 := C.d1
  have hxl := C.hxl
  (conv => arg 3; arg 1; whnf)
  (try k_fold)
  iterate 24 (first | (k_unfold; (try dsimp only)) | walk1 | (dsimp only; walk1))
  rename Fr _ _ _ _ => hF
  rename News _ _ _ _ => hN
  rename ND _ => hS
  rename Obj.IsDictOf _ _ _ => hD
  rename (_ == sysModules) = false => hL
  obtain ⟨r9, hm9, hr9⟩ := C.hw.dat
  refine' k [(_, _), (_, _), (_, _), (_, _), (_, _)] _ _ _ (OpIn.intro ?w1 ?w2 ?w3 ?w4 ?w5 ?w6 ?w7 ?w8) hF hN hS
  (case w1 => walk_at "SUBL")
  (case w2 => decide)
  (case w3 => exact hD)
  (case w4 => exact hL)
  (case w5 => exact Nat.le_of_ble_eq_true rfl)
  (case w6 => exact (ok_pragmaSet rfl C hr9))
  (case w7 => exact (rowIs3 (fun _ => .str _ _) hr9))
  (case w8 => exact (show_set C.hx hm9))
end

theorem fillIt32 : PySem.Challenge.rw_pb0451_01 = PySem.Challenge.rw_pb0451_01 ∧ KH = KH := by k_fill; exact ⟨rfl, rfl⟩
theorem klines_G5_0 : True := by
  k_with_none
  (k_with "subscriptTail Name Constant ref int" => ((k_here; (with_reducible show wpAny _ _ (subscriptTail _ _ (Value.ref _) (Value.int _ _)) _ _ _); (with_unfolding_all refine' item_litK ?z73ea9d_k1 ?z73ea9d_k2 ?z73ea9d_k3 ?z73ea9d_k4 ?_ ?z73ea9d_k6; (case z73ea9d_k1 => is_list); (case z73ea9d_k2 => decide); (case z73ea9d_k3 => decide); (case z73ea9d_k4 => rfl); (case z73ea9d_k6 => with_unfolding_all rfl); k_whole))))
  (k_with "ENTER" => (((case k6 => k_is); (case k7 => k_is); (case k8 => omega); (case k9 => exact BindsTo.of_eq rfl); (case kB => (conv => lhs; whnf)); (case kL => exact locs rfl); (case c2 => exact rfl); (case c3 => exact rfl); (case c4 => exact rfl); (case c5 => decide); intro g' L' h' HG' FG' F' N' B' X' T' l'; (try dsimp only); k_fold)))
  (k_with "GO" => (repeat' (first | (k_unfold; (try dsimp only)) | (k_end; wrow_close) | walk1 | (dsimp only; walk1))))
  (k_with "ATF" => (first | refine' AtF.head | (refine' AtF.tail ?zaeb911_b; (case zaeb911_b => k_extra "ATF"))))
  (k_with "AT" => (first | refine' At.head | (refine' At.tail ?z4c4c10_b; (case z4c4c10_b => k_extra "AT"))))
  (k_with "M k_upd" => ((rename ND _ => hS; refine' upd_sd ?z531fe4_a hS ?z531fe4_e; (case z531fe4_a => k_extra "AT"); (case z531fe4_e => rfl))))
  (k_with "M k_updF" => ((rename ND _ => hS; refine' updF_sd ?zc7fe0e_a hS ?zc7fe0e_e; (case zc7fe0e_a => k_extra "ATF"); (case zc7fe0e_e => rfl))))
  (k_with "M kn_among" => ((simp [codeAmong, rawInt]; done)))
  (k_with "M kn_triples" => ((simp [TriplesOk, rawInt]; done)))
  (k_with "M k_room" => ((first | omega | ((try simp only [depth_mark, depth_under_make, depth_under_kw, depth_in1, depth_deeper, depth_caller]); omega))))
  (k_with "SUB" => (first | exact List.forall_mem_nil _ | (refine' List.forall_mem_cons.mpr ⟨?z3be472_h, ?z3be472_t⟩; (case z3be472_h => k_mem); (case z3be472_t => k_extra "SUB"))))
  (k_with "ATS" => (first | refine' Ats.nil | (refine' Ats.hit ?z9e6f72_b; (case z9e6f72_b => k_extra "ATS")) | (refine' Ats.skip ?z9e6f72_b; (case z9e6f72_b => k_extra "ATS"))))
  (k_with "CX" => ((refine' ⟨?za4188e_x1, ?za4188e_x2, ?za4188e_x3, ?za4188e_x4, ?za4188e_x5⟩; (case za4188e_x1 => k_asm); (case za4188e_x2 => k_asm); (case za4188e_x3 => k_asm); (case za4188e_x4 => k_asm); (case za4188e_x5 => first | rfl | assumption))))
  (k_with "NSUB" => ((refine' news_sub ?za05c2b_N ?za05c2b_s; (case za05c2b_N => (rename News _ _ _ _ => oN; exact oN)); (case za05c2b_s => k_extra "SUB"))))
  (k_with "getMethod ref" => ((k_here; (with_reducible show wpAny _ _ (getMethod (Value.ref _) (Str.ofString "get") _) _ _ _); k_dflt (refine' kdg_method (knd := intKind prog0 _) ?z1e447a_N ?z1e447a_m ?z1e447a_d ?_; (case z1e447a_N => k_asm); (case z1e447a_m => k_mem); (case z1e447a_d => assumption)))))
  (k_with "call builtin:dict.get" => ((k_here; k_dflt (refine' kdg_get1 (knd := intKind prog0 _) ?z9e4d13_N ?z9e4d13_m ?z9e4d13_d ?z9e4d13_l ?z9e4d13_k _ rfl ?_; (case z9e4d13_N => k_asm); (case z9e4d13_m => k_mem); (case z9e4d13_d => assumption); (case z9e4d13_l => assumption); (case z9e4d13_k => exact intKind_is _ _ _ _)))))
  (k_with "KSEL" => (first | exact fun _ h => absurd h List.not_mem_nil | (refine' List.forall_mem_cons.mpr ⟨?zf64061_h, ?zf64061_t⟩; (case zf64061_h => first | exact Or.inl (by k_mem) | (refine' Or.inr ⟨_, News.get ?zf64061_n1 ?zf64061_m1, News.get ?zf64061_n2 ?zf64061_m2⟩; (case zf64061_n1 => k_asm); (case zf64061_m1 => k_mem); (case zf64061_n2 => k_asm); (case zf64061_m2 => k_mem))); (case zf64061_t => k_extra "KSEL"))))
  (k_with "KEPT" => ((refine' Kept.sel (kept_of ?z6ac77d_hg ?z6ac77d_f) ?z6ac77d_s; (case z6ac77d_hg => assumption); (case z6ac77d_f => assumption); (case z6ac77d_s => k_extra "KSEL"))))
  (k_with "SUBM" => (first | exact fun _ h => absurd h List.not_mem_nil | (refine' List.forall_mem_cons.mpr ⟨?zaff134_h, ?zaff134_t⟩; (case zaff134_h => k_mem); (case zaff134_t => k_extra "SUBM"))))
  (k_with "FRESH" => ((refine' fresh_of ?z9e8148_hg ?z9e8148_n ?z9e8148_m ?z9e8148_nd ?z9e8148_hs; (case z9e8148_hg => assumption); (case z9e8148_n => assumption); (case z9e8148_m => k_mem); (case z9e8148_nd => first | assumption | exact ND.tl (by assumption) | exact ND.tl (ND.tl (by assumption)) | exact ND.tl (ND.tl (ND.tl (by assumption)))); (case z9e8148_hs => k_extra "SUBM"))))
  (k_with "AT?" => ((refine' News.get ?z4603e9_n1 ?z4603e9_m1; (case z4603e9_n1 => k_asm); (case z4603e9_m1 => k_mem))))
  (k_with "NDSUB" => ((refine' ND.sub ?zb41ab3_s ?zb41ab3_l; (case zb41ab3_s => assumption); (case zb41ab3_l => k_extra "SUBL"))))
  (k_with "SUBL" => (first | exact List.nil_sublist _ | (refine' List.Sublist.cons_cons _ ?ze75662_b; (case ze75662_b => k_extra "SUBL")) | (refine' List.Sublist.cons _ ?ze75662_b; (case ze75662_b => k_extra "SUBL"))))
  (k_with "BACKP" => ((intro ro' tk' h' F' g1' hr' hK'; rename ND _ => hS; (rename News _ _ _ _ => oN); refine' with_back (ch := [(_, _)]) oN hS rfl hK' (List.forall_mem_cons.mpr ⟨g1', List.forall_mem_nil _⟩) ?z13acb0_at' ?_; (case z13acb0_at' => k_extra "ATS"); intro N'; clear oN hK' g1')))
  (k_with "BACK0" => ((intro tk' h' F' hK'; (rename News _ _ _ _ => oN); have N' := news_kept oN hK' (fun _ _ h => nomatch h); clear oN hK')))
  (k_with "NDSUB" => (first | (refine' ND.sub ?ze76779_s ?ze76779_l; (case ze76779_s => assumption); (case ze76779_l => k_extra "SUBL")) | (refine' ND.p3 (ND.sub ?ze76779_s ?ze76779_l); (case ze76779_s => assumption); (case ze76779_l => k_extra "SUBL"))))
  (k_with "NEQ" => ((rename ND _ => hS; first | exact ND.ne_l hS (by k_mem) | exact ND.ne_r hS (by k_mem) | (have hS2 := ND.tl hS; k_extra "NEQ"))))
  (k_with "PICK" => (first | refine' Pick.head | (refine' Pick.tail ?z677e40_b; (case z677e40_b => k_extra "PICK"))))
  (k_with "RangeRest" => ((with_unfolding_all first | (refine RangeRest.succ (fun t' h' tk' F' N' => ?_)) | (refine RangeRest.zero (fun h' tk' F' N' => ?_); rename ND _ => hS; have hS9 := ND.tl hS))))
  (k_with "UnrEnd" => ((refine' unrEnd_pick ?z76e4c1_s ?z76e4c1_p ?_; (case z76e4c1_s => assumption); (case z76e4c1_p => k_extra "PICK"); intro hS9; first | ktu_endR | k_unrEnd)))
  (k_with "M ktu_off" => ((refine' Or.inl ?z3326b3_h; (case z3326b3_h => (try dsimp only); k_extra "NEQ"))))
  (k_with "eval List" => ((k_here; k_dflt (refine' disp_list ?z72c816_F ?z72c816_N ?z72c816_hk ?z72c816_he ?z72c816_hz ?_; (case z72c816_F => k_asm); (case z72c816_N => k_asm); (case z72c816_hk => first | rfl | assumption); (case z72c816_he => exact rfl); (case z72c816_hz => exact rfl)); intro l' h' F' N' l1; (try k_lt l1))))
  (k_with "eval Tuple" => ((k_here; k_dflt (refine' disp_tuple ?zcd943b_F ?zcd943b_N ?zcd943b_hk ?zcd943b_he ?zcd943b_hz ?_; (case zcd943b_F => k_asm); (case zcd943b_N => k_asm); (case zcd943b_hk => first | rfl | assumption); (case zcd943b_he => exact rfl); (case zcd943b_hz => exact rfl)); intro l' h' F' N' l1; (try k_lt l1))))
  (k_with "spliced" => ((k_here; (with_reducible show wpAny _ _ (spliced (backTo _ (starEach (_ :: _) _))) _ _ _); k_dflt (refine' simp_all ?z919f57_hk ?z919f57_F ?z919f57_he ?_; (case z919f57_F => k_asm); (case z919f57_hk => first | rfl | assumption); (case z919f57_he => exact rfl); try dsimp only))))
  (k_with "call ref" => ((k_here; (with_reducible show wpAny _ _ (call (Value.ref 355) _) _ _ _); k_dflt (refine' put_c ?zc433b0_c ?zc433b0_n ?zc433b0_s ?zc433b0_hr ?zc433b0_z ?zc433b0_d ?_; (case zc433b0_c => k_extra "CX"); (case zc433b0_n => k_extra "NSUB"); (case zc433b0_hr => assumption); (case zc433b0_z => first | omega | exact Nat.le_trans length_stored_le (by omega) | exact Nat.le_trans length_stored_le (Nat.succ_le_succ (Nat.le_trans length_stored_le (by omega)))); (case zc433b0_s => k_extra "NDSUB"); (case zc433b0_d => omega); k_extra "BACKP"))))
  (k_with "call ref" => ((k_here; (with_reducible show wpAny _ _ (call (Value.ref 348) _) _ _ _); k_dflt (refine' get_v ?zdb1ea9_c ?zdb1ea9_n ?zdb1ea9_s ?zdb1ea9_hr ?zdb1ea9_sm ?zdb1ea9_d ?zdb1ea9_hv ?_; (case zdb1ea9_c => k_extra "CX"); (case zdb1ea9_n => k_extra "NSUB"); (case zdb1ea9_hr => assumption); (case zdb1ea9_sm => assumption); (case zdb1ea9_s => k_extra "NDSUB"); (case zdb1ea9_d => omega); (case zdb1ea9_hv => first | assumption | exact get_stored | rfl); k_extra "BACK0"))))
  (k_with "call ref" => ((k_here; (with_reducible show wpAny _ _ (call (Value.ref 510) _) _ _ _); k_dflt (refine' one_c ?z50d3b7_c ?z50d3b7_n ?z50d3b7_s ?z50d3b7_a ?z50d3b7_b ?z50d3b7_b2 ?z50d3b7_t1 ?z50d3b7_t2 ?z50d3b7_d ?_; (case z50d3b7_c => k_extra "CX"); (case z50d3b7_n => k_extra "NSUB"); (case z50d3b7_s => k_extra "NDSUB"); (case z50d3b7_a => assumption); (case z50d3b7_b => assumption); (case z50d3b7_b2 => assumption); (case z50d3b7_t1 => exact Nat.succ_pos _); (case z50d3b7_t2 => exact Nat.le_of_ble_eq_true rfl); (case z50d3b7_d => omega); intro i' v' a' b' ta' tb' n' tk' h' hv' h3' h4' h5' F' hs' hK'; (try first | (obtain ⟨x', t', e', hx', hl'⟩ := strs2 hv'; subst e'; clear hv') | (have hw' := isW4 hv'; clear hv')); rename ND _ => hS; (rename News _ _ _ _ => oN); refine' with_back (ch := [(_, _)]) oN hS rfl hK' (List.forall_mem_cons.mpr ⟨hs', List.forall_mem_nil _⟩) ?z50d3b7_at' ?_; (case z50d3b7_at' => k_extra "ATS"); intro N'; clear oN hK' hs'))))
  (k_with "call ref" => ((k_here; (with_reducible show wpAny _ _ (call (Value.ref 503) _) _ _ _); k_dflt (refine' take_c ?z9c8311_c ?z9c8311_n ?z9c8311_a ?z9c8311_b ?z9c8311_b2 ?z9c8311_t1 ?z9c8311_t2 ?z9c8311_d ?_; (case z9c8311_c => k_extra "CX"); (case z9c8311_n => k_extra "NSUB"); (case z9c8311_a => assumption); (case z9c8311_b => assumption); (case z9c8311_b2 => assumption); (case z9c8311_t1 => omega); (case z9c8311_t2 => omega); (case z9c8311_d => omega); intro d' a' b' td' ta' tb' n' tk' h' h1' h2' h3' h4' h5' F' hs' hK'; (rename ND _ => hS; (rename News _ _ _ _ => oN); refine' with_back (ch := [(_, _)]) oN hS rfl hK' (List.forall_mem_cons.mpr ⟨hs', List.forall_mem_nil _⟩) ?z9c8311_at' ?_; (case z9c8311_at' => k_extra "ATS"); intro N'; clear oN hK' hs')))))
  (k_with "call builtin:len" => ((k_here; refine' len_m ?z9bcdd3_N ?z9bcdd3_m ?z9bcdd3_z ?_; (case z9bcdd3_N => k_asm); (case z9bcdd3_m => k_mem); (case z9bcdd3_z => omega))))
  trivial
section
variable {w : World} {mean : ExcName → Option Value} {mg mb : Str → Option Value} {A₀ : Around} {base h₀ : Heap} {outer : List Env} {cn : Str} {cs : Scope} {L ea : Addr} {ccd : Value} {cl : List (Str × Addr)} {m : Str → Option Value} {dp un : Nat} {s : Shared} {Q : Value → Shared → Prop} {E : Value → Shared → Prop}
variable {z : W0} {texts opl : Addr} {ro : Obj} {kvs : List (Int × Value)} {vs : List Value} {n tn c2 c1 td tx tbf q0 q1 q2 : Nat} {d : Int} {x : Str} {gv p1 p2 p3 p4 : Value} {env : Env}
variable {n0 ta tb : Nat} {cc : Int} {ct : Nat} {a b : Int}
theorem opEs_ok (C : OpCx w mean mg mb A₀ base h₀ outer dp un z ro kvs vs d x gv) : ∀ e ∈ opEs, DispOk w h₀ L dp un (opEnv L c2 c1) outer z texts ro tn n vs kvs (fun y => if y = "held" then some gv else if y = "before" then some (.int vs.length tbf) else if y = "number" then some (.int d td) else if y = "setting" then some (.str x tx) else opMap (.ref z.src) (.ref z.mach) (.ref z.asked) y) e ∧ ∀ r, starEach (e :: r) (opEnv L c2 c1) = (false, eval e (opEnv L c2 c1)) :: starEach r (opEnv L c2 c1) := by
  have e : opEs = [opE 0, opE 1, opE 2, opE 3, opE 4, opE 5, opE 6, opE 7, opE 8] := rfl
  rw [e]
  refine List.forall_mem_cons.mpr ⟨⟨disp_0 C, fun _ => rfl⟩, List.forall_mem_cons.mpr ⟨⟨disp_1 C, fun _ => rfl⟩, List.forall_mem_cons.mpr ⟨⟨disp_2 C, fun _ => rfl⟩, List.forall_mem_cons.mpr ⟨⟨disp_3 C, fun _ => rfl⟩, List.forall_mem_cons.mpr ⟨⟨disp_4 C, fun _ => rfl⟩, List.forall_mem_cons.mpr ⟨⟨disp_5 C, fun _ => rfl⟩, List.forall_mem_cons.mpr ⟨⟨disp_6 C, fun _ => rfl⟩, List.forall_mem_cons.mpr ⟨⟨disp_7 C, fun _ => rfl⟩, List.forall_mem_cons.mpr ⟨⟨disp_8 C, fun _ => rfl⟩, List.forall_mem_nil _⟩⟩⟩⟩⟩⟩⟩⟩⟩
theorem opcode_c (C : Cx w mean mg mb A₀ base h₀ outer L m cs s.heap) (LA : Lams s.heap [z.mach, z.md, texts, z.conn, z.cnd, z.btree, z.btd, z.core, z.cd, z.regs, z.cell, z.asked, z.src] z) (hr : ro.IsDictOf (intKind prog0 w) kvs) (hkz : kvs.length ≤ 700) (hkf : ∀ p ∈ kvs, IsF p.2) (hsm : (z.regs == sysModules) = false)
    (N : News h₀ L s.heap [(z.mach, instObj 60 z.md), (z.md, dictOf (machD w.params z texts) 3), (texts, listOf #[] tn), (z.conn, instObj 485 z.cnd), (z.cnd, dictOf (connD w.params z cc ct) 22), (z.btree, instObj 485 z.btd), (z.btd, dictOf (btreeD w.params z) 11), (z.core, instObj 391 z.cd), (z.cd, dictOf (coreZ w.params z) 3), (z.regs, ro), (z.cell, z.co), (z.asked, listOf vs.toArray n), (z.src, listOf #[.int a ta, .int b tb] n0)]) (S : ND [z.mach, z.md, texts, z.conn, z.cnd, z.btree, z.btd, z.core, z.cd, z.regs, z.cell, z.asked, z.src]) (hco : z.co.data = .cell (some (.ref z.asked))) (hz : vs.length ≤ 900) (ha : 0 ≤ a) (hb : 0 ≤ b) (hb' : b < 2147483647) (hd : dp + 25 < recursionLimit) (hu : un + 100 < cLine)
    (k : ∀ (r : Addr) (ro' : Obj) (kvs' : List (Int × Value)) (a' b' : Int) (ta' tb' n' n2' tk : Nat) h', kvs'.length ≤ kvs.length + 4 → (∀ p ∈ kvs', IsF p.2) → 0 ≤ a' → 0 ≤ b' → b' < 2147483647 → Fr h₀ L h' m → h'.get? z.src = some (listOf #[.int a' ta', .int b' tb'] n') → h'.get? z.asked = some (listOf (vs ++ [Value.ref r]).toArray n2') → h'.get? z.regs = some ro' → ro'.IsDictOf (intKind prog0 w) kvs' → Kept [z.regs, z.asked, z.src] s.heap h' → Q (.bool true) { s with heap := h', toks := tk }) :
    wpAny (model prog0 w) (AR dp un (envX cn cs L ea ccd cl) outer) (call (.ref 541) [.ref z.src, .ref z.core, .ref z.mach, .ref z.asked]) Q E s := by
  obtain ⟨X, T, B, F, hk⟩ := C
  refine' enter_op X T B F N rfl hk ?k8 ?_
  (case k8 => omega)
  intro g' L' h' tk' co2 co1 hG FG' F' N' hc2 hc1 B' X' T' l'
  have S2 := ND.two_up l' S rfl
  clear S
  have LG := LA.at hG (fun _ h => h)
  (conv => arg 3; arg 1; whnf)
  (try k_fold)
  iterate 90 (first | (k_unfold; (try dsimp only)) | walk1 | (dsimp only; walk1))
  rename Fr _ _ _ _ => hF
  rename News _ _ _ _ => hN
  rename ND _ => hS
  rename IsW _ => hw
  rename Obj.IsDictOf _ _ _ => hr9
  rename (_ ∈ SS) => hx
  rename (_ ≤ 1000) => hxl
  rename (_ < (30 : Int)) => hd1
  have C9 : OpCx w mean mg mb (AR dp un (envX cn cs L ea ccd cl) outer) base g' (envX cn cs L ea ccd cl :: outer) (dp + 1) (un + 3) z _ (stored kvs 1 _) vs _ _ _ :=
    { X := X', T := T', B := B', LG := LG, hr := hr9, hkz := Nat.le_trans length_stored_le (by omega), hkf := stored_F hkf hw.isF, hsm := hsm, hco := hco, hz := hz, hd := by omega, hu := by omega, d0 := by assumption, d1 := hd1, hx := hx, hxl := hxl, hw := hw, hv := get_stored }
  refine disp_ops (es := opEs) hF hN hS (opEs_ok (texts := texts) (tn := tn) (n := n) C9) rfl ?_
  intro l9 objs us tk1 h1 hl9 hus F1 N1 S1
  iterate 2 (first | (k_unfold; (try dsimp only)) | walk1 | (dsimp only; walk1))
  have N2 : News g' L' h1 [(l9, listOf us.toArray 0), (z.src, listOf #[.int a' ta', .int b' tb'] n')] := news_sub N1 (List.forall_mem_cons.mpr ⟨.head _, List.forall_mem_cons.mpr ⟨.tail _ (List.mem_append_right _ (by k_mem)), List.forall_mem_nil _⟩⟩)
  have S9 : ND [l9, z.src] := ND.two (ND.ne_l S1 (List.mem_map.mpr ⟨(z.src, listOf #[.int a' ta', .int b' tb'] n'), List.mem_append_right _ (by k_mem), rfl⟩))
  refine one_c ⟨X', T', B', F1, rfl⟩ N2 S9 h3' h4' h5' (by omega) (by omega) (by omega) ?_
  intro i9 v9 a9 b9 ta9 tb9 n9 tk9 h9 hv9 ha9 hb9 hb9' F9 hs9 hK9
  obtain ⟨tp, opl, due, dt, lat, lo, lkv, row, rs, nm, p1, p2, p3, p4, q0, rfl, hsub, hrow, hshow, hnm, hlo, hls, hlz, hok⟩ := hus v9 (List.mem_of_getElem? hv9)
  obtain ⟨N10, S10⟩ := pick_ledger N1 S1 hsub hK9 hs9 (by k_extra "ATS")
  clear N2 S9 N1 S1 F1 hus hsub hS hF hN hK9
  simp only [List.cons_append, List.nil_append, List.map_cons, List.map_nil] at N10 S10
  iterate 11 (first | (k_unfold; (try dsimp only)) | walk1 | (dsimp only; walk1))
  rename Fr _ _ _ _ => hF2
  rename News _ _ _ _ => hN2
  refine opcode_rest X' T' B' hF2 (news_sub hN2 (by k_extra "SUB")) (ND.sub S10 (by k_extra "SUBL")) hc2 hc1 hrow hshow hnm hlo hls hlz C9.hr hsm hz (by omega) (by omega) hok ?_
  intro r ro' kvs' n10 tk10 m10 h10 hd10 hl10 hf10 F10 N11
  show LeaveK h₀ L m g' _ (.bool true) _
  unfold LeaveK
  refine ⟨_, _, _, F10, N11, fun F11 N12 => ?_⟩
  refine' k r ro' kvs' a9 b9 ta9 tb9 _ _ _ h10 ?e1 hf10 ha9 hb9 hb9' F11 ?e2 ?e3 ?e4 hd10 ?e5
  (case e2 => k_extra "AT?")
  (case e3 => k_extra "AT?")
  (case e4 => k_extra "AT?")
  (case e1 => (have := length_stored_le (kvs := kvs) (k := 1) (v := v'); omega))
  (case e5 => k_extra "KEPT")
end

theorem fillIt24 : PySem.Challenge.rw_pb0451_01 = PySem.Challenge.rw_pb0451_01 ∧ KH = KH := by k_fill; exact ⟨rfl, rfl⟩
theorem klines_C22_0 : True := by
  k_with_none
  (k_with "subscriptTail Name Constant ref int" => ((k_here; (with_reducible show wpAny _ _ (subscriptTail _ _ (Value.ref _) (Value.int _ _)) _ _ _); (with_unfolding_all refine' item_litK ?z73ea9d_k1 ?z73ea9d_k2 ?z73ea9d_k3 ?z73ea9d_k4 ?_ ?z73ea9d_k6; (case z73ea9d_k1 => is_list); (case z73ea9d_k2 => decide); (case z73ea9d_k3 => decide); (case z73ea9d_k4 => rfl); (case z73ea9d_k6 => with_unfolding_all rfl); k_whole))))
  (k_with "ENTER" => (((case k6 => k_is); (case k7 => k_is); (case k8 => omega); (case k9 => exact BindsTo.of_eq rfl); (case kB => (conv => lhs; whnf)); (case kL => exact locs rfl); (case c2 => exact rfl); (case c3 => exact rfl); (case c4 => exact rfl); (case c5 => decide); intro g' L' h' HG' FG' F' N' B' X' T' l'; (try dsimp only); k_fold)))
  (k_with "GO" => (repeat' (first | (k_unfold; (try dsimp only)) | (k_end; wrow_close) | walk1 | (dsimp only; walk1))))
  (k_with "ATF" => (first | refine' AtF.head | (refine' AtF.tail ?zaeb911_b; (case zaeb911_b => walk_at "ATF"))))
  (k_with "AT" => (first | refine' At.head | (refine' At.tail ?z4c4c10_b; (case z4c4c10_b => walk_at "AT"))))
  (k_with "M k_upd" => ((rename ND _ => hS; refine' upd_sd ?z531fe4_a hS ?z531fe4_e; (case z531fe4_a => walk_at "AT"); (case z531fe4_e => rfl))))
  (k_with "M k_updF" => ((rename ND _ => hS; refine' updF_sd ?zc7fe0e_a hS ?zc7fe0e_e; (case zc7fe0e_a => walk_at "ATF"); (case zc7fe0e_e => rfl))))
  (k_with "M kn_among" => ((simp [codeAmong, rawInt]; done)))
  (k_with "M kn_triples" => ((simp [TriplesOk, rawInt]; done)))
  (k_with "M k_room" => ((first | omega | ((try simp only [depth_mark, depth_under_make, depth_under_kw, depth_in1, depth_deeper, depth_caller]); omega))))
  (k_with "SUB" => (first | exact List.forall_mem_nil _ | (refine' List.forall_mem_cons.mpr ⟨?z3be472_h, ?z3be472_t⟩; (case z3be472_h => k_mem); (case z3be472_t => walk_at "SUB"))))
  (k_with "ATS" => (first | refine' Ats.nil | (refine' Ats.hit ?z9e6f72_b; (case z9e6f72_b => walk_at "ATS")) | (refine' Ats.skip ?z9e6f72_b; (case z9e6f72_b => walk_at "ATS"))))
  (k_with "CX" => ((refine' ⟨?za4188e_x1, ?za4188e_x2, ?za4188e_x3, ?za4188e_x4, ?za4188e_x5⟩; (case za4188e_x1 => k_asm); (case za4188e_x2 => k_asm); (case za4188e_x3 => k_asm); (case za4188e_x4 => k_asm); (case za4188e_x5 => first | rfl | assumption))))
  (k_with "NSUB" => ((refine' news_sub ?za05c2b_N ?za05c2b_s; (case za05c2b_N => (rename News _ _ _ _ => oN; exact oN)); (case za05c2b_s => walk_at "SUB"))))
  (k_with "getMethod ref" => ((k_here; (with_reducible show wpAny _ _ (getMethod (Value.ref _) (Str.ofString "get") _) _ _ _); k_dflt (refine' kdg_method (knd := intKind prog0 _) ?z1e447a_N ?z1e447a_m ?z1e447a_d ?_; (case z1e447a_N => k_asm); (case z1e447a_m => k_mem); (case z1e447a_d => assumption)))))
  (k_with "call builtin:dict.get" => ((k_here; k_dflt (refine' kdg_get1 (knd := intKind prog0 _) ?z9e4d13_N ?z9e4d13_m ?z9e4d13_d ?z9e4d13_l ?z9e4d13_k _ rfl ?_; (case z9e4d13_N => k_asm); (case z9e4d13_m => k_mem); (case z9e4d13_d => assumption); (case z9e4d13_l => assumption); (case z9e4d13_k => exact intKind_is _ _ _ _)))))
  (k_with "KSEL" => (first | exact fun _ h => absurd h List.not_mem_nil | (refine' List.forall_mem_cons.mpr ⟨?zf64061_h, ?zf64061_t⟩; (case zf64061_h => first | exact Or.inl (by k_mem) | (refine' Or.inr ⟨_, News.get ?zf64061_n1 ?zf64061_m1, News.get ?zf64061_n2 ?zf64061_m2⟩; (case zf64061_n1 => k_asm); (case zf64061_m1 => k_mem); (case zf64061_n2 => k_asm); (case zf64061_m2 => k_mem))); (case zf64061_t => walk_at "KSEL"))))
  (k_with "KEPT" => ((refine' Kept.sel (kept_of ?z6ac77d_hg ?z6ac77d_f) ?z6ac77d_s; (case z6ac77d_hg => assumption); (case z6ac77d_f => assumption); (case z6ac77d_s => walk_at "KSEL"))))
  (k_with "SUBM" => (first | exact fun _ h => absurd h List.not_mem_nil | (refine' List.forall_mem_cons.mpr ⟨?zaff134_h, ?zaff134_t⟩; (case zaff134_h => k_mem); (case zaff134_t => walk_at "SUBM"))))
  (k_with "FRESH" => ((refine' fresh_of ?z9e8148_hg ?z9e8148_n ?z9e8148_m ?z9e8148_nd ?z9e8148_hs; (case z9e8148_hg => assumption); (case z9e8148_n => assumption); (case z9e8148_m => k_mem); (case z9e8148_nd => first | assumption | exact ND.tl (by assumption) | exact ND.tl (ND.tl (by assumption)) | exact ND.tl (ND.tl (ND.tl (by assumption)))); (case z9e8148_hs => walk_at "SUBM"))))
  (k_with "AT?" => ((refine' News.get ?z4603e9_n1 ?z4603e9_m1; (case z4603e9_n1 => k_asm); (case z4603e9_m1 => k_mem))))
  trivial
def turnB : List Stmt := match (fBody (st 38))[(2 : Nat)]? with
  | some (.For _ _ b _ _) => b
  | _ => []
theorem LamAll.less {h : Heap} {as bs : List Addr} {z : W0} (x : Lams h as z) (hs : ∀ b ∈ bs, b ∈ as) : Lams h bs z := by
  intro i h1 h2
  obtain ⟨name, qual, pm, c', ctv, oc, vs, t, e1, e2, e3, e4, n1, n2⟩ := x i h1 h2
  exact ⟨name, qual, pm, c', ctv, oc, vs, t, e1, e2, e3, e4, fun m => n1 (hs _ m), fun m => n2 (hs _ m)⟩
theorem klines_C22_1 : True := by
  (k_with "NDSUB" => ((refine' ND.sub ?zb41ab3_s ?zb41ab3_l; (case zb41ab3_s => assumption); (case zb41ab3_l => walk_at "SUBL"))))
  (k_with "SUBL" => (first | exact List.nil_sublist _ | (refine' List.Sublist.cons_cons _ ?ze75662_b; (case ze75662_b => walk_at "SUBL")) | (refine' List.Sublist.cons _ ?ze75662_b; (case ze75662_b => walk_at "SUBL"))))
  (k_with "NDSUB" => (first | (refine' ND.sub ?ze76779_s ?ze76779_l; (case ze76779_s => assumption); (case ze76779_l => walk_at "SUBL")) | (refine' ND.p3 (ND.sub ?ze76779_s ?ze76779_l); (case ze76779_s => assumption); (case ze76779_l => walk_at "SUBL"))))
  (k_with "NEQ" => ((rename ND _ => hS; first | exact ND.ne_l hS (by k_mem) | exact ND.ne_r hS (by k_mem) | (have hS2 := ND.tl hS; walk_at "NEQ"))))
  (k_with "PICK" => (first | refine' Pick.head | (refine' Pick.tail ?z677e40_b; (case z677e40_b => walk_at "PICK"))))
  (k_with "RangeRest" => ((with_unfolding_all first | (refine RangeRest.succ (fun t' h' tk' F' N' => ?_)) | (refine RangeRest.zero (fun h' tk' F' N' => ?_); rename ND _ => hS; have hS9 := ND.tl hS))))
  (k_with "UnrEnd" => ((refine' unrEnd_pick ?z76e4c1_s ?z76e4c1_p ?_; (case z76e4c1_s => assumption); (case z76e4c1_p => walk_at "PICK"); intro hS9; first | ktu_endR | k_unrEnd)))
  (k_with "M ktu_off" => ((refine' Or.inl ?z3326b3_h; (case z3326b3_h => (try dsimp only); walk_at "NEQ"))))
  (k_with "TAILM" => (first | exact hp | (refine List.Mem.tail _ ?_; walk_at "TAILM")))
  (k_with "SUBLT" => (first | exact List.Sublist.refl _ | (refine' List.Sublist.cons_cons _ ?z45c140_b; (case z45c140_b => walk_at "SUBLT")) | (refine' List.Sublist.cons _ ?z45c140_b; (case z45c140_b => walk_at "SUBLT"))))
  (k_with "LAMS" => ((refine' lams_of ?zab0825_lN ?zab0825_lhs ?zab0825_lx ?zab0825_lnd; (case zab0825_lN => k_asm); (case zab0825_lx => assumption); (case zab0825_lhs => (intro p hp; repeat (first | exact hp | refine List.Mem.tail _ ?_))); (case zab0825_lnd => (rename ND _ => hS; refine ND.sub hS ?_; dsimp only [List.cons_append, List.nil_append]; walk_at "SUBLT")))))
  (k_with "call ref" => ((k_here; (with_reducible show wpAny _ _ (call (Value.ref 536) _) _ _ _); k_dflt (refine' stright_c ?z66f715_c ?z66f715_la ?z66f715_n ?z66f715_s ?z66f715_hco ?z66f715_hz ?z66f715_ha ?z66f715_hb ?z66f715_hb2 ?z66f715_d ?z66f715_u ?_; (case z66f715_c => walk_at "CX"); (case z66f715_n => walk_at "NSUB"); (case z66f715_la => walk_at "LAMS"); (case z66f715_s => walk_at "NDSUB"); (case z66f715_hco => assumption); (case z66f715_hz => first | omega | (simp only [List.length_append, List.length_cons, List.length_nil]; omega)); (case z66f715_ha => assumption); (case z66f715_hb => assumption); (case z66f715_hb2 => assumption); (case z66f715_d => omega); (case z66f715_u => omega); intro r' a' b' ta' tb' n' n2' tk' h' h3' h4' h5' F' g1' g2' hK'; rename ND _ => hS; (rename News _ _ _ _ => oN); refine' with_back (ch := [(_, _), (_, _)]) oN hS rfl hK' (List.forall_mem_cons.mpr ⟨g2', List.forall_mem_cons.mpr ⟨g1', List.forall_mem_nil _⟩⟩) ?z66f715_at' ?_; (case z66f715_at' => walk_at "ATS"); intro N'; clear oN hK' g1' g2'))))
  (k_with "call ref" => ((k_here; (with_reducible show wpAny _ _ (call (Value.ref 541) _) _ _ _); k_dflt (refine' opcode_c ?z3502a0_c ?z3502a0_la ?z3502a0_hr ?z3502a0_hkz ?z3502a0_hkf ?z3502a0_hsm ?z3502a0_n ?z3502a0_s ?z3502a0_hco ?z3502a0_hz ?z3502a0_ha ?z3502a0_hb ?z3502a0_hb2 ?z3502a0_d ?z3502a0_u ?_; (case z3502a0_c => walk_at "CX"); (case z3502a0_n => walk_at "NSUB"); (case z3502a0_la => walk_at "LAMS"); (case z3502a0_hr => assumption); (case z3502a0_hkz => omega); (case z3502a0_hkf => assumption); (case z3502a0_hsm => assumption); (case z3502a0_s => walk_at "NDSUB"); (case z3502a0_hco => assumption); (case z3502a0_hz => first | omega | (simp only [List.length_append, List.length_cons, List.length_nil]; omega)); (case z3502a0_ha => assumption); (case z3502a0_hb => assumption); (case z3502a0_hb2 => assumption); (case z3502a0_d => omega); (case z3502a0_u => omega); intro r' ro' kvs' a' b' ta' tb' n' n2' tk' h' hk1' hk2' h3' h4' h5' F' g1' g2' g3' hd' hK'; rename ND _ => hS; (rename News _ _ _ _ => oN); refine' with_back (ch := [(_, _), (_, _), (_, _)]) oN hS rfl hK' (List.forall_mem_cons.mpr ⟨g3', List.forall_mem_cons.mpr ⟨g2', List.forall_mem_cons.mpr ⟨g1', List.forall_mem_nil _⟩⟩⟩) ?z3502a0_at' ?_; (case z3502a0_at' => walk_at "ATS"); intro N'; clear oN hK' g1' g2' g3'))))
  (k_with "call ref" => ((k_here; (with_reducible show wpAny _ _ (call (Value.ref 555) _) _ _ _); k_dflt (refine' changes_c ?zdf6c73_c ?zdf6c73_hr ?zdf6c73_hkz ?zdf6c73_hsm ?zdf6c73_hc0 ?zdf6c73_hc1 ?zdf6c73_n ?zdf6c73_s ?zdf6c73_hco ?zdf6c73_hz ?zdf6c73_ha ?zdf6c73_hb ?zdf6c73_hb2 ?zdf6c73_d ?zdf6c73_u ?_; (case zdf6c73_c => walk_at "CX"); (case zdf6c73_n => walk_at "NSUB"); (case zdf6c73_hr => assumption); (case zdf6c73_hkz => omega); (case zdf6c73_hsm => assumption); (case zdf6c73_hc0 => assumption); (case zdf6c73_hc1 => omega); (case zdf6c73_s => walk_at "NDSUB"); (case zdf6c73_hco => assumption); (case zdf6c73_hz => first | omega | (simp only [List.length_append, List.length_cons, List.length_nil]; omega)); (case zdf6c73_ha => assumption); (case zdf6c73_hb => assumption); (case zdf6c73_hb2 => assumption); (case zdf6c73_d => omega); (case zdf6c73_u => omega); intro v' ro' a' b' cc' ta' tb' n' ct' tk' h' hv' h3' h4' h5' hc1' hc2' F' g1' g2' hd' g3' hK'; rename ND _ => hS; (rename News _ _ _ _ => oN); refine' with_back (ch := [(_, _), (_, _), (_, _)]) oN hS rfl hK' (List.forall_mem_cons.mpr ⟨g3', List.forall_mem_cons.mpr ⟨g2', List.forall_mem_cons.mpr ⟨g1', List.forall_mem_nil _⟩⟩⟩) ?zdf6c73_at' ?_; (case zdf6c73_at' => walk_at "ATS"); intro N'; clear oN hK' g1' g2' g3'))))
  trivial
section
variable {w : World} {mean : ExcName → Option Value} {mg mb : Str → Option Value} {A₀ : Around} {base h₀ : Heap} {outer : List Env} {cn : Str} {cs : Scope} {L ea : Addr} {ccd : Value} {cl : List (Str × Addr)} {m : Str → Option Value} {dp un : Nat} {s : Shared} {Q : Value → Shared → Prop} {E : Value → Shared → Prop}
variable {z : W0} {texts : Addr} {ro : Obj} {kvs : List (Int × Value)} {vs : List Value} {n n0 tn ta tb : Nat} {cc : Int} {ct : Nat} {a b : Int}
variable {l fa I : Addr} {lcd : Value} {Qf : Flow → Shared → Prop} {ps : Array Value} {lams : List (Addr × Obj)} {it : Obj} {tv1 tv2 : Option Value} {rest : (Str → Option Value) → List (Addr × Obj) → Prop} {i : Nat}
theorem law_turn (X : (KH w.params).In h₀) (T : Top topProg lawLoose mean mg mb h₀) (B : Below A₀ h₀ [] h₀)
    (F : Fr h₀ L s.heap (fun y => if y = "turn" then tv1 else if y = "turn" then tv2 else if y = "machine" then some (.ref z.mach) else if y = "source" then some (.ref z.src) else if y = "asked" then some (.ref z.asked) else if y = "core" then some (.ref z.core) else List.lookup y [(("script" : Str), Value.ref l)]))
    (N : News h₀ L s.heap ((I, it) :: (z.mach, instObj 60 z.md) :: (z.md, dictOf (machD w.params z texts) 3) :: (texts, listOf #[] tn) :: (z.conn, instObj 485 z.cnd) :: (z.cnd, dictOf (connD w.params z cc ct) 22) :: (z.btree, instObj 485 z.btd) :: (z.btd, dictOf (btreeD w.params z) 11) :: (z.core, instObj 391 z.cd) :: (z.cd, dictOf (coreZ w.params z) 3) :: (z.regs, ro) :: (z.cell, z.co) :: (z.asked, listOf vs.toArray n) :: (z.src, listOf #[.int a ta, .int b tb] n0) :: (519, tabObj ps) :: lams)) (S : ND (I :: z.mach :: z.md :: texts :: z.conn :: z.cnd :: z.btree :: z.btd :: z.core :: z.cd :: z.regs :: z.cell :: z.asked :: z.src :: 519 :: lams.map (·.1))) (LL : LamsL lams z)
    (hco : z.co.data = .cell (some (.ref z.asked))) (hr : ro.IsDictOf (intKind prog0 w) kvs) (hsm : (z.regs == sysModules) = false) (hkz : kvs.length ≤ 5 * i) (hkf : ∀ p ∈ kvs, IsF p.2) (hz : vs.length ≤ 2 * i) (hc0 : 0 ≤ cc) (hc1 : cc ≤ 12 * i) (hi : i < 8) (ha : 0 ≤ a) (hb : 0 ≤ b) (hb' : b < 2147483647) (hd : dp + 60 < recursionLimit) (hu : un + 300 < cLine)
    (k : ∀ (ro : Obj) (kvs : List (Int × Value)) (vs : List Value) (n n0 ta tb ct : Nat) (cc a b : Int), ro.IsDictOf (intKind prog0 w) kvs → kvs.length ≤ 5 * (i + 1) → (∀ p ∈ kvs, IsF p.2) → vs.length ≤ 2 * (i + 1) → 0 ≤ cc → cc ≤ 12 * (i + 1 : Nat) → 0 ≤ a → 0 ≤ b → b < 2147483647 →
      rest (fun y => if y = "turn" then tv1 else if y = "turn" then tv2 else if y = "machine" then some (.ref z.mach) else if y = "source" then some (.ref z.src) else if y = "asked" then some (.ref z.asked) else if y = "core" then some (.ref z.core) else List.lookup y [(("script" : Str), Value.ref l)]) ((z.mach, instObj 60 z.md) :: (z.md, dictOf (machD w.params z texts) 3) :: (texts, listOf #[] tn) :: (z.conn, instObj 485 z.cnd) :: (z.cnd, dictOf (connD w.params z cc ct) 22) :: (z.btree, instObj 485 z.btd) :: (z.btd, dictOf (btreeD w.params z) 11) :: (z.core, instObj 391 z.cd) :: (z.cd, dictOf (coreZ w.params z) 3) :: (z.regs, ro) :: (z.cell, z.co) :: (z.asked, listOf vs.toArray n) :: (z.src, listOf #[.int a ta, .int b tb] n0) :: (519, tabObj ps) :: lams)) :
    wpAny (model prog0 w) (AR dp un (envOf "law" (fScope (st 38)) L fa lcd) []) (execs turnB (envOf "law" (fScope (st 38)) L fa lcd)) (UnrPost h₀ L s I it rest Qf) E s := by
  (conv => arg 3; arg 1; whnf)
  walk_at "GO"
  rename Fr h₀ L _ _ => hF
  rename News h₀ L _ _ => hN
  rename ND (I :: _) => hSI
  refine UnrEnd.intro hF hN _ (fun p hp => hp) (fun p hp => ND.ne_r hSI (List.mem_map.mpr ⟨p, hp, rfl⟩)) ?_
  refine' k _ _ _ _ _ _ _ _ _ _ _ ?h1 ?h2 ?h3 ?h4 ?h5 ?h6 ?h7 ?h8 ?h9
  (case h1 => assumption)
  (case h2 => exact Nat.le_trans length_stored_le (by omega))
  (case h3 => exact stored_F (by assumption) (by assumption))
  (case h4 => (simp only [List.length_append, List.length_cons, List.length_nil]; omega))
  (case h5 => assumption)
  (case h6 => (push_cast; omega))
  (case h7 => assumption)
  (case h8 => assumption)
  (case h9 => assumption)
end

theorem fillIt25 : PySem.Challenge.rw_pb0451_01 = PySem.Challenge.rw_pb0451_01 ∧ KH = KH := by k_fill; exact ⟨rfl, rfl⟩
theorem klines_C23_0 : True := by
  k_with_none
  (k_with "subscriptTail Name Constant ref int" => ((k_here; (with_reducible show wpAny _ _ (subscriptTail _ _ (Value.ref _) (Value.int _ _)) _ _ _); (with_unfolding_all refine' item_litK ?z73ea9d_k1 ?z73ea9d_k2 ?z73ea9d_k3 ?z73ea9d_k4 ?_ ?z73ea9d_k6; (case z73ea9d_k1 => is_list); (case z73ea9d_k2 => decide); (case z73ea9d_k3 => decide); (case z73ea9d_k4 => rfl); (case z73ea9d_k6 => with_unfolding_all rfl); k_whole))))
  (k_with "ENTER" => (((case k6 => k_is); (case k7 => k_is); (case k8 => omega); (case k9 => exact BindsTo.of_eq rfl); (case kB => (conv => lhs; whnf)); (case kL => exact locs rfl); (case c2 => exact rfl); (case c3 => exact rfl); (case c4 => exact rfl); (case c5 => decide); intro g' L' h' HG' FG' F' N' B' X' T' l'; (try dsimp only); k_fold)))
  (k_with "GO" => (repeat' (first | (k_unfold; (try dsimp only)) | (k_end; wrow_close) | walk1 | (dsimp only; walk1))))
  (k_with "ATF" => (first | refine' AtF.head | (refine' AtF.tail ?zaeb911_b; (case zaeb911_b => walk_at "ATF"))))
  (k_with "AT" => (first | refine' At.head | (refine' At.tail ?z4c4c10_b; (case z4c4c10_b => walk_at "AT"))))
  (k_with "M k_upd" => ((rename ND _ => hS; refine' upd_sd ?z531fe4_a hS ?z531fe4_e; (case z531fe4_a => walk_at "AT"); (case z531fe4_e => rfl))))
  (k_with "M k_updF" => ((rename ND _ => hS; refine' updF_sd ?zc7fe0e_a hS ?zc7fe0e_e; (case zc7fe0e_a => walk_at "ATF"); (case zc7fe0e_e => rfl))))
  (k_with "M kn_among" => ((simp [codeAmong, rawInt]; done)))
  (k_with "M kn_triples" => ((simp [TriplesOk, rawInt]; done)))
  (k_with "M k_room" => ((first | omega | ((try simp only [depth_mark, depth_under_make, depth_under_kw, depth_in1, depth_deeper, depth_caller]); omega))))
  (k_with "SUB" => (first | exact List.forall_mem_nil _ | (refine' List.forall_mem_cons.mpr ⟨?z3be472_h, ?z3be472_t⟩; (case z3be472_h => k_mem); (case z3be472_t => walk_at "SUB"))))
  (k_with "ATS" => (first | refine' Ats.nil | (refine' Ats.hit ?z9e6f72_b; (case z9e6f72_b => walk_at "ATS")) | (refine' Ats.skip ?z9e6f72_b; (case z9e6f72_b => walk_at "ATS"))))
  (k_with "CX" => ((refine' ⟨?za4188e_x1, ?za4188e_x2, ?za4188e_x3, ?za4188e_x4, ?za4188e_x5⟩; (case za4188e_x1 => k_asm); (case za4188e_x2 => k_asm); (case za4188e_x3 => k_asm); (case za4188e_x4 => k_asm); (case za4188e_x5 => first | rfl | assumption))))
  (k_with "NSUB" => ((refine' news_sub ?za05c2b_N ?za05c2b_s; (case za05c2b_N => (rename News _ _ _ _ => oN; exact oN)); (case za05c2b_s => walk_at "SUB"))))
  (k_with "getMethod ref" => ((k_here; (with_reducible show wpAny _ _ (getMethod (Value.ref _) (Str.ofString "get") _) _ _ _); k_dflt (refine' kdg_method (knd := intKind prog0 _) ?z1e447a_N ?z1e447a_m ?z1e447a_d ?_; (case z1e447a_N => k_asm); (case z1e447a_m => k_mem); (case z1e447a_d => assumption)))))
  (k_with "call builtin:dict.get" => ((k_here; k_dflt (refine' kdg_get1 (knd := intKind prog0 _) ?z9e4d13_N ?z9e4d13_m ?z9e4d13_d ?z9e4d13_l ?z9e4d13_k _ rfl ?_; (case z9e4d13_N => k_asm); (case z9e4d13_m => k_mem); (case z9e4d13_d => assumption); (case z9e4d13_l => assumption); (case z9e4d13_k => exact intKind_is _ _ _ _)))))
  (k_with "KSEL" => (first | exact fun _ h => absurd h List.not_mem_nil | (refine' List.forall_mem_cons.mpr ⟨?zf64061_h, ?zf64061_t⟩; (case zf64061_h => first | exact Or.inl (by k_mem) | (refine' Or.inr ⟨_, News.get ?zf64061_n1 ?zf64061_m1, News.get ?zf64061_n2 ?zf64061_m2⟩; (case zf64061_n1 => k_asm); (case zf64061_m1 => k_mem); (case zf64061_n2 => k_asm); (case zf64061_m2 => k_mem))); (case zf64061_t => walk_at "KSEL"))))
  (k_with "KEPT" => ((refine' Kept.sel (kept_of ?z6ac77d_hg ?z6ac77d_f) ?z6ac77d_s; (case z6ac77d_hg => assumption); (case z6ac77d_f => assumption); (case z6ac77d_s => walk_at "KSEL"))))
  (k_with "SUBM" => (first | exact fun _ h => absurd h List.not_mem_nil | (refine' List.forall_mem_cons.mpr ⟨?zaff134_h, ?zaff134_t⟩; (case zaff134_h => k_mem); (case zaff134_t => walk_at "SUBM"))))
  (k_with "FRESH" => ((refine' fresh_of ?z9e8148_hg ?z9e8148_n ?z9e8148_m ?z9e8148_nd ?z9e8148_hs; (case z9e8148_hg => assumption); (case z9e8148_n => assumption); (case z9e8148_m => k_mem); (case z9e8148_nd => first | assumption | exact ND.tl (by assumption) | exact ND.tl (ND.tl (by assumption)) | exact ND.tl (ND.tl (ND.tl (by assumption)))); (case z9e8148_hs => walk_at "SUBM"))))
  (k_with "AT?" => ((refine' News.get ?z4603e9_n1 ?z4603e9_m1; (case z4603e9_n1 => k_asm); (case z4603e9_m1 => k_mem))))
  (k_with "NDSUB" => ((refine' ND.sub ?zb41ab3_s ?zb41ab3_l; (case zb41ab3_s => assumption); (case zb41ab3_l => walk_at "SUBL"))))
  (k_with "SUBL" => (first | exact List.nil_sublist _ | (refine' List.Sublist.cons_cons _ ?ze75662_b; (case ze75662_b => walk_at "SUBL")) | (refine' List.Sublist.cons _ ?ze75662_b; (case ze75662_b => walk_at "SUBL"))))
  (k_with "NDSUB" => (first | (refine' ND.sub ?ze76779_s ?ze76779_l; (case ze76779_s => assumption); (case ze76779_l => walk_at "SUBL")) | (refine' ND.p3 (ND.sub ?ze76779_s ?ze76779_l); (case ze76779_s => assumption); (case ze76779_l => walk_at "SUBL"))))
  (k_with "NEQ" => ((rename ND _ => hS; first | exact ND.ne_l hS (by k_mem) | exact ND.ne_r hS (by k_mem) | (have hS2 := ND.tl hS; walk_at "NEQ"))))
  (k_with "PICK" => (first | refine' Pick.head | (refine' Pick.tail ?z677e40_b; (case z677e40_b => walk_at "PICK"))))
  (k_with "RangeRest" => ((with_unfolding_all first | (refine RangeRest.succ (fun t' h' tk' F' N' => ?_)) | (refine RangeRest.zero (fun h' tk' F' N' => ?_); rename ND _ => hS; have hS9 := ND.tl hS))))
  (k_with "UnrEnd" => ((refine' unrEnd_pick ?z76e4c1_s ?z76e4c1_p ?_; (case z76e4c1_s => assumption); (case z76e4c1_p => walk_at "PICK"); intro hS9; first | ktu_endR | k_unrEnd)))
  (k_with "M ktu_off" => ((refine' Or.inl ?z3326b3_h; (case z3326b3_h => (try dsimp only); walk_at "NEQ"))))
  (k_with "TAILM" => (first | exact hp | (refine List.Mem.tail _ ?_; walk_at "TAILM")))
  (k_with "SUBLT" => (first | exact List.Sublist.refl _ | (refine' List.Sublist.cons_cons _ ?z45c140_b; (case z45c140_b => walk_at "SUBLT")) | (refine' List.Sublist.cons _ ?z45c140_b; (case z45c140_b => walk_at "SUBLT"))))
  (k_with "LAMS" => ((refine' lams_of ?zab0825_lN ?zab0825_lhs ?zab0825_lx ?zab0825_lnd; (case zab0825_lN => k_asm); (case zab0825_lx => assumption); (case zab0825_lhs => (intro p hp; repeat (first | exact hp | refine List.Mem.tail _ ?_))); (case zab0825_lnd => (rename ND _ => hS; refine ND.sub hS ?_; dsimp only [List.cons_append, List.nil_append]; walk_at "SUBLT")))))
  (k_with "call ref" => ((k_here; (with_reducible show wpAny _ _ (call (Value.ref 536) _) _ _ _); k_dflt (refine' stright_c ?z66f715_c ?z66f715_la ?z66f715_n ?z66f715_s ?z66f715_hco ?z66f715_hz ?z66f715_ha ?z66f715_hb ?z66f715_hb2 ?z66f715_d ?z66f715_u ?_; (case z66f715_c => walk_at "CX"); (case z66f715_n => walk_at "NSUB"); (case z66f715_la => walk_at "LAMS"); (case z66f715_s => walk_at "NDSUB"); (case z66f715_hco => assumption); (case z66f715_hz => first | omega | (simp only [List.length_append, List.length_cons, List.length_nil]; omega)); (case z66f715_ha => assumption); (case z66f715_hb => assumption); (case z66f715_hb2 => assumption); (case z66f715_d => omega); (case z66f715_u => omega); intro r' a' b' ta' tb' n' n2' tk' h' h3' h4' h5' F' g1' g2' hK'; rename ND _ => hS; (rename News _ _ _ _ => oN); refine' with_back (ch := [(_, _), (_, _)]) oN hS rfl hK' (List.forall_mem_cons.mpr ⟨g2', List.forall_mem_cons.mpr ⟨g1', List.forall_mem_nil _⟩⟩) ?z66f715_at' ?_; (case z66f715_at' => walk_at "ATS"); intro N'; clear oN hK' g1' g2'))))
  (k_with "call ref" => ((k_here; (with_reducible show wpAny _ _ (call (Value.ref 541) _) _ _ _); k_dflt (refine' opcode_c ?z3502a0_c ?z3502a0_la ?z3502a0_hr ?z3502a0_hkz ?z3502a0_hkf ?z3502a0_hsm ?z3502a0_n ?z3502a0_s ?z3502a0_hco ?z3502a0_hz ?z3502a0_ha ?z3502a0_hb ?z3502a0_hb2 ?z3502a0_d ?z3502a0_u ?_; (case z3502a0_c => walk_at "CX"); (case z3502a0_n => walk_at "NSUB"); (case z3502a0_la => walk_at "LAMS"); (case z3502a0_hr => assumption); (case z3502a0_hkz => omega); (case z3502a0_hkf => assumption); (case z3502a0_hsm => assumption); (case z3502a0_s => walk_at "NDSUB"); (case z3502a0_hco => assumption); (case z3502a0_hz => first | omega | (simp only [List.length_append, List.length_cons, List.length_nil]; omega)); (case z3502a0_ha => assumption); (case z3502a0_hb => assumption); (case z3502a0_hb2 => assumption); (case z3502a0_d => omega); (case z3502a0_u => omega); intro r' ro' kvs' a' b' ta' tb' n' n2' tk' h' hk1' hk2' h3' h4' h5' F' g1' g2' g3' hd' hK'; rename ND _ => hS; (rename News _ _ _ _ => oN); refine' with_back (ch := [(_, _), (_, _), (_, _)]) oN hS rfl hK' (List.forall_mem_cons.mpr ⟨g3', List.forall_mem_cons.mpr ⟨g2', List.forall_mem_cons.mpr ⟨g1', List.forall_mem_nil _⟩⟩⟩) ?z3502a0_at' ?_; (case z3502a0_at' => walk_at "ATS"); intro N'; clear oN hK' g1' g2' g3'))))
  (k_with "call ref" => ((k_here; (with_reducible show wpAny _ _ (call (Value.ref 555) _) _ _ _); k_dflt (refine' changes_c ?zdf6c73_c ?zdf6c73_hr ?zdf6c73_hkz ?zdf6c73_hsm ?zdf6c73_hc0 ?zdf6c73_hc1 ?zdf6c73_n ?zdf6c73_s ?zdf6c73_hco ?zdf6c73_hz ?zdf6c73_ha ?zdf6c73_hb ?zdf6c73_hb2 ?zdf6c73_d ?zdf6c73_u ?_; (case zdf6c73_c => walk_at "CX"); (case zdf6c73_n => walk_at "NSUB"); (case zdf6c73_hr => assumption); (case zdf6c73_hkz => omega); (case zdf6c73_hsm => assumption); (case zdf6c73_hc0 => assumption); (case zdf6c73_hc1 => omega); (case zdf6c73_s => walk_at "NDSUB"); (case zdf6c73_hco => assumption); (case zdf6c73_hz => first | omega | (simp only [List.length_append, List.length_cons, List.length_nil]; omega)); (case zdf6c73_ha => assumption); (case zdf6c73_hb => assumption); (case zdf6c73_hb2 => assumption); (case zdf6c73_d => omega); (case zdf6c73_u => omega); intro v' ro' a' b' cc' ta' tb' n' ct' tk' h' hv' h3' h4' h5' hc1' hc2' F' g1' g2' hd' g3' hK'; rename ND _ => hS; (rename News _ _ _ _ => oN); refine' with_back (ch := [(_, _), (_, _), (_, _)]) oN hS rfl hK' (List.forall_mem_cons.mpr ⟨g3', List.forall_mem_cons.mpr ⟨g2', List.forall_mem_cons.mpr ⟨g1', List.forall_mem_nil _⟩⟩⟩) ?zdf6c73_at' ?_; (case zdf6c73_at' => walk_at "ATS"); intro N'; clear oN hK' g1' g2' g3'))))
  trivial
section
variable {w : World} {mean : ExcName → Option Value} {mg mb : Str → Option Value} {A₀ : Around} {base h₀ : Heap} {outer : List Env} {cn : Str} {cs : Scope} {L ea : Addr} {ccd : Value} {cl : List (Str × Addr)} {m : Str → Option Value} {dp un : Nat} {s : Shared} {Q : Value → Shared → Prop} {E : Value → Shared → Prop}
variable {z : W0} {texts : Addr} {tn : Nat}
variable {l fa I : Addr} {lcd : Value} {Qf : Flow → Shared → Prop} {ps : Array Value} {lams : List (Addr × Obj)}
theorem law_rest (X : (KH w.params).In h₀) (T : Top topProg lawLoose mean mg mb h₀) (B : Below A₀ h₀ [] h₀) {a₀ : Int} {nn : Nat} {s : Shared} (S : ND (I :: z.mach :: z.md :: texts :: z.conn :: z.cnd :: z.btree :: z.btd :: z.core :: z.cd :: z.regs :: z.cell :: z.asked :: z.src :: 519 :: lams.map (·.1))) (LL : LamsL lams z)
    (hco : z.co.data = .cell (some (.ref z.asked))) (hsm : (z.regs == sysModules) = false) (hd : dp + 60 < recursionLimit) (hu : un + 300 < cLine)
    (hQ : ∀ (ro : Obj) (kvs : List (Int × Value)) (vs : List Value) (n n0 ta tb ct tk : Nat) (cc a b : Int) (tv : Option Value) h, ro.IsDictOf (intKind prog0 w) kvs → (kvs.length ≤ 5 * 8) → (∀ p ∈ kvs, IsF p.2) → (vs.length ≤ 2 * 8) → 0 ≤ cc → cc ≤ 12 * (8 : Nat) → 0 ≤ a → 0 ≤ b → b < 2147483647 → Fr h₀ L h (fun y => if y = "turn" then tv else if y = "machine" then some (.ref z.mach) else if y = "source" then some (.ref z.src) else if y = "asked" then some (.ref z.asked) else if y = "core" then some (.ref z.core) else List.lookup y [(("script" : Str), Value.ref l)]) → News h₀ L h ((z.mach, instObj 60 z.md) :: (z.md, dictOf (machD w.params z texts) 3) :: (texts, listOf #[] tn) :: (z.conn, instObj 485 z.cnd) :: (z.cnd, dictOf (connD w.params z cc ct) 22) :: (z.btree, instObj 485 z.btd) :: (z.btd, dictOf (btreeD w.params z) 11) :: (z.core, instObj 391 z.cd) :: (z.cd, dictOf (coreZ w.params z) 3) :: (z.regs, ro) :: (z.cell, z.co) :: (z.asked, listOf vs.toArray n) :: (z.src, listOf #[.int a ta, .int b tb] n0) :: (519, tabObj ps) :: lams) → Qf .next { s with heap := h, toks := tk }) :
    ∀ (k i : Nat) (ro : Obj) (kvs : List (Int × Value)) (vs : List Value) (n n0 ta tb ct : Nat) (cc a b : Int) (tv : Option Value), i + k ≤ 8 → ro.IsDictOf (intKind prog0 w) kvs → (kvs.length ≤ 5 * i) → (∀ p ∈ kvs, IsF p.2) → (vs.length ≤ 2 * i) → 0 ≤ cc → cc ≤ 12 * (i : Nat) → 0 ≤ a → 0 ≤ b → b < 2147483647 →
      RangeRest prog0 w (AR dp un (envOf "law" (fScope (st 38)) L fa lcd) []) E h₀ (envOf "law" (fScope (st 38)) L fa lcd) "turn" turnB Qf s I a₀ nn k i (fun y => if y = "turn" then tv else if y = "machine" then some (.ref z.mach) else if y = "source" then some (.ref z.src) else if y = "asked" then some (.ref z.asked) else if y = "core" then some (.ref z.core) else List.lookup y [(("script" : Str), Value.ref l)]) ((z.mach, instObj 60 z.md) :: (z.md, dictOf (machD w.params z texts) 3) :: (texts, listOf #[] tn) :: (z.conn, instObj 485 z.cnd) :: (z.cnd, dictOf (connD w.params z cc ct) 22) :: (z.btree, instObj 485 z.btd) :: (z.btd, dictOf (btreeD w.params z) 11) :: (z.core, instObj 391 z.cd) :: (z.cd, dictOf (coreZ w.params z) 3) :: (z.regs, ro) :: (z.cell, z.co) :: (z.asked, listOf vs.toArray n) :: (z.src, listOf #[.int a ta, .int b tb] n0) :: (519, tabObj ps) :: lams)
  | 0, i, ro, kvs, vs, n, n0, ta, tb, ct, cc, a, b, tv, hik, hr, h1, h2, h3, h4, h5, h6, h7, h8 => fun h tk F N => hQ ro kvs vs n n0 ta tb ct tk cc a b tv h hr (by omega) h2 (by omega) h4 (by omega) h6 h7 h8 F N
  | k + 1, i, ro, kvs, vs, n, n0, ta, tb, ct, cc, a, b, tv, hik, hr, h1, h2, h3, h4, h5, h6, h7, h8 => fun t h tk F N => by
    refine law_turn (i := i) (s := { s with heap := h, toks := tk }) X T B F N S LL hco hr hsm h1 h2 h3 h4 h5 (by omega) h6 h7 h8 hd hu fun ro kvs vs n n0 ta tb ct cc a b g0 g1 g2 g3 g4 g5 g6 g7 g8 => ?_
    have e : (fun y => if y = ("turn" : Str) then some (Value.int (a₀ + (i : Int)) t) else if y = ("turn" : Str) then tv else if y = "machine" then some (.ref z.mach) else if y = "source" then some (.ref z.src) else if y = "asked" then some (.ref z.asked) else if y = "core" then some (.ref z.core) else List.lookup y [(("script" : Str), Value.ref l)]) = (fun y => if y = ("turn" : Str) then some (Value.int (a₀ + (i : Int)) t) else if y = "machine" then some (.ref z.mach) else if y = "source" then some (.ref z.src) else if y = "asked" then some (.ref z.asked) else if y = "core" then some (.ref z.core) else List.lookup y [(("script" : Str), Value.ref l)]) := by
      funext y
      by_cases hy : y = ("turn" : Str)
      · rw [if_pos hy, if_pos hy]
      · rw [if_neg hy, if_neg hy, if_neg hy]
    rw [e]
    exact law_rest X T B S LL hco hsm hd hu hQ k (i + 1) ro kvs vs n n0 ta tb ct cc a b _ (by omega) g0 g1 g2 g3 g4 g5 g6 g7 g8
end

theorem fillIt26 : PySem.Challenge.rw_pb0451_01 = PySem.Challenge.rw_pb0451_01 ∧ KH = KH := by k_fill; exact ⟨rfl, rfl⟩
theorem klines_C24_0 : True := by
  k_with_none
  (k_with "subscriptTail Name Constant ref int" => ((k_here; (with_reducible show wpAny _ _ (subscriptTail _ _ (Value.ref _) (Value.int _ _)) _ _ _); (with_unfolding_all refine' item_litK ?z73ea9d_k1 ?z73ea9d_k2 ?z73ea9d_k3 ?z73ea9d_k4 ?_ ?z73ea9d_k6; (case z73ea9d_k1 => is_list); (case z73ea9d_k2 => decide); (case z73ea9d_k3 => decide); (case z73ea9d_k4 => rfl); (case z73ea9d_k6 => with_unfolding_all rfl); k_whole))))
  (k_with "ENTER" => (((case k6 => k_is); (case k7 => k_is); (case k8 => omega); (case k9 => exact BindsTo.of_eq rfl); (case kB => (conv => lhs; whnf)); (case kL => exact locs rfl); (case c2 => exact rfl); (case c3 => exact rfl); (case c4 => exact rfl); (case c5 => decide); intro g' L' h' HG' FG' F' N' B' X' T' l'; (try dsimp only); k_fold)))
  (k_with "GO" => (repeat' (first | (k_unfold; (try dsimp only)) | (k_end; wrow_close) | walk1 | (dsimp only; walk1))))
  (k_with "ATF" => (first | refine' AtF.head | (refine' AtF.tail ?zaeb911_b; (case zaeb911_b => walk_at "ATF"))))
  (k_with "AT" => (first | refine' At.head | (refine' At.tail ?z4c4c10_b; (case z4c4c10_b => walk_at "AT"))))
  (k_with "M k_upd" => ((rename ND _ => hS; refine' upd_sd ?z531fe4_a hS ?z531fe4_e; (case z531fe4_a => walk_at "AT"); (case z531fe4_e => rfl))))
  (k_with "M k_updF" => ((rename ND _ => hS; refine' updF_sd ?zc7fe0e_a hS ?zc7fe0e_e; (case zc7fe0e_a => walk_at "ATF"); (case zc7fe0e_e => rfl))))
  (k_with "M kn_among" => ((simp [codeAmong, rawInt]; done)))
  (k_with "M kn_triples" => ((simp [TriplesOk, rawInt]; done)))
  (k_with "M k_room" => ((first | omega | ((try simp only [depth_mark, depth_under_make, depth_under_kw, depth_in1, depth_deeper, depth_caller]); omega))))
  (k_with "SUB" => (first | exact List.forall_mem_nil _ | (refine' List.forall_mem_cons.mpr ⟨?z3be472_h, ?z3be472_t⟩; (case z3be472_h => k_mem); (case z3be472_t => walk_at "SUB"))))
  (k_with "ATS" => (first | refine' Ats.nil | (refine' Ats.hit ?z9e6f72_b; (case z9e6f72_b => walk_at "ATS")) | (refine' Ats.skip ?z9e6f72_b; (case z9e6f72_b => walk_at "ATS"))))
  (k_with "CX" => ((refine' ⟨?za4188e_x1, ?za4188e_x2, ?za4188e_x3, ?za4188e_x4, ?za4188e_x5⟩; (case za4188e_x1 => k_asm); (case za4188e_x2 => k_asm); (case za4188e_x3 => k_asm); (case za4188e_x4 => k_asm); (case za4188e_x5 => first | rfl | assumption))))
  (k_with "NSUB" => ((refine' news_sub ?za05c2b_N ?za05c2b_s; (case za05c2b_N => (rename News _ _ _ _ => oN; exact oN)); (case za05c2b_s => walk_at "SUB"))))
  (k_with "getMethod ref" => ((k_here; (with_reducible show wpAny _ _ (getMethod (Value.ref _) (Str.ofString "get") _) _ _ _); k_dflt (refine' kdg_method (knd := intKind prog0 _) ?z1e447a_N ?z1e447a_m ?z1e447a_d ?_; (case z1e447a_N => k_asm); (case z1e447a_m => k_mem); (case z1e447a_d => assumption)))))
  (k_with "call builtin:dict.get" => ((k_here; k_dflt (refine' kdg_get1 (knd := intKind prog0 _) ?z9e4d13_N ?z9e4d13_m ?z9e4d13_d ?z9e4d13_l ?z9e4d13_k _ rfl ?_; (case z9e4d13_N => k_asm); (case z9e4d13_m => k_mem); (case z9e4d13_d => assumption); (case z9e4d13_l => assumption); (case z9e4d13_k => exact intKind_is _ _ _ _)))))
  (k_with "KSEL" => (first | exact fun _ h => absurd h List.not_mem_nil | (refine' List.forall_mem_cons.mpr ⟨?zf64061_h, ?zf64061_t⟩; (case zf64061_h => first | exact Or.inl (by k_mem) | (refine' Or.inr ⟨_, News.get ?zf64061_n1 ?zf64061_m1, News.get ?zf64061_n2 ?zf64061_m2⟩; (case zf64061_n1 => k_asm); (case zf64061_m1 => k_mem); (case zf64061_n2 => k_asm); (case zf64061_m2 => k_mem))); (case zf64061_t => walk_at "KSEL"))))
  (k_with "KEPT" => ((refine' Kept.sel (kept_of ?z6ac77d_hg ?z6ac77d_f) ?z6ac77d_s; (case z6ac77d_hg => assumption); (case z6ac77d_f => assumption); (case z6ac77d_s => walk_at "KSEL"))))
  (k_with "SUBM" => (first | exact fun _ h => absurd h List.not_mem_nil | (refine' List.forall_mem_cons.mpr ⟨?zaff134_h, ?zaff134_t⟩; (case zaff134_h => k_mem); (case zaff134_t => walk_at "SUBM"))))
  (k_with "FRESH" => ((refine' fresh_of ?z9e8148_hg ?z9e8148_n ?z9e8148_m ?z9e8148_nd ?z9e8148_hs; (case z9e8148_hg => assumption); (case z9e8148_n => assumption); (case z9e8148_m => k_mem); (case z9e8148_nd => first | assumption | exact ND.tl (by assumption) | exact ND.tl (ND.tl (by assumption)) | exact ND.tl (ND.tl (ND.tl (by assumption)))); (case z9e8148_hs => walk_at "SUBM"))))
  (k_with "AT?" => ((refine' News.get ?z4603e9_n1 ?z4603e9_m1; (case z4603e9_n1 => k_asm); (case z4603e9_m1 => k_mem))))
  trivial
theorem range_ok {d : Int} (h0 : 0 ≤ d) (h1 : d < 4) : Builtin.Range.small 0 (5 + d) 1 = true ∧ Builtin.Range.rangeSize 0 (5 + d) 1 = (((5 + d).toNat : Nat) : Int) := by
  obtain h | h | h | h : d = 0 ∨ d = 1 ∨ d = 2 ∨ d = 3 := by omega
  all_goals (subst h; exact ⟨by decide, by decide⟩)
theorem range_small {d : Int} (h0 : 0 ≤ d) (h1 : d < 4) : Builtin.Range.small 0 (5 + d) 1 = true := (range_ok h0 h1).1
theorem range_size {d : Int} (h0 : 0 ≤ d) (h1 : d < 4) : Builtin.Range.rangeSize 0 (5 + d) 1 = (((5 + d).toNat : Nat) : Int) := (range_ok h0 h1).2
theorem keep1 {h₀ h h' : Heap} {L x a b c : Addr} {o : Obj} {l : List (Addr × Obj)} (N : News h₀ L h l) (k : Kept [a, b, c] h h') (m : (x, o) ∈ l) (h1 : x ≠ a) (h2 : x ≠ b) (h3 : x ≠ c) : News h₀ L h' [(x, o)] := fun p hp => by
  rw [List.mem_singleton.mp hp]
  exact ⟨k _ _ (N _ m).1 (fun hm => by simp only [List.mem_cons, List.not_mem_nil, or_false] at hm; rcases hm with e | e | e <;> first | exact h1 e | exact h2 e | exact h3 e), (N _ m).2⟩

theorem klines_C24_1 : True := by
  (k_with "NDSUB" => ((refine' ND.sub ?zb41ab3_s ?zb41ab3_l; (case zb41ab3_s => assumption); (case zb41ab3_l => walk_at "SUBL"))))
  (k_with "SUBL" => (first | exact List.nil_sublist _ | (refine' List.Sublist.cons_cons _ ?ze75662_b; (case ze75662_b => walk_at "SUBL")) | (refine' List.Sublist.cons _ ?ze75662_b; (case ze75662_b => walk_at "SUBL"))))
  (k_with "BACK0" => ((intro tk' h' F' hK'; (rename News _ _ _ _ => oN); have N' := news_kept oN hK' (fun _ _ h => nomatch h); clear oN hK')))
  (k_with "NDSUB" => (first | (refine' ND.sub ?ze76779_s ?ze76779_l; (case ze76779_s => assumption); (case ze76779_l => walk_at "SUBL")) | (refine' ND.p3 (ND.sub ?ze76779_s ?ze76779_l); (case ze76779_s => assumption); (case ze76779_l => walk_at "SUBL"))))
  (k_with "NEQ" => ((rename ND _ => hS; first | exact ND.ne_l hS (by k_mem) | exact ND.ne_r hS (by k_mem) | (have hS2 := ND.tl hS; walk_at "NEQ"))))
  (k_with "PICK" => (first | refine' Pick.head | (refine' Pick.tail ?z677e40_b; (case z677e40_b => walk_at "PICK"))))
  (k_with "UnrEnd" => ((refine' unrEnd_pick ?z76e4c1_s ?z76e4c1_p ?_; (case z76e4c1_s => assumption); (case z76e4c1_p => walk_at "PICK"); intro hS9; first | ktu_endR | k_unrEnd)))
  (k_with "M ktu_off" => ((refine' Or.inl ?z3326b3_h; (case z3326b3_h => (try dsimp only); walk_at "NEQ"))))
  (k_with "eval List" => ((k_here; k_dflt (refine' disp_list ?z72c816_F ?z72c816_N ?z72c816_hk ?z72c816_he ?z72c816_hz ?_; (case z72c816_F => k_asm); (case z72c816_N => k_asm); (case z72c816_hk => first | rfl | assumption); (case z72c816_he => exact rfl); (case z72c816_hz => exact rfl)); intro l' h' F' N' l1; (try k_lt l1))))
  (k_with "eval Tuple" => ((k_here; k_dflt (refine' disp_tuple ?zcd943b_F ?zcd943b_N ?zcd943b_hk ?zcd943b_he ?zcd943b_hz ?_; (case zcd943b_F => k_asm); (case zcd943b_N => k_asm); (case zcd943b_hk => first | rfl | assumption); (case zcd943b_he => exact rfl); (case zcd943b_hz => exact rfl)); intro l' h' F' N' l1; (try k_lt l1))))
  (k_with "spliced" => ((k_here; (with_reducible show wpAny _ _ (spliced (backTo _ (starEach (_ :: _) _))) _ _ _); k_dflt (refine' simp_all ?z919f57_hk ?z919f57_F ?z919f57_he ?_; (case z919f57_F => k_asm); (case z919f57_hk => first | rfl | assumption); (case z919f57_he => exact rfl); try dsimp only))))
  (k_with "TAILM" => (first | exact hp | (refine List.Mem.tail _ ?_; walk_at "TAILM")))
  (k_with "SUBLT" => (first | exact List.Sublist.refl _ | (refine' List.Sublist.cons_cons _ ?z45c140_b; (case z45c140_b => walk_at "SUBLT")) | (refine' List.Sublist.cons _ ?z45c140_b; (case z45c140_b => walk_at "SUBLT"))))
  (k_with "LAMS" => ((refine' lams_of ?zab0825_lN ?zab0825_lhs ?zab0825_lx ?zab0825_lnd; (case zab0825_lN => k_asm); (case zab0825_lx => assumption); (case zab0825_lhs => (intro p hp; repeat (first | exact hp | refine List.Mem.tail _ ?_))); (case zab0825_lnd => (rename ND _ => hS; refine ND.sub hS ?_; dsimp only [List.cons_append, List.nil_append]; walk_at "SUBLT")))))
  (k_with "call ref" => ((k_here; (with_reducible show wpAny _ _ (call (Value.ref 536) _) _ _ _); k_dflt (refine' stright_c ?z66f715_c ?z66f715_la ?z66f715_n ?z66f715_s ?z66f715_hco ?z66f715_hz ?z66f715_ha ?z66f715_hb ?z66f715_hb2 ?z66f715_d ?z66f715_u ?_; (case z66f715_c => walk_at "CX"); (case z66f715_n => walk_at "NSUB"); (case z66f715_la => walk_at "LAMS"); (case z66f715_s => walk_at "NDSUB"); (case z66f715_hco => assumption); (case z66f715_hz => first | omega | (simp only [List.length_append, List.length_cons, List.length_nil]; omega)); (case z66f715_ha => assumption); (case z66f715_hb => assumption); (case z66f715_hb2 => assumption); (case z66f715_d => omega); (case z66f715_u => omega); intro r' a' b' ta' tb' n' n2' tk' h' h3' h4' h5' F' g1' g2' hK'; rename ND _ => hS; (rename News _ _ _ _ => oN); refine' with_back (ch := [(_, _), (_, _)]) oN hS rfl hK' (List.forall_mem_cons.mpr ⟨g2', List.forall_mem_cons.mpr ⟨g1', List.forall_mem_nil _⟩⟩) ?z66f715_at' ?_; (case z66f715_at' => walk_at "ATS"); intro N'; clear oN hK' g1' g2'))))
  (k_with "call ref" => ((k_here; (with_reducible show wpAny _ _ (call (Value.ref 541) _) _ _ _); k_dflt (refine' opcode_c ?z3502a0_c ?z3502a0_la ?z3502a0_hr ?z3502a0_hkz ?z3502a0_hkf ?z3502a0_hsm ?z3502a0_n ?z3502a0_s ?z3502a0_hco ?z3502a0_hz ?z3502a0_ha ?z3502a0_hb ?z3502a0_hb2 ?z3502a0_d ?z3502a0_u ?_; (case z3502a0_c => walk_at "CX"); (case z3502a0_n => walk_at "NSUB"); (case z3502a0_la => walk_at "LAMS"); (case z3502a0_hr => assumption); (case z3502a0_hkz => omega); (case z3502a0_hkf => assumption); (case z3502a0_hsm => assumption); (case z3502a0_s => walk_at "NDSUB"); (case z3502a0_hco => assumption); (case z3502a0_hz => first | omega | (simp only [List.length_append, List.length_cons, List.length_nil]; omega)); (case z3502a0_ha => assumption); (case z3502a0_hb => assumption); (case z3502a0_hb2 => assumption); (case z3502a0_d => omega); (case z3502a0_u => omega); intro r' ro' kvs' a' b' ta' tb' n' n2' tk' h' hk1' hk2' h3' h4' h5' F' g1' g2' g3' hd' hK'; rename ND _ => hS; (rename News _ _ _ _ => oN); refine' with_back (ch := [(_, _), (_, _), (_, _)]) oN hS rfl hK' (List.forall_mem_cons.mpr ⟨g3', List.forall_mem_cons.mpr ⟨g2', List.forall_mem_cons.mpr ⟨g1', List.forall_mem_nil _⟩⟩⟩) ?z3502a0_at' ?_; (case z3502a0_at' => walk_at "ATS"); intro N'; clear oN hK' g1' g2' g3'))))
  (k_with "call ref" => ((k_here; (with_reducible show wpAny _ _ (call (Value.ref 555) _) _ _ _); k_dflt (refine' changes_c ?zdf6c73_c ?zdf6c73_hr ?zdf6c73_hkz ?zdf6c73_hsm ?zdf6c73_hc0 ?zdf6c73_hc1 ?zdf6c73_n ?zdf6c73_s ?zdf6c73_hco ?zdf6c73_hz ?zdf6c73_ha ?zdf6c73_hb ?zdf6c73_hb2 ?zdf6c73_d ?zdf6c73_u ?_; (case zdf6c73_c => walk_at "CX"); (case zdf6c73_n => walk_at "NSUB"); (case zdf6c73_hr => assumption); (case zdf6c73_hkz => omega); (case zdf6c73_hsm => assumption); (case zdf6c73_hc0 => assumption); (case zdf6c73_hc1 => omega); (case zdf6c73_s => walk_at "NDSUB"); (case zdf6c73_hco => assumption); (case zdf6c73_hz => first | omega | (simp only [List.length_append, List.length_cons, List.length_nil]; omega)); (case zdf6c73_ha => assumption); (case zdf6c73_hb => assumption); (case zdf6c73_hb2 => assumption); (case zdf6c73_d => omega); (case zdf6c73_u => omega); intro v' ro' a' b' cc' ta' tb' n' ct' tk' h' hv' h3' h4' h5' hc1' hc2' F' g1' g2' hd' g3' hK'; rename ND _ => hS; (rename News _ _ _ _ => oN); refine' with_back (ch := [(_, _), (_, _), (_, _)]) oN hS rfl hK' (List.forall_mem_cons.mpr ⟨g3', List.forall_mem_cons.mpr ⟨g2', List.forall_mem_cons.mpr ⟨g1', List.forall_mem_nil _⟩⟩⟩) ?zdf6c73_at' ?_; (case zdf6c73_at' => walk_at "ATS"); intro N'; clear oN hK' g1' g2' g3'))))
  (k_with "call ref" => ((k_here; (with_reducible show wpAny _ _ (call (Value.ref 503) _) _ _ _); k_dflt (refine' take_c ?z9c8311_c ?z9c8311_n ?z9c8311_a ?z9c8311_b ?z9c8311_b2 ?z9c8311_t1 ?z9c8311_t2 ?z9c8311_d ?_; (case z9c8311_c => walk_at "CX"); (case z9c8311_n => walk_at "NSUB"); (case z9c8311_a => assumption); (case z9c8311_b => assumption); (case z9c8311_b2 => assumption); (case z9c8311_t1 => omega); (case z9c8311_t2 => omega); (case z9c8311_d => omega); intro d' a' b' td' ta' tb' n' tk' h' h1' h2' h3' h4' h5' F' hs' hK'; (rename ND _ => hS; (rename News _ _ _ _ => oN); refine' with_back (ch := [(_, _)]) oN hS rfl hK' (List.forall_mem_cons.mpr ⟨hs', List.forall_mem_nil _⟩) ?z9c8311_at' ?_; (case z9c8311_at' => walk_at "ATS"); intro N'; clear oN hK' hs')))))
  trivial
section
variable {w : World} {mean : ExcName → Option Value} {mg mb : Str → Option Value} {A₀ : Around} {base h₀ : Heap} {outer : List Env} {cn : Str} {cs : Scope} {L ea : Addr} {ccd : Value} {cl : List (Str × Addr)} {m : Str → Option Value} {dp un : Nat} {s : Shared} {Q : Value → Shared → Prop} {E : Value → Shared → Prop}
variable {z : W0} {texts : Addr} {tn : Nat} {l fa : Addr} {lcd : Value} {Qf : Flow → Shared → Prop} {ps : Array Value} {lams : List (Addr × Obj)}
theorem law_rest0 {I : Addr} {ro : Obj} {n n0 ta tb ct k : Nat} {a b : Int} (X : (KH w.params).In h₀) (T : Top topProg lawLoose mean mg mb h₀) (B : Below A₀ h₀ [] h₀) {a₀ : Int} {nn : Nat} {s : Shared} (S : ND (I :: z.mach :: z.md :: texts :: z.conn :: z.cnd :: z.btree :: z.btd :: z.core :: z.cd :: z.regs :: z.cell :: z.asked :: z.src :: 519 :: lams.map (·.1))) (LL : LamsL lams z)
    (hco : z.co.data = .cell (some (.ref z.asked))) (hsm : (z.regs == sysModules) = false) (hd : dp + 60 < recursionLimit) (hu : un + 300 < cLine)
    (hQ : ∀ (ro : Obj) (kvs : List (Int × Value)) (vs : List Value) (n n0 ta tb ct tk : Nat) (cc a b : Int) (tv : Option Value) h, ro.IsDictOf (intKind prog0 w) kvs → (kvs.length ≤ 5 * 8) → (∀ p ∈ kvs, IsF p.2) → (vs.length ≤ 2 * 8) → 0 ≤ cc → cc ≤ 12 * (8 : Nat) → 0 ≤ a → 0 ≤ b → b < 2147483647 → Fr h₀ L h (fun y => if y = "turn" then tv else if y = "machine" then some (.ref z.mach) else if y = "source" then some (.ref z.src) else if y = "asked" then some (.ref z.asked) else if y = "core" then some (.ref z.core) else List.lookup y [(("script" : Str), Value.ref l)]) → News h₀ L h ((z.mach, instObj 60 z.md) :: (z.md, dictOf (machD w.params z texts) 3) :: (texts, listOf #[] tn) :: (z.conn, instObj 485 z.cnd) :: (z.cnd, dictOf (connD w.params z cc ct) 22) :: (z.btree, instObj 485 z.btd) :: (z.btd, dictOf (btreeD w.params z) 11) :: (z.core, instObj 391 z.cd) :: (z.cd, dictOf (coreZ w.params z) 3) :: (z.regs, ro) :: (z.cell, z.co) :: (z.asked, listOf vs.toArray n) :: (z.src, listOf #[.int a ta, .int b tb] n0) :: (519, tabObj ps) :: lams) → Qf .next { s with heap := h, toks := tk })
    (hk : k ≤ 8) (hr : ro.IsDictOf (intKind prog0 w) []) (ha : 0 ≤ a) (hb : 0 ≤ b) (hb' : b < 2147483647) :
      RangeRest prog0 w (AR dp un (envOf "law" (fScope (st 38)) L fa lcd) []) E h₀ (envOf "law" (fScope (st 38)) L fa lcd) "turn" turnB Qf s I a₀ nn k 0 (fun y => if y = "machine" then some (.ref z.mach) else if y = "source" then some (.ref z.src) else if y = "asked" then some (.ref z.asked) else if y = "core" then some (.ref z.core) else List.lookup y [(("script" : Str), Value.ref l)]) ((z.mach, instObj 60 z.md) :: (z.md, dictOf (machD w.params z texts) 3) :: (texts, listOf #[] tn) :: (z.conn, instObj 485 z.cnd) :: (z.cnd, dictOf (connD w.params z 0 ct) 22) :: (z.btree, instObj 485 z.btd) :: (z.btd, dictOf (btreeD w.params z) 11) :: (z.core, instObj 391 z.cd) :: (z.cd, dictOf (coreZ w.params z) 3) :: (z.regs, ro) :: (z.cell, z.co) :: (z.asked, listOf ([] : List Value).toArray n) :: (z.src, listOf #[.int a ta, .int b tb] n0) :: (519, tabObj ps) :: lams) := by
  have e : (fun y : Str => if y = "machine" then some (.ref z.mach) else if y = "source" then some (.ref z.src) else if y = "asked" then some (.ref z.asked) else if y = "core" then some (.ref z.core) else List.lookup y [(("script" : Str), Value.ref l)]) = (fun y : Str => if y = ("turn" : Str) then none else if y = "machine" then some (.ref z.mach) else if y = "source" then some (.ref z.src) else if y = "asked" then some (.ref z.asked) else if y = "core" then some (.ref z.core) else List.lookup y [(("script" : Str), Value.ref l)]) := by
    funext y
    by_cases hy : y = ("turn" : Str)
    · subst hy; rfl
    · rw [if_neg hy]
  rw [e]
  exact law_rest X T B S LL hco hsm hd hu hQ k 0 ro [] [] n n0 ta tb ct 0 a b none (by omega) hr (by simp) (fun _ h => nomatch h) (by simp) (by omega) (by omega) ha hb hb'
theorem klines_C24_2 : True := by
  (k_with "call type:range" => ((k_here; k_dflt ((rename Fr _ _ _ _ => F'); (rename News _ _ _ _ => N'); (with_unfolding_all refine range1_rows F' N' ?_; intro _ _ _ _ _ _ _ _ _)))))
  (k_with "pyIter ref" => ((k_here; k_dflt (rename IsRange _ _ _ _ _ _ _ _ => hR; (rename Fr _ _ _ _ => lF'); (rename News _ _ _ _ => lN'); (with_unfolding_all refine' iter_rangeUnr ?z79ddf4_hh hR ?z79ddf4_sm ?z79ddf4_sz lF' lN' ?_); (case z79ddf4_hh => rfl); (case z79ddf4_sz => (refine range_size ?z79ddf4_za ?z79ddf4_zb; (case z79ddf4_za => assumption); (case z79ddf4_zb => assumption))); (case z79ddf4_sm => (refine range_small ?z79ddf4_za ?z79ddf4_zb; (case z79ddf4_za => assumption); (case z79ddf4_zb => assumption))); intro i' l1; (try k_lt l1)))))
  (k_with "RangeRest" => ((k_dflt (refine' law_rest0 ?zab5144_X ?zab5144_T ?zab5144_B ?zab5144_S ?zab5144_LL ?zab5144_hco ?zab5144_hsm ?zab5144_hd ?zab5144_hu _ ?zab5144_hk ?zab5144_hr ?zab5144_ha ?zab5144_hb ?zab5144_hb2; (case zab5144_X => assumption); (case zab5144_T => assumption); (case zab5144_B => assumption); (case zab5144_S => assumption); (case zab5144_LL => assumption); (case zab5144_hco => assumption); (case zab5144_hsm => assumption); (case zab5144_hd => assumption); (case zab5144_hu => assumption); (case zab5144_hk => omega); (case zab5144_hr => assumption); (case zab5144_ha => assumption); (case zab5144_hb => assumption); (case zab5144_hb2 => assumption); intro ro' kvs' vs' n' n0' ta' tb' ct' tk' cc' a' b' tv' h' g0' g1' g2' g3' g4' g5' g6' g7' g8' F' N'; (rename ND _ => hS; have hS9 := ND.tl hS)))))
  (k_with "call ref" => ((k_here; (with_reducible show wpAny _ _ (call (Value.ref 548) _) _ _ _); k_dflt (refine' check_c (L1 := []) ?z9481d7_c ?z9481d7_la ?z9481d7_hr ?z9481d7_hkz ?z9481d7_hsm ?z9481d7_n ?z9481d7_s ?z9481d7_hco ?z9481d7_hz ?z9481d7_d ?z9481d7_u ?_; (case z9481d7_c => walk_at "CX"); (case z9481d7_n => walk_at "NSUB"); (case z9481d7_la => walk_at "LAMS"); (case z9481d7_hr => assumption); (case z9481d7_hkz => omega); (case z9481d7_hsm => assumption); (case z9481d7_s => walk_at "NDSUB"); (case z9481d7_hco => assumption); (case z9481d7_hz => omega); (case z9481d7_d => omega); (case z9481d7_u => omega); intro tk' h' F' hK'; (rename News _ _ _ _ => oN); have N' := keep1 (x := 519) oN hK' (by k_mem) (by walk_at "NEQ") (by walk_at "NEQ") (by walk_at "NEQ"); clear oN hK'; have hS9 := ND.one 519))))
  (k_with "call ref" => ((k_here; (with_reducible show wpAny _ _ (call (Value.ref 562) _) _ _ _); k_dflt (refine' refused_c ?z6f45e4_c ?z6f45e4_n ?z6f45e4_s ?z6f45e4_e ?z6f45e4_d ?z6f45e4_u ?_; (case z6f45e4_c => walk_at "CX"); (case z6f45e4_n => k_asm); (case z6f45e4_s => (rename ND _ => hS; exact hS)); (case z6f45e4_e => exact rfl); (case z6f45e4_d => omega); (case z6f45e4_u => omega); intro tk' h' F' N'))))
  trivial
theorem law_tail {ro : Obj} {n n0 ta tb ct : Nat} {a b : Int} (X : (KH w.params).In h₀) (T : Top topProg lawLoose mean mg mb h₀) (B : Below A₀ h₀ [] h₀)
    (F : Fr h₀ L s.heap (fun y => if y = "machine" then some (.ref z.mach) else if y = "source" then some (.ref z.src) else if y = "asked" then some (.ref z.asked) else if y = "core" then some (.ref z.core) else List.lookup y [(("script" : Str), Value.ref l)])) (N : News h₀ L s.heap ((z.mach, instObj 60 z.md) :: (z.md, dictOf (machD w.params z texts) 3) :: (texts, listOf #[] tn) :: (z.conn, instObj 485 z.cnd) :: (z.cnd, dictOf (connD w.params z 0 ct) 22) :: (z.btree, instObj 485 z.btd) :: (z.btd, dictOf (btreeD w.params z) 11) :: (z.core, instObj 391 z.cd) :: (z.cd, dictOf (coreZ w.params z) 3) :: (z.regs, ro) :: (z.cell, z.co) :: (z.asked, listOf ([] : List Value).toArray n) :: (z.src, listOf #[.int a ta, .int b tb] n0) :: (519, tabObj ps) :: lams)) (S : ND (z.mach :: z.md :: texts :: z.conn :: z.cnd :: z.btree :: z.btd :: z.core :: z.cd :: z.regs :: z.cell :: z.asked :: z.src :: 519 :: lams.map (·.1))) (LL : LamsL lams z)
    (hco : z.co.data = .cell (some (.ref z.asked))) (hr : ro.IsDictOf (intKind prog0 w) []) (hsm : (z.regs == sysModules) = false) (ha : 0 ≤ a) (hb : 0 ≤ b) (hb' : b < 2147483647) (hd : dp + 60 < recursionLimit) (hu : un + 300 < cLine)
    (k : ∀ (tk : Nat) (m' : Str → Option Value) h', Fr h₀ L h' m' → News h₀ L h' [(519, tabObj ps)] → Qf (.ret (.bool true)) { s with heap := h', toks := tk }) :
    wpAny (model prog0 w) (AR dp un (envOf "law" (fScope (st 38)) L fa lcd) []) (execs ((fBody (st 38)).drop 2) (envOf "law" (fScope (st 38)) L fa lcd)) Qf (fun _ _ => False) s := by
  (conv => arg 3; arg 1; whnf)
  (try k_fold)
  walk_at "GO"
  all_goals (rename Fr h₀ L _ _ => hF; rename News h₀ L _ _ => hN)
  all_goals exact k _ _ _ hF hN
end

theorem fillIt29 : PySem.Challenge.rw_pb0451_01 = PySem.Challenge.rw_pb0451_01 ∧ KH = KH := by k_fill; exact ⟨rfl, rfl⟩
theorem klines_G6_0 : True := by
  k_with_none
  (k_with "subscriptTail Name Constant ref int" => ((k_here; (with_reducible show wpAny _ _ (subscriptTail _ _ (Value.ref _) (Value.int _ _)) _ _ _); (with_unfolding_all refine' item_litK ?z73ea9d_k1 ?z73ea9d_k2 ?z73ea9d_k3 ?z73ea9d_k4 ?_ ?z73ea9d_k6; (case z73ea9d_k1 => is_list); (case z73ea9d_k2 => decide); (case z73ea9d_k3 => decide); (case z73ea9d_k4 => rfl); (case z73ea9d_k6 => with_unfolding_all rfl); k_whole))))
  (k_with "ENTER" => (((case k6 => k_is); (case k7 => k_is); (case k8 => omega); (case k9 => exact BindsTo.of_eq rfl); (case kB => (conv => lhs; whnf)); (case kL => exact locs rfl); (case c2 => exact rfl); (case c3 => exact rfl); (case c4 => exact rfl); (case c5 => decide); intro g' L' h' HG' FG' F' N' B' X' T' l'; (try dsimp only); k_fold)))
  (k_with "GO" => (repeat' (first | (k_unfold; (try dsimp only)) | (k_end; wrow_close) | walk1 | (dsimp only; walk1))))
  (k_with "ATF" => (first | refine' AtF.head | (refine' AtF.tail ?zaeb911_b; (case zaeb911_b => walk_at "ATF"))))
  (k_with "AT" => (first | refine' At.head | (refine' At.tail ?z4c4c10_b; (case z4c4c10_b => walk_at "AT"))))
  (k_with "M k_upd" => ((rename ND _ => hS; refine' upd_sd ?z531fe4_a hS ?z531fe4_e; (case z531fe4_a => walk_at "AT"); (case z531fe4_e => rfl))))
  (k_with "M k_updF" => ((rename ND _ => hS; refine' updF_sd ?zc7fe0e_a hS ?zc7fe0e_e; (case zc7fe0e_a => walk_at "ATF"); (case zc7fe0e_e => rfl))))
  (k_with "M kn_among" => ((simp [codeAmong, rawInt]; done)))
  (k_with "M kn_triples" => ((simp [TriplesOk, rawInt]; done)))
  (k_with "M k_room" => ((first | omega | ((try simp only [depth_mark, depth_under_make, depth_under_kw, depth_in1, depth_deeper, depth_caller]); omega))))
  (k_with "SUB" => (first | exact List.forall_mem_nil _ | (refine' List.forall_mem_cons.mpr ⟨?z3be472_h, ?z3be472_t⟩; (case z3be472_h => k_mem); (case z3be472_t => walk_at "SUB"))))
  (k_with "ATS" => (first | refine' Ats.nil | (refine' Ats.hit ?z9e6f72_b; (case z9e6f72_b => walk_at "ATS")) | (refine' Ats.skip ?z9e6f72_b; (case z9e6f72_b => walk_at "ATS"))))
  (k_with "CX" => ((refine' ⟨?za4188e_x1, ?za4188e_x2, ?za4188e_x3, ?za4188e_x4, ?za4188e_x5⟩; (case za4188e_x1 => k_asm); (case za4188e_x2 => k_asm); (case za4188e_x3 => k_asm); (case za4188e_x4 => k_asm); (case za4188e_x5 => first | rfl | assumption))))
  (k_with "NSUB" => ((refine' news_sub ?za05c2b_N ?za05c2b_s; (case za05c2b_N => (rename News _ _ _ _ => oN; exact oN)); (case za05c2b_s => walk_at "SUB"))))
  (k_with "getMethod ref" => ((k_here; (with_reducible show wpAny _ _ (getMethod (Value.ref _) (Str.ofString "get") _) _ _ _); k_dflt (refine' kdg_method (knd := intKind prog0 _) ?z1e447a_N ?z1e447a_m ?z1e447a_d ?_; (case z1e447a_N => k_asm); (case z1e447a_m => k_mem); (case z1e447a_d => assumption)))))
  (k_with "call builtin:dict.get" => ((k_here; k_dflt (refine' kdg_get1 (knd := intKind prog0 _) ?z9e4d13_N ?z9e4d13_m ?z9e4d13_d ?z9e4d13_l ?z9e4d13_k _ rfl ?_; (case z9e4d13_N => k_asm); (case z9e4d13_m => k_mem); (case z9e4d13_d => assumption); (case z9e4d13_l => assumption); (case z9e4d13_k => exact intKind_is _ _ _ _)))))
  (k_with "KSEL" => (first | exact fun _ h => absurd h List.not_mem_nil | (refine' List.forall_mem_cons.mpr ⟨?zf64061_h, ?zf64061_t⟩; (case zf64061_h => first | exact Or.inl (by k_mem) | (refine' Or.inr ⟨_, News.get ?zf64061_n1 ?zf64061_m1, News.get ?zf64061_n2 ?zf64061_m2⟩; (case zf64061_n1 => k_asm); (case zf64061_m1 => k_mem); (case zf64061_n2 => k_asm); (case zf64061_m2 => k_mem))); (case zf64061_t => walk_at "KSEL"))))
  (k_with "KEPT" => ((refine' Kept.sel (kept_of ?z6ac77d_hg ?z6ac77d_f) ?z6ac77d_s; (case z6ac77d_hg => assumption); (case z6ac77d_f => assumption); (case z6ac77d_s => walk_at "KSEL"))))
  (k_with "SUBM" => (first | exact fun _ h => absurd h List.not_mem_nil | (refine' List.forall_mem_cons.mpr ⟨?zaff134_h, ?zaff134_t⟩; (case zaff134_h => k_mem); (case zaff134_t => walk_at "SUBM"))))
  (k_with "FRESH" => ((refine' fresh_of ?z9e8148_hg ?z9e8148_n ?z9e8148_m ?z9e8148_nd ?z9e8148_hs; (case z9e8148_hg => assumption); (case z9e8148_n => assumption); (case z9e8148_m => k_mem); (case z9e8148_nd => first | assumption | exact ND.tl (by assumption) | exact ND.tl (ND.tl (by assumption)) | exact ND.tl (ND.tl (ND.tl (by assumption)))); (case z9e8148_hs => walk_at "SUBM"))))
  (k_with "AT?" => ((refine' News.get ?z4603e9_n1 ?z4603e9_m1; (case z4603e9_n1 => k_asm); (case z4603e9_m1 => k_mem))))
  trivial
section
variable {w : World} {mean : ExcName → Option Value} {mg mb : Str → Option Value} {A₀ : Around} {base h₀ : Heap} {outer : List Env} {cn : Str} {cs : Scope} {L ea : Addr} {ccd : Value} {cl : List (Str × Addr)} {m : Str → Option Value} {dp un : Nat} {s : Shared} {Q : Value → Shared → Prop} {E : Value → Shared → Prop}
theorem law_both {l fa : Addr} {lcd : Value} {vs : List Value} {ns : List Int} {Qf : Flow → Shared → Prop} (X : (KH w.params).In h₀) (T : Top topProg lawLoose mean mg mb h₀) (B : Below A₀ h₀ [] h₀) (F : Fr h₀ L s.heap (fun y => List.lookup y [(("script" : Str), Value.ref l)])) (hl : h₀.IsList l vs.toArray) (hi : IntsAre vs ns) (hn : ns.length ≤ 63) (CH : CodeHd h₀ 523 519)
    (N : News h₀ L s.heap [(519, tabObj #[])]) (hd : dp + 60 < recursionLimit) (hu : un + 300 < cLine)
    (k : ∀ (tk : Nat) (m' : Str → Option Value) (ps : Array Value) h', Fr h₀ L h' m' → News h₀ L h' [(519, tabObj ps)] → Qf (.ret (.bool true)) { s with heap := h', toks := tk }) :
    wpAny (model prog0 w) (AR dp un (envOf "law" (fScope (st 38)) L fa lcd) []) (execs (fBody (st 38)) (envOf "law" (fScope (st 38)) L fa lcd)) Qf (fun _ _ => False) s := law_start X T B F hl hi hn CH N hd hu fun z texts ro tn n n0 ta tb ct tk ps lams a b h' hF hN hS hco hr hsm hL ha hb hb' =>
    law_tail (s := { s with heap := h', toks := tk }) X T B hF hN hS hL hco hr hsm ha hb hb' hd hu fun tk2 m' h2 hF2 hN2 => k tk2 m' ps h2 hF2 hN2
theorem law0 : PySem.Challenge.rw_pb0451_01.Holds := by
  refine holds_of ?_
  k_go0
  (all_goals try k_fold)
  rename Heap.IsList _ _ _ => hl
  rename CodeHd _ _ _ => hc
  rename IntsAre _ _ => hi
  rename Frag.In _ _ => hX
  rename Top _ _ _ _ _ _ => hT
  rename Below _ _ _ _ => hB
  rename Fr _ _ _ _ => hF
  rename News _ _ _ _ => hN
  refine wpAny_mono (law_both hX hT hB hF hl hi ?zn hc hN ?zd ?zu ?zk) (fun _ _ x => x) (fun _ _ (x : False) => x.elim)
  (case zn => omega)
  (case zd => decide)
  (case zu => decide)
  (case zk => (intro tk m' ps h' F' N'; dsimp only; walk_at "GO"))
end

end Mine
open PySem PySem.W PyProof.Rows
theorem PySem.Challenge.cw_pb0451_01_holds : PySem.Challenge.rw_pb0451_01.Holds :=
  Mine.law0
