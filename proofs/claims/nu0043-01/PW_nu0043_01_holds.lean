import PyProof.Rows.All
import Wide.All
import OpenK.AllK
import Wide.FinOn
import PySem.Challenge.RW_nu0043_01
open PySem PySem.W PySem.Calls PyProof.Rows
set_option Elab.async false
set_option maxRecDepth 100000
set_option maxHeartbeats 8000000
namespace Mine
/-! ## the head by hand: one check of the whole top, the heap's part written out (no twins of the text) -/

noncomputable def stmtAt (i : Nat) : Stmt := (PySem.Challenge.pw_nu0043_01.main.body.drop i).headD (.Pass ⟨0, 0, 0, 0⟩)
noncomputable def methAt (i : Nat) : Stmt := match stmtAt 4 with
  | .ClassDef _ _ _ body _ _ _ _ _ _ _ => (body.drop i).headD (.Pass ⟨0, 0, 0, 0⟩)
  | s => s
inductive IsFn : Stmt → Arguments → List Stmt → Scope → Prop
  | mk {n : Str} {a : Arguments} {b : List Stmt} {d : List Expr} {r : Option Expr} {tp : List TypeParam} {sc : Scope} {ts : Option Scope} {bi : Str} {pos : Pos} : IsFn (.FunctionDef n a b d r tp sc ts bi pos) a b sc
noncomputable abbrev fO {st : Stmt} {a : Arguments} {b : List Stmt} {sc : Scope} (_h : IsFn st a b sc) (nm qual md : Str) (t cd : Nat) : Obj :=
  { cls := .type "function", data := .func { name := nm, qualname := qual, params := a, body := .stmts b, scope := sc, globals := 3, closure := [], defaults := .none, kwdefaults := .none, pyModule := .str md t, code := .ref cd } }
noncomputable def KK : Params → Frag := fun P =>
  (nat_lit 3, { cls := .type "dict", data := .dict #[
      { hash := PyData.keyHash P "__name__", key := .str "__name__" 165, val := .str "law_nu0043_01" 362 }, 
      { hash := PyData.keyHash P "__doc__", key := .str "__doc__" 166, val := .none }, 
      { hash := PyData.keyHash P "__package__", key := .str "__package__" 167, val := .none }, 
      { hash := PyData.keyHash P "__loader__", key := .str "__loader__" 168, val := .builtin "__main__.__loader__#opaque" }, 
      { hash := PyData.keyHash P "__spec__", key := .str "__spec__" 169, val := .none }, 
      { hash := PyData.keyHash P "__annotations__", key := .str "__annotations__" 170, val := .ref 6 }, 
      { hash := PyData.keyHash P "__builtins__", key := .str "__builtins__" 171, val := .ref 4 }, 
      { hash := PyData.keyHash P "__file__", key := .str "__file__" 173, val := .str "/claim/cut.py" 172 }, 
      { hash := PyData.keyHash P "__cached__", key := .str "__cached__" 174, val := .none }, 
      { hash := PyData.keyHash P "_wall", key := .str "_wall" 193, val := .ref 21 }, 
      { hash := PyData.keyHash P "START", key := .str "START" 197, val := .int 0 196 }, 
      { hash := PyData.keyHash P "add_all", key := .str "add_all" 206, val := .ref 28 }, 
      { hash := PyData.keyHash P "Automaton", key := .str "Automaton" 361, val := .ref 129 }, 
      { hash := PyData.keyHash P "_law_pool", key := .str "_law_pool" 372, val := .ref 140 }, 
      { hash := PyData.keyHash P "_law_take", key := .str "_law_take" 381, val := .ref 147 }, 
      { hash := PyData.keyHash P "_law_one", key := .str "_law_one" 389, val := .ref 154 }, 
      { hash := PyData.keyHash P "_law_particle", key := .str "_law_particle" 395, val := .ref 159 }, 
      { hash := PyData.keyHash P "_law_numbered", key := .str "_law_numbered" 406, val := .ref 166 }, 
      { hash := PyData.keyHash P "_law_is_nothing", key := .str "_law_is_nothing" 412, val := .ref 171 }, 
      { hash := PyData.keyHash P "_law_edge", key := .str "_law_edge" 422, val := .ref 178 }, 
      { hash := PyData.keyHash P "_law_pairs", key := .str "_law_pairs" 428, val := .ref 183 }, 
      { hash := PyData.keyHash P "_law_clashes", key := .str "_law_clashes" 434, val := .ref 188 }, 
      { hash := PyData.keyHash P "law", key := .str "law" 440, val := .ref 193 }] 23 }) ::
  (nat_lit 27, { cls := .type "code", data := .fields #[.str "add_all" 198, .str "add_all" 199, .str "/claim/cut.py" 200, .int 6 0, .int 2 0, .int 0 0, .int 0 0, .int 3 0, .ref 22, .bool true, .int 181 0, .ref 23, .none, .ref 24, .ref 25, .ref 26, .int 204 0, .int 6 0, .str "/claim/cut.py" 205] }) ::
  (nat_lit 28, fO (.mk : IsFn (stmtAt 3) _ _ _) "add_all" "add_all" "markupmill.automaton" 194 27) ::
  (nat_lit 41, { cls := .type "code", data := .fields #[.str "__init__" 219, .str "Automaton.__init__" 220, .str "/claim/cut.py" 221, .int 13 0, .int 2 0, .int 0 0, .int 0 0, .int 3 0, .ref 36, .bool true, .int 181 0, .ref 37, .none, .ref 38, .ref 39, .ref 40, .int 224 0, .int 13 0, .str "/claim/cut.py" 225] }) ::
  (nat_lit 42, fO (.mk : IsFn (methAt 0) _ _ _) "__init__" "Automaton.__init__" "markupmill.automaton" 194 41) ::
  (nat_lit 48, { cls := .type "code", data := .fields #[.str "read" 227, .str "Automaton.read" 228, .str "/claim/cut.py" 229, .int 18 0, .int 2 0, .int 0 0, .int 0 0, .int 3 0, .ref 43, .bool true, .int 181 0, .ref 44, .none, .ref 45, .ref 46, .ref 47, .int 234 0, .int 18 0, .str "/claim/cut.py" 235] }) ::
  (nat_lit 49, fO (.mk : IsFn (methAt 1) _ _ _) "read" "Automaton.read" "markupmill.automaton" 194 48) ::
  (nat_lit 55, { cls := .type "code", data := .fields #[.str "read_row" 237, .str "Automaton.read_row" 238, .str "/claim/cut.py" 239, .int 30 0, .int 2 0, .int 0 0, .int 0 0, .int 3 0, .ref 50, .bool true, .int 181 0, .ref 51, .none, .ref 52, .ref 53, .ref 54, .int 249 0, .int 30 0, .str "/claim/cut.py" 250] }) ::
  (nat_lit 56, fO (.mk : IsFn (methAt 2) _ _ _) "read_row" "Automaton.read_row" "markupmill.automaton" 194 55) ::
  (nat_lit 62, { cls := .type "code", data := .fields #[.str "read_choice" 252, .str "Automaton.read_choice" 253, .str "/claim/cut.py" 254, .int 43 0, .int 2 0, .int 0 0, .int 0 0, .int 3 0, .ref 57, .bool true, .int 181 0, .ref 58, .none, .ref 59, .ref 60, .ref 61, .int 264 0, .int 43 0, .str "/claim/cut.py" 265] }) ::
  (nat_lit 63, fO (.mk : IsFn (methAt 3) _ _ _) "read_choice" "Automaton.read_choice" "markupmill.automaton" 194 62) ::
  (nat_lit 69, { cls := .type "code", data := .fields #[.str "marked" 267, .str "Automaton.marked" 268, .str "/claim/cut.py" 269, .int 52 0, .int 3 0, .int 0 0, .int 0 0, .int 3 0, .ref 64, .bool true, .int 181 0, .ref 65, .none, .ref 66, .ref 67, .ref 68, .int 276 0, .int 52 0, .str "/claim/cut.py" 277] }) ::
  (nat_lit 70, fO (.mk : IsFn (methAt 4) _ _ _) "marked" "Automaton.marked" "markupmill.automaton" 194 69) ::
  (nat_lit 76, { cls := .type "code", data := .fields #[.str "join" 279, .str "Automaton.join" 280, .str "/claim/cut.py" 281, .int 58 0, .int 3 0, .int 0 0, .int 0 0, .int 3 0, .ref 71, .bool true, .int 181 0, .ref 72, .none, .ref 73, .ref 74, .ref 75, .int 286 0, .int 58 0, .str "/claim/cut.py" 287] }) ::
  (nat_lit 77, fO (.mk : IsFn (methAt 5) _ _ _) "join" "Automaton.join" "markupmill.automaton" 194 76) ::
  (nat_lit 83, { cls := .type "code", data := .fields #[.str "name_at" 289, .str "Automaton.name_at" 290, .str "/claim/cut.py" 291, .int 62 0, .int 2 0, .int 0 0, .int 0 0, .int 3 0, .ref 78, .bool true, .int 181 0, .ref 79, .none, .ref 80, .ref 81, .ref 82, .int 294 0, .int 62 0, .str "/claim/cut.py" 295] }) ::
  (nat_lit 84, fO (.mk : IsFn (methAt 6) _ _ _) "name_at" "Automaton.name_at" "markupmill.automaton" 194 83) ::
  (nat_lit 90, { cls := .type "code", data := .fields #[.str "behind" 297, .str "Automaton.behind" 298, .str "/claim/cut.py" 299, .int 65 0, .int 2 0, .int 0 0, .int 0 0, .int 3 0, .ref 85, .bool true, .int 181 0, .ref 86, .none, .ref 87, .ref 88, .ref 89, .int 302 0, .int 65 0, .str "/claim/cut.py" 303] }) ::
  (nat_lit 91, fO (.mk : IsFn (methAt 7) _ _ _) "behind" "Automaton.behind" "markupmill.automaton" 194 90) ::
  (nat_lit 97, { cls := .type "code", data := .fields #[.str "clash" 305, .str "Automaton.clash" 306, .str "/claim/cut.py" 307, .int 68 0, .int 1 0, .int 0 0, .int 0 0, .int 3 0, .ref 92, .bool true, .int 181 0, .ref 93, .none, .ref 94, .ref 95, .ref 96, .int 313 0, .int 68 0, .str "/claim/cut.py" 314] }) ::
  (nat_lit 98, fO (.mk : IsFn (methAt 8) _ _ _) "clash" "Automaton.clash" "markupmill.automaton" 194 97) ::
  (nat_lit 128, { cls := .type "dict", data := .dict #[
      { hash := PyData.keyHash P "__module__", key := .str "__module__" 214, val := .str "markupmill.automaton" 194 }, 
      { hash := PyData.keyHash P "__firstlineno__", key := .str "__firstlineno__" 218, val := .int 11 217 }, 
      { hash := PyData.keyHash P "__init__", key := .str "__init__" 226, val := .ref 42 }, 
      { hash := PyData.keyHash P "read", key := .str "read" 236, val := .ref 49 }, 
      { hash := PyData.keyHash P "read_row", key := .str "read_row" 251, val := .ref 56 }, 
      { hash := PyData.keyHash P "read_choice", key := .str "read_choice" 266, val := .ref 63 }, 
      { hash := PyData.keyHash P "marked", key := .str "marked" 278, val := .ref 70 }, 
      { hash := PyData.keyHash P "join", key := .str "join" 288, val := .ref 77 }, 
      { hash := PyData.keyHash P "name_at", key := .str "name_at" 296, val := .ref 84 }, 
      { hash := PyData.keyHash P "behind", key := .str "behind" 304, val := .ref 91 }, 
      { hash := PyData.keyHash P "clash", key := .str "clash" 315, val := .ref 98 }, 
      { hash := PyData.keyHash P "step", key := .str "step" 324, val := .ref 105 }, 
      { hash := PyData.keyHash P "is_end", key := .str "is_end" 332, val := .ref 112 }, 
      { hash := PyData.keyHash P "expected", key := .str "expected" 340, val := .ref 119 }, 
      { hash := PyData.keyHash P "accepts", key := .str "accepts" 348, val := .ref 126 }, 
      { hash := PyData.keyHash P "__static_attributes__", key := .str "__static_attributes__" 354, val := .ref 127 }, 
      { hash := PyData.keyHash P "__dict__", key := .str "__dict__" 356, val := .ref 130 }, 
      { hash := PyData.keyHash P "__weakref__", key := .str "__weakref__" 358, val := .ref 131 }, 
      { hash := PyData.keyHash P "__doc__", key := .str "__doc__" 359, val := .none }] 4 }) ::
  (nat_lit 129, { cls := .type "type", data := .cls { name := "Automaton", bases := [.type "object"], mro := [.ref 129, .type "object"], ns := 128, qualname := "Automaton" }, slots := #[none, none, some (.str "Automaton" 207), some (.str "Automaton" 215), some (.builtin "object.__new__"), some (.bool true)] }) ::
  (nat_lit 139, { cls := .type "code", data := .fields #[.str "_law_pool" 364, .str "_law_pool" 365, .str "/claim/cut.py" 366, .int 90 0, .int 1 0, .int 0 0, .int 0 0, .int 3 0, .ref 134, .bool true, .int 181 0, .ref 135, .none, .ref 136, .ref 137, .ref 138, .int 370 0, .int 90 0, .str "/claim/cut.py" 371] }) ::
  (nat_lit 140, fO (.mk : IsFn (stmtAt 6) _ _ _) "_law_pool" "_law_pool" "law_nu0043_01" 362 139) ::
  (nat_lit 146, { cls := .type "code", data := .fields #[.str "_law_take" 373, .str "_law_take" 374, .str "/claim/cut.py" 375, .int 96 0, .int 2 0, .int 0 0, .int 0 0, .int 3 0, .ref 141, .bool true, .int 181 0, .ref 142, .none, .ref 143, .ref 144, .ref 145, .int 379 0, .int 96 0, .str "/claim/cut.py" 380] }) ::
  (nat_lit 147, fO (.mk : IsFn (stmtAt 7) _ _ _) "_law_take" "_law_take" "law_nu0043_01" 362 146) ::
  (nat_lit 153, { cls := .type "code", data := .fields #[.str "_law_one" 382, .str "_law_one" 383, .str "/claim/cut.py" 384, .int 103 0, .int 2 0, .int 0 0, .int 0 0, .int 3 0, .ref 148, .bool true, .int 181 0, .ref 149, .none, .ref 150, .ref 151, .ref 152, .int 387 0, .int 103 0, .str "/claim/cut.py" 388] }) ::
  (nat_lit 154, fO (.mk : IsFn (stmtAt 8) _ _ _) "_law_one" "_law_one" "law_nu0043_01" 362 153) ::
  (nat_lit 158, { cls := .type "code", data := .fields #[.str "_law_particle" 390, .str "_law_particle" 391, .str "/claim/cut.py" 392, .int 105 0, .int 2 0, .int 0 0, .int 0 0, .int 3 0, .ref 155, .bool true, .int 181 0, .ref 156, .none, .none, .none, .ref 157, .int 393 0, .int 105 0, .str "/claim/cut.py" 394] }) ::
  (nat_lit 159, fO (.mk : IsFn (stmtAt 9) _ _ _) "_law_particle" "_law_particle" "law_nu0043_01" 362 158) ::
  (nat_lit 165, { cls := .type "code", data := .fields #[.str "_law_numbered" 396, .str "_law_numbered" 397, .str "/claim/cut.py" 398, .int 111 0, .int 2 0, .int 0 0, .int 0 0, .int 3 0, .ref 160, .bool true, .int 181 0, .ref 161, .none, .ref 162, .ref 163, .ref 164, .int 404 0, .int 111 0, .str "/claim/cut.py" 405] }) ::
  (nat_lit 166, fO (.mk : IsFn (stmtAt 10) _ _ _) "_law_numbered" "_law_numbered" "law_nu0043_01" 362 165) ::
  (nat_lit 170, { cls := .type "code", data := .fields #[.str "_law_is_nothing" 407, .str "_law_is_nothing" 408, .str "/claim/cut.py" 409, .int 119 0, .int 1 0, .int 0 0, .int 0 0, .int 3 0, .ref 167, .bool true, .int 181 0, .ref 168, .none, .none, .none, .ref 169, .int 410 0, .int 119 0, .str "/claim/cut.py" 411] }) ::
  (nat_lit 171, fO (.mk : IsFn (stmtAt 11) _ _ _) "_law_is_nothing" "_law_is_nothing" "law_nu0043_01" 362 170) ::
  (nat_lit 177, { cls := .type "code", data := .fields #[.str "_law_edge" 413, .str "_law_edge" 414, .str "/claim/cut.py" 415, .int 126 0, .int 2 0, .int 0 0, .int 0 0, .int 3 0, .ref 172, .bool true, .int 181 0, .ref 173, .none, .ref 174, .ref 175, .ref 176, .int 420 0, .int 126 0, .str "/claim/cut.py" 421] }) ::
  (nat_lit 178, fO (.mk : IsFn (stmtAt 12) _ _ _) "_law_edge" "_law_edge" "law_nu0043_01" 362 177) ::
  (nat_lit 182, { cls := .type "code", data := .fields #[.str "_law_pairs" 423, .str "_law_pairs" 424, .str "/claim/cut.py" 425, .int 135 0, .int 1 0, .int 0 0, .int 0 0, .int 3 0, .ref 179, .bool true, .int 181 0, .ref 180, .none, .none, .none, .ref 181, .int 426 0, .int 135 0, .str "/claim/cut.py" 427] }) ::
  (nat_lit 183, fO (.mk : IsFn (stmtAt 13) _ _ _) "_law_pairs" "_law_pairs" "law_nu0043_01" 362 182) ::
  (nat_lit 187, { cls := .type "code", data := .fields #[.str "_law_clashes" 429, .str "_law_clashes" 430, .str "/claim/cut.py" 431, .int 149 0, .int 1 0, .int 0 0, .int 0 0, .int 3 0, .ref 184, .bool true, .int 181 0, .ref 185, .none, .none, .none, .ref 186, .int 432 0, .int 149 0, .str "/claim/cut.py" 433] }) ::
  (nat_lit 188, fO (.mk : IsFn (stmtAt 14) _ _ _) "_law_clashes" "_law_clashes" "law_nu0043_01" 362 187) ::
  (nat_lit 192, { cls := .type "code", data := .fields #[.str "law" 435, .str "law" 436, .str "/claim/cut.py" 437, .int 154 0, .int 1 0, .int 0 0, .int 0 0, .int 3 0, .ref 189, .bool true, .int 181 0, .ref 190, .none, .none, .none, .ref 191, .int 438 0, .int 154 0, .str "/claim/cut.py" 439] }) ::
  (nat_lit 193, fO (.mk : IsFn (stmtAt 15) _ _ _) "law" "law" "law_nu0043_01" 362 192) :: []
noncomputable abbrev kads : List Addr := [3, 27, 28, 41, 42, 48, 49, 55, 56, 62, 63, 69, 70, 76, 77, 83, 84, 90, 91, 97, 98, 128, 129, 139, 140, 146, 147, 153, 154, 158, 159, 165, 166, 170, 171, 177, 178, 182, 183, 187, 188, 192, 193]


theorem kads_eq : ∀ P, kads = (KK P).map (·.1) := fun _ => by kernel_rfl
noncomputable def VV : Program := view PySem.Challenge.rw_nu0043_01.row.toRowW.prog [0, 2, 3, 4, 6, 7, 8, 9, 10, 11, 12, 13, 14, 15]
noncomputable abbrev HK : Hook := kHook KK kads kads_eq
set_option maxHeartbeats 0 in
theorem lf : LeftO PySem.Challenge.rw_nu0043_01.row.prog VV [] (fun s => xlAt VV [] s && recOk (RowW.records PySem.Challenge.rw_nu0043_01.row.toRowW) s) (Hook.obs HK) (Hook.val HK) 2146 := by
  intro w
  unfold openEnds fencedOpening topFrom
  simp only [PySem.W.Fast.te14364793385576792824, PySem.W.Fast.te14289696077712309145, PySem.W.Fast.te10274390034422433532, PySem.W.Fast.te14082659384304107361, PySem.W.Fast.te4187177175401517315]
  kernel_rfl
end Mine
namespace Mine

/-- the root: what stands at the law's call -/
structure Root (w : World) (mean : ExcName → Option Value) (mg mb : Str → Option Value) (H : Heap) : Prop where
  K : (KK w.params).In H
  T : Top VV (looseW VV []) mean mg mb H

noncomputable abbrev AA (dp : Nat) (fr : Option (List Env)) (gd : Option (List Code)) (un : Nat) : Around := { handled := none, depth := dp, frames := fr, guards := gd, units := un }

section
variable {prog : Program} {w : World} {A : Around} {s : Shared} {K : Frag} {R : Result → Shared → Prop} {p : Program} {loose : List Str} {mean : ExcName → Option Value} {mg mb : Str → Option Value}
  {name qual : Str} {params : Arguments} {body : List Stmt} {scope : Scope} {dV kV doc pm cdv ct oc : Value} {an od : Option Addr} {osl : Array (Option Value)} {f : Addr} {args : Args} {binds : List (Str × Value)} {H : Heap}

theorem enterP0 (X : K.In H) (T : Top p loose mean mg mb H) (hH : H.StaysIn s.heap)
    (ho : K.lookup f = some ⟨oc, od, .func (fnOf name qual params body scope dV kV doc pm an cdv ct), osl⟩) (hcd : codeIn K cdv qual = true) (hroom : A.depth < recursionLimit)
    (hbind : BindsTo s (fnOf name qual params body scope dV kV doc pm an cdv ct) args binds) (hloc : ∀ y ∈ binds, scope.names.lookup y.1 = some .local)
    (h : ∀ L' h₁ tk, Fr s.heap L' h₁ (fun y => binds.reverse.lookup y) → News s.heap L' h₁ [] → K.In s.heap → Top p loose mean mg mb s.heap →
      wpAny (model prog w) (A.deeper (envOf qual scope L' f cdv)) (execs body (envOf qual scope L' f cdv))
        (fun fl s' => R (.ok (.ret (match fl with | .ret v => v | _ => .none))) s')
        (fun e s' => wpAny (model prog w) (A.deeper (envOf qual scope L' f cdv)) (leaving (envOf qual scope L' f cdv) e) (fun _ s'' => R (.error e) s'') (fun e' s'' => R (.error e') s'') s')
        { s with heap := h₁, toks := tk })
    (hco : scope.isCoroutine = false) (hgen : scope.isGenerator = false) (hk : scope.kind = .function)
    (hcell : ∀ x ∈ scope.names, x.2 ≠ .cell) : codeAny (model prog w) A (.call (.ref f) args) R s := by
  have X' := X.keeps hH
  have T' := T.keeps hH
  refine codeAny_call_def (fd := fnOf name qual params body scope dV kV doc pm an cdv ct) (body := body) (binds := binds) hroom (X' _ _ ho) rfl T'.nolimit (codeRec_of X' hcd) rfl hbind hcell hloc (fun h₁ hns hk₁ => ?_) hco hgen hk
  exact h _ _ _ ⟨hns, hk₁, Nat.le_refl _⟩ News.nil X' T'
end

/-! ## data that stand in the heap -/
noncomputable abbrev tupO (vs : List Value) (n : Nat) : Obj := { cls := .type "tuple", data := .seq vs.toArray n }
noncomputable abbrev lstO (vs : List Value) (n : Nat) : Obj := { cls := .type "list", data := .seq vs.toArray n }

mutual
inductive Rd (D : Addr → Obj → Prop) : Value → PyData → Prop
  | none : Rd D .none .none
  | bool (b : Bool) : Rd D (.bool b) (.bool b)
  | int (i : Int) (t : Tok) : Rd D (.int i t) (.int i)
  | str (x : Str) (t : Tok) : Rd D (.str x t) (.str x)
  | tuple {a : Addr} {vs : List Value} {n : Nat} {ds : List PyData} : D a (tupO vs n) → RdAll D vs ds → Rd D (.ref a) (.tuple ds)
  | list {a : Addr} {vs : List Value} {n : Nat} {ds : List PyData} : D a (lstO vs n) → RdAll D vs ds → Rd D (.ref a) (.list ds)
inductive RdAll (D : Addr → Obj → Prop) : List Value → List PyData → Prop
  | nil : RdAll D [] []
  | cons {v : Value} {vs : List Value} {d : PyData} {ds : List PyData} : Rd D v d → RdAll D vs ds → RdAll D (v :: vs) (d :: ds)
end

noncomputable abbrev AndL (D : Addr → Obj → Prop) (tl : List (Addr × Obj)) : Addr → Obj → Prop := fun b o => D b o ∨ (b, o) ∈ tl

section
variable {D D' : Addr → Obj → Prop}
mutual
theorem Rd.mono (hs : ∀ b o, D b o → D' b o) : ∀ {v : Value} {d : PyData}, Rd D v d → Rd D' v d
  | _, _, .none => .none
  | _, _, .bool b => .bool b
  | _, _, .int i t => .int i t
  | _, _, .str x t => .str x t
  | _, _, .tuple h r => .tuple (hs _ _ h) (RdAll.mono hs r)
  | _, _, .list h r => .list (hs _ _ h) (RdAll.mono hs r)
theorem RdAll.mono (hs : ∀ b o, D b o → D' b o) : ∀ {vs : List Value} {ds : List PyData}, RdAll D vs ds → RdAll D' vs ds
  | _, _, .nil => .nil
  | _, _, .cons h r => .cons (Rd.mono hs h) (RdAll.mono hs r)
end
mutual
theorem Rd.reads {h : Heap} (hs : ∀ b o, D b o → h.get? b = some o) : ∀ {v : Value} {d : PyData}, Rd D v d → ∃ as, Reads h v d as
  | _, _, .none => ⟨_, Reads.none⟩
  | _, _, .bool b => ⟨_, Reads.bool b⟩
  | _, _, .int i t => ⟨_, Reads.int i t⟩
  | _, _, .str x t => ⟨_, Reads.str x t⟩
  | _, _, .tuple hm r => by
    obtain ⟨as, q⟩ := RdAll.reads hs r
    exact ⟨as, reads_tuple_at (hs _ _ hm) rfl rfl (by simpa using q)⟩
  | _, _, .list hm r => by
    obtain ⟨as, q⟩ := RdAll.reads hs r
    exact ⟨_, reads_list_at (hs _ _ hm) rfl rfl (by simpa using q)⟩
theorem RdAll.reads {h : Heap} (hs : ∀ b o, D b o → h.get? b = some o) : ∀ {vs : List Value} {ds : List PyData}, RdAll D vs ds → ∃ as, ReadsAll h vs ds as
  | _, _, .nil => ⟨_, ReadsAll.nil⟩
  | _, _, .cons hd r => by
    obtain ⟨as, q⟩ := Rd.reads hs hd
    obtain ⟨bs, p⟩ := RdAll.reads hs r
    exact ⟨_, ReadsAll.cons q p⟩
end
variable {v : Value} {d d' e : PyData} {vs ws : List Value} {ds es : List PyData}
theorem RdAll.length (h : RdAll D vs ds) : vs.length = ds.length := by
  induction vs generalizing ds with
  | nil => cases h; rfl
  | cons v vs ih =>
    cases h with
    | cons _ r => rw [List.length_cons, List.length_cons, ih r]
theorem RdAll.append (h : RdAll D vs ds) (k : RdAll D ws es) : RdAll D (vs ++ ws) (ds ++ es) := by
  induction vs generalizing ds with
  | nil => cases h; exact k
  | cons v vs ih =>
    cases h with
    | cons h r => exact .cons h (ih r)
theorem RdAll.one' (h : Rd D v d) : RdAll D [v] [d] := .cons h .nil
theorem RdAll.nil_inv (h : RdAll D vs []) : vs = [] := by cases h; rfl
theorem RdAll.cons_inv (h : RdAll D vs (d :: ds)) : ∃ v ws, vs = v :: ws ∧ Rd D v d ∧ RdAll D ws ds := by cases h with | cons a b => exact ⟨_, _, rfl, a, b⟩
theorem RdAll.one (h : RdAll D vs [d]) : ∃ v, vs = [v] ∧ Rd D v d := by
  obtain ⟨v, ws, rfl, a, b⟩ := h.cons_inv
  obtain rfl := b.nil_inv
  exact ⟨v, rfl, a⟩
theorem RdAll.two (h : RdAll D vs [d, d']) : ∃ v v', vs = [v, v'] ∧ Rd D v d ∧ Rd D v' d' := by
  obtain ⟨v, ws, rfl, a, b⟩ := h.cons_inv
  obtain ⟨v', rfl, c⟩ := b.one
  exact ⟨v, v', rfl, a, c⟩
theorem RdAll.three (h : RdAll D vs [d, d', e]) : ∃ v v' v'', vs = [v, v', v''] ∧ Rd D v d ∧ Rd D v' d' ∧ Rd D v'' e := by
  obtain ⟨v, ws, rfl, a, b⟩ := h.cons_inv
  obtain ⟨v', v'', rfl, c, e⟩ := b.two
  exact ⟨v, v', v'', rfl, a, c, e⟩
theorem Rd.int_inv {i : Int} (h : Rd D v (.int i)) : ∃ t, v = .int i t := by cases h; exact ⟨_, rfl⟩
theorem Rd.str_inv {x : Str} (h : Rd D v (.str x)) : ∃ t, v = .str x t := by cases h; exact ⟨_, rfl⟩
theorem Rd.bool_inv {b : Bool} (h : Rd D v (.bool b)) : v = .bool b := by cases h; rfl
theorem Rd.tuple_inv (h : Rd D v (.tuple ds)) : ∃ a vs n, v = .ref a ∧ D a (tupO vs n) ∧ RdAll D vs ds := by cases h with | tuple a b => exact ⟨_, _, _, rfl, a, b⟩
theorem Rd.list_inv (h : Rd D v (.list ds)) : ∃ a vs n, v = .ref a ∧ D a (lstO vs n) ∧ RdAll D vs ds := by cases h with | list a b => exact ⟨_, _, _, rfl, a, b⟩
end

/-! ## a call that changes nothing that stood: its contract -/
noncomputable def ROut (D : Addr → Obj → Prop) (tl : List (Addr × Obj)) (r : Value) (d : PyData) : Prop := match d with
  | .list ds => ∃ a vs n, r = .ref a ∧ (a, lstO vs n) ∈ tl ∧ RdAll (AndL D tl) vs ds
  | _ => Rd (AndL D tl) r d

noncomputable abbrev MM (w : World) : Model := model PySem.Challenge.rw_nu0043_01.row.prog w

noncomputable def Pure (w : World) (H : Heap) (rank : Nat) (f : Addr) (ds : List PyData) (d : PyData) : Prop :=
  ∀ (dp un : Nat) (fr : Option (List Env)) (gd : Option (List Code)) (h₀ : Heap) (L : Addr) (m : Str → Option Value) (news : List (Addr × Obj)) (D : Addr → Obj → Prop) (s : Shared) (vs : List Value) (Q E : Value → Shared → Prop),
    dp + rank < 900 → un + 10 * rank < 9000 → H.StaysIn h₀ → Fr h₀ L s.heap m → News h₀ L s.heap news → (∀ b o, D b o → s.heap.get? b = some o) → RdAll D vs ds →
    (∀ r tl h' tk', Fr h₀ L h' m → News h₀ L h' (news ++ tl) → (∀ q ∈ news, ∀ p ∈ tl, p.1 ≠ q.1) → s.heap.StaysIn h' → ROut D tl r d → Q r { s with heap := h', toks := tk' }) →
    wpAny (model PySem.Challenge.rw_nu0043_01.row.prog w) (AA dp fr gd un) (call (.ref f) vs) Q E s

theorem back {h₀ hs h : Heap} {L L' : Addr} {m m' : Str → Option Value} {news newsf : List (Addr × Obj)} (F₀ : Fr h₀ L hs m) (N₀ : News h₀ L hs news) (F' : Fr hs L' h m') (N' : News hs L' h newsf) :
    Fr h₀ L h m ∧ News h₀ L h (news ++ newsf) ∧ (∀ q ∈ news, ∀ p ∈ newsf, p.1 ≠ q.1) ∧ hs.StaysIn h := by
  refine ⟨⟨F₀.ns.keeps F'.keep, fun b o e => F'.keep b o (F₀.keep b o e), F₀.above⟩, fun p hp => ?_, fun q hq p hp e => ?_, F'.keep⟩
  · rcases List.mem_append.mp hp with hp | hp
    · have z := N₀ p hp
      exact ⟨F'.keep _ _ z.1, z.2⟩
    · have z := N' p hp
      refine ⟨z.1, fun e => ?_, ?_⟩
      · obtain ⟨oL, _, _, hL, _⟩ := F₀.ns
        have := z.2.2
        rw [e, hL] at this; cases this
      · cases q : h₀.get? p.1 with
        | none => rfl
        | some o => have := F₀.keep _ _ q; rw [z.2.2] at this; cases this
  · have z := (N' p hp).2.2
    rw [e, (N₀ q hq).1] at z; cases z

/-! ## particles -/
inductive Mk where
  | no | opt | star | plus
  deriving DecidableEq
noncomputable def Mk.str : Mk → Str
  | .no => "" | .opt => "?" | .star => "*" | .plus => "+"
noncomputable def Mk.nul : Mk → Bool
  | .opt => true | .star => true | _ => false
noncomputable def Mk.rep : Mk → Bool
  | .star => true | .plus => true | _ => false
noncomputable def kindStr : Bool → Str
  | true => "seq"
  | false => "choice"

inductive Pt (α : Type) where
  | name (x : α) (mk : Mk)
  | node (sq : Bool) (kids : List (Pt α)) (mk : Mk)

noncomputable def Pt.data {α : Type} (enc : α → PyData) : Pt α → PyData
  | .name x mk => .tuple [.str "name", enc x, .str mk.str]
  | .node sq ps mk => .tuple [.str (kindStr sq), .tuple (ps.map (Pt.data enc)), .str mk.str]

noncomputable def Pt.height {α : Type} : Pt α → Nat
  | .name _ _ => 1
  | .node _ ps _ => (ps.map Pt.height).foldr max 0 + 1

noncomputable def Pt.ok {α : Type} : Pt α → Prop
  | .name _ _ => True
  | .node _ ps _ => (ps.length = 2 ∨ ps.length = 3) ∧ ∀ p ∈ ps, p.ok

noncomputable def Pt.nothing {α : Type} : Pt α → Bool
  | .name _ mk => mk.nul
  | .node sq ps mk => mk.nul || (if sq then (ps.map Pt.nothing).all id else (ps.map Pt.nothing).any id)

theorem fin {w : World} {h₀ h : Heap} {L L' : Addr} {s : Shared} {m m' : Str → Option Value} {news newsf : List (Addr × Obj)} {D : Addr → Obj → Prop} {d : PyData} {Q : Value → Shared → Prop} {r : Value} {tk : Nat}
    (F₀ : Fr h₀ L s.heap m) (N₀ : News h₀ L s.heap news)
    (hret : ∀ r tl h' tk', Fr h₀ L h' m → News h₀ L h' (news ++ tl) → (∀ q ∈ news, ∀ p ∈ tl, p.1 ≠ q.1) → s.heap.StaysIn h' → ROut D tl r d → Q r { s with heap := h', toks := tk' })
    (F' : Fr s.heap L' h m') (N' : News s.heap L' h newsf) (o : ROut D newsf r d) : Q r { s with heap := h, toks := tk } :=
  have ⟨a, b, c, e⟩ := back F₀ N₀ F' N'
  hret _ _ _ _ a b c e o

theorem Pure.use {w : World} {H : Heap} {rank : Nat} {f : Addr} {ds : List PyData} {d : PyData} (C : Pure w H rank f ds d)
  {dp un : Nat} {fr : Option (List Env)} {gd : Option (List Code)} {h₀ : Heap} {L : Addr} {m : Str → Option Value} {news : List (Addr × Obj)} {D : Addr → Obj → Prop} {s : Shared} {vs : List Value} {Q E : Value → Shared → Prop}
  (R : RdAll D vs ds) (hdp : dp + rank < 900) (hun : un + 10 * rank < 9000) (hH : H.StaysIn h₀) (F : Fr h₀ L s.heap m) (N : News h₀ L s.heap news) (hD : ∀ b o, D b o → s.heap.get? b = some o)
    (hret : ∀ r tl h' tk', Fr h₀ L h' m → News h₀ L h' (news ++ tl) → (∀ q ∈ news, ∀ p ∈ tl, p.1 ≠ q.1) → s.heap.StaysIn h' → ROut D tl r d → Q r { s with heap := h', toks := tk' }) :
    wpAny (model PySem.Challenge.rw_nu0043_01.row.prog w) (AA dp fr gd un) (call (.ref f) vs) Q E s := C _ _ _ _ _ _ _ _ _ _ _ _ _ hdp hun hH F N hD R hret

theorem len23 {α : Type} {ps : List α} (h : ps.length = 2 ∨ ps.length = 3) : (∃ a b, ps = [a, b]) ∨ ∃ a b c, ps = [a, b, c] := by
  match ps, h with
  | [a, b], _ => exact .inl ⟨_, _, rfl⟩
  | [a, b, c], _ => exact .inr ⟨_, _, _, rfl⟩
  | [], h => simp at h
  | [_], h => simp at h
  | _ :: _ :: _ :: _ :: _, h => simp at h

theorem ROut.boolE {D : Addr → Obj → Prop} {tl : List (Addr × Obj)} {b b' : Bool} (h : b = b') : ROut D tl (.bool b) (.bool b') := h ▸ Rd.bool b
theorem ROut.bool_inv {D : Addr → Obj → Prop} {tl : List (Addr × Obj)} {r : Value} {b : Bool} (h : ROut D tl r (.bool b)) : r = .bool b := Rd.bool_inv h

inductive Nm where
  | a | b | c
  deriving DecidableEq
noncomputable def Nm.str : Nm → Str
  | .a => "a" | .b => "b" | .c => "c"
noncomputable def enc1 (x : Nm) : PyData := .str x.str
noncomputable def enc2 (x : Nm × Nat) : PyData := .tuple [.str x.1.str, .int x.2]

mutual
noncomputable def Pt.number : Pt Nm → Nat → Pt (Nm × Nat) × Nat
  | .name x mk, k => (.name (x, k) mk, k + 1)
  | .node sq ps mk, k => (.node sq (numbers ps k).1 mk, (numbers ps k).2)
noncomputable def numbers : List (Pt Nm) → Nat → List (Pt (Nm × Nat)) × Nat
  | [], k => ([], k)
  | p :: ps, k => ((p.number k).1 :: (numbers ps (p.number k).2).1, (numbers ps (p.number k).2).2)
end

/-! ## the edges of a particle -/
noncomputable def edgeRow {β : Type} (sq : Bool) : List (List β × Bool) → List β
  | [] => []
  | (es, nul) :: r => es ++ (if sq && !nul then [] else edgeRow sq r)
noncomputable def Pt.edge {α : Type} (b : Bool) : Pt α → List α
  | .name x _ => [x]
  | .node sq ps _ => edgeRow sq (if b then ps.map (fun p => (p.edge b, p.nothing)) else (ps.map (fun p => (p.edge b, p.nothing))).reverse)
noncomputable def Pt.leaves {α : Type} : Pt α → Nat
  | .name _ _ => 1
  | .node _ ps _ => (ps.map Pt.leaves).sum

theorem edgeRow_len {β : Type} (sq : Bool) : ∀ l : List (List β × Bool), (edgeRow sq l).length ≤ (l.map fun p => p.1.length).sum
  | [] => Nat.le_refl _
  | (es, nul) :: r => by
    have ih := edgeRow_len sq r
    simp only [edgeRow, List.length_append, List.map_cons, List.sum_cons]
    split
    · simp
    · omega
theorem sum_le_map {α : Type} {f g : α → Nat} : ∀ {l : List α}, (∀ x ∈ l, f x ≤ g x) → (l.map f).sum ≤ (l.map g).sum
  | [], _ => Nat.le_refl _
  | x :: l, h => by
    have := h x (by simp)
    have := sum_le_map (l := l) fun y hy => h y (by simp [hy])
    simp only [List.map_cons, List.sum_cons]; omega
theorem Pt.edge_len {α : Type} (b : Bool) : ∀ n, ∀ p : Pt α, p.height < n → (p.edge b).length ≤ p.leaves := by
  intro n
  induction n with
  | zero => intro p h; exact absurd h (Nat.not_lt_zero _)
  | succ n ih =>
    intro p hp
    cases p with
    | name x mk => simp [Pt.edge, Pt.leaves]
    | node sq ps mk =>
      rw [Pt.edge, Pt.leaves]
      refine Nat.le_trans (edgeRow_len _ _) ?_
      have key : (ps.map fun p => (p.edge b).length).sum ≤ (ps.map Pt.leaves).sum := sum_le_map fun q hq => ih q (by
        rw [Pt.height] at hp
        have : q.height ≤ (ps.map Pt.height).foldr max 0 := by
          clear ih hp
          induction ps with
          | nil => cases hq
          | cons r ps ih =>
            simp only [List.map_cons, List.foldr_cons]
            rcases List.mem_cons.mp hq with rfl | hq
            · omega
            · have := ih hq; omega
        omega)
      cases b with
      | true => simpa [List.map_map, Function.comp_def] using key
      | false => simpa [List.map_map, Function.comp_def, List.map_reverse, List.sum_reverse] using key
theorem Pt.height_kid {α : Type} {ps : List (Pt α)} {q : Pt α} (hq : q ∈ ps) {sq : Bool} {mk : Mk} : q.height < (Pt.node sq ps mk).height := by
  rw [Pt.height]
  have : q.height ≤ (ps.map Pt.height).foldr max 0 := by
    induction ps with
    | nil => cases hq
    | cons r ps ih =>
      simp only [List.map_cons, List.foldr_cons]
      rcases List.mem_cons.mp hq with rfl | hq
      · omega
      · have := ih hq; omega
  omega
theorem Pt.leaves_kid {α : Type} {ps : List (Pt α)} {q : Pt α} (hq : q ∈ ps) {sq : Bool} {mk : Mk} : q.leaves ≤ (Pt.node sq ps mk).leaves := by
  rw [Pt.leaves]
  induction ps with
  | nil => cases hq
  | cons r ps ih =>
    simp only [List.map_cons, List.sum_cons]
    rcases List.mem_cons.mp hq with rfl | hq
    · omega
    · have := ih hq; omega
end Mine
namespace Mine
open LCg (NsObj ns_obj lst lst_snoc Off3)

noncomputable abbrev tests (ifs : List Expr) (env : Env) : Sem Bool := forIn ifs true fun c r => if r = true then do let ok ← isTrue c env (eval c env); pure (ForInStep.yield ok) else pure (ForInStep.yield r)

/-- a turn of a comprehension's loop -/
noncomputable def turnOf (target : Expr) (ifs : List Expr) (it : Value) (env : Env) (p : Pos) (emit : Sem PUnit) (back : Code) : Sem Fin := do
  standAt p
  match ← pyNext it with
  | none => pure (.done .next)
  | some v =>
    letOwnedTupleGo target it v
    assign target env v
    let mut ok := true
    for c in ifs do
      if ok then ok ← isTrue c env (eval c env)
    if ok then
      emit
    again back

section
variable {prog : Program} {w : World} {A : Around} {R : Result → Shared → Prop} {s : Shared} {h₀ : Heap} {L I C D : Addr} {m : Str → Option Value}

theorem loop_any {e : Expr} {depth : Nat} {target : Expr} {ifs : List Expr} {it acc : Value} {env : Env} {p : Pos} {emit : Sem PUnit} (hturn : compTurn e depth it acc env = turnOf target ifs it env p emit (.compLoop e depth it acc env))
    (hfr : (Code.compLoop e depth it acc env).isFrame = false) (hq : (Code.compLoop e depth it acc env).quiet = true) (hu : A.under (.compLoop e depth it acc env) = A) (J : Nat → Shared → Prop)
    (turn : ∀ n s, J n s → wpAny (model prog w) A (pyNext it) (fun r s₁ => match r with
      | none => R (.ok .next) s₁
      | some v => wpAny (model prog w) A (letOwnedTupleGo target it v) (fun _ s₁' => wpAny (model prog w) A (assign target env v) (fun _ s₂ => wpAny (model prog w) A (tests ifs env) (fun ok s₃ =>
          if ok = true then wpAny (model prog w) A emit (fun _ s₄ => ∃ m, m < n ∧ J m s₄) (notedBy (model prog w) A env fun e s' => R (.error e) s') s₃ else ∃ m, m < n ∧ J m s₃)
          (notedBy (model prog w) A env fun e s' => R (.error e) s') s₂) (notedBy (model prog w) A env fun e s' => R (.error e) s') s₁') (notedBy (model prog w) A env fun e s' => R (.error e) s') s₁) (notedBy (model prog w) A env fun e s' => R (.error e) s') s)
    (n : Nat) (h : J n s) : codeAny (model prog w) A (.compLoop e depth it acc env) R s := by
  refine codeAny_loop hq J (fun n s hJ => ?_) n h
  rw [hu]
  show wpAny _ A (if (Code.compLoop e depth it acc env).isFrame then _ else _) _ _ s
  rw [hfr]
  show wpAny _ A ((compTurn e depth it acc env).onRaise (fun x => do noteFrame x env; theTreesLotGoes x)) _ _ s
  refine wpAny_noted ?_
  rw [hturn, turnOf]
  refine wpAny_bind (wpAny_standAt (wpAny_bind (wpAny_mono (turn n s hJ) (fun r s₁ h₁ => ?_) fun _ _ h' => h')))
  cases r with
  | none => exact wpAny_pure h₁
  | some v =>
    refine wpAny_bind (wpAny_mono h₁ (fun _ s₁' h₁' => ?_) fun _ _ h' => h')
    refine wpAny_bind (wpAny_mono h₁' (fun _ s₂ h₂ => wpAny_bind (wpAny_mono h₂ (fun ok s₃ h₃ => ?_) fun _ _ h' => h')) fun _ _ h' => h')
    cases ok with
    | false => exact wpAny_pure ⟨rfl, h₃⟩
    | true => exact wpAny_bind (wpAny_mono h₃ (fun _ s₄ h₄ => wpAny_pure ⟨rfl, h₄⟩) fun _ _ h' => h')

/-- what is left of a comprehension's loop: k turns -/
noncomputable def CRest (prog : Program) (w : World) (A : Around) (h₀ : Heap) (L : Addr) (m : Str → Option Value) (cenv : Env) (ifs : List Expr) (emit : Sem PUnit) (I C D : Addr) (s : Shared) (S : List (Addr × Obj) → Prop) (P : Nat → Value → Prop)
    (Bd : Value → (Str → Option Value) → Prop) (Fin : List Value → List (Addr × Obj) → Prop) : Nat → Nat → List Value → List (Addr × Obj) → Prop
  | 0, _, ys, news => Fin ys news
  | k + 1, i, ys, news => ∀ v oI oC mC h tk (E' : Value → Shared → Prop), P i v → NsObj oC mC → Bd v mC → Fr h₀ L h m → News h₀ L h ((I, oI) :: (C, oC) :: (D, lst ys) :: news) → Off3 I C D news →
      wpAny (model prog w) A (tests ifs cenv) (fun ok s' =>
        if ok = true then wpAny (model prog w) A emit (fun _ s₂ => ∃ h' tk' ys' oC' mC' news', s₂ = { s with heap := h', toks := tk' } ∧ Fr h₀ L h' m ∧ NsObj oC' mC' ∧ News h₀ L h' ((I, oI) :: (C, oC') :: (D, lst ys') :: news') ∧ Off3 I C D news' ∧ S news' ∧ CRest prog w A h₀ L m cenv ifs emit I C D s S P Bd Fin k (i + 1) ys' news') E' s'
        else ∃ h' tk' ys' oC' mC' news', s' = { s with heap := h', toks := tk' } ∧ Fr h₀ L h' m ∧ NsObj oC' mC' ∧ News h₀ L h' ((I, oI) :: (C, oC') :: (D, lst ys') :: news') ∧ Off3 I C D news' ∧ S news' ∧ CRest prog w A h₀ L m cenv ifs emit I C D s S P Bd Fin k (i + 1) ys' news')
        E' { s with heap := h, toks := tk }

theorem comp_loop {e : Expr} {depth : Nat} {target : Expr} {ifs : List Expr} {cenv : Env} {p : Pos} {emit : Sem PUnit} {fp : List Addr} {n : Nat} {P : Nat → Value → Prop} {St : Nat → Heap → Prop} {S : List (Addr × Obj) → Prop}
    {Bd : Value → (Str → Option Value) → Prop} {Fin : List Value → List (Addr × Obj) → Prop} {ys : List Value} {news : List (Addr × Obj)} {mC : Str → Option Value} {h₁ : Heap} {t₁ : Nat}
    (hturn : compTurn e depth (.ref I) (.ref D) cenv = turnOf target ifs (.ref I) cenv p emit (.compLoop e depth (.ref I) (.ref D) cenv))
    (hfr : (Code.compLoop e depth (.ref I) (.ref D) cenv).isFrame = false) (hq : (Code.compLoop e depth (.ref I) (.ref D) cenv).quiet = true) (hu : A.under (.compLoop e depth (.ref I) (.ref D) cenv) = A)
    (W : Walks prog w A I fp [I] n P St) (hIo : ∀ i h, St i h → ∃ o, h.get? I = some o)
    (hSt : ∀ i h h' o nw, St i h → h.get? I = some o → h'.get? I = some o → (∀ b o, h₀.get? b = some o → h'.get? b = some o) → News h₀ L h' nw → S nw → St i h')
    (hbind : ∀ i v mC s Q E, P i v → St (i + 1) s.heap → (∀ b o, h₀.get? b = some o → s.heap.get? b = some o) → s.heap.Ns C mC →
      (∀ h' tk mC', h'.Ns C mC' → Bd v mC' → (∀ b o, b ≠ C → s.heap.get? b = some o → h'.get? b = some o) → Q () { s with heap := h', toks := tk }) →
      wpAny (model prog w) A (letOwnedTupleGo target (.ref I) v) (fun _ s₁ => wpAny (model prog w) A (assign target cenv v) Q E s₁) E s)
    (hIC : I ≠ C) (hID : I ≠ D) (hCD : C ≠ D) (hCf : C ∉ fp) (hIL : I ≠ L) (hCL : C ≠ L) (hDL : D ≠ L) (hI₀ : h₀.get? I = none) (hC₀ : h₀.get? C = none) (hD₀ : h₀.get? D = none)
    (hst : St 0 h₁) (F : Fr h₀ L h₁ m) (hn : h₁.Ns C mC) (N : News h₀ L h₁ ((D, lst ys) :: news)) (off : Off3 I C D news) (hS : S news)
    (R' : CRest prog w A h₀ L m cenv ifs emit I C D s S P Bd Fin n 0 ys news)
    (fin : ∀ h' tk m' ys' news', Fr h₀ L h' m → h'.Ns C m' → News h₀ L h' ((D, lst ys') :: news') → Off3 I C D news' → S news' → Fin ys' news' → R (.ok .next) { s with heap := h', toks := tk }) :
    codeAny (model prog w) A (.compLoop e depth (.ref I) (.ref D) cenv) R { s with heap := h₁, toks := t₁ } := by
  refine loop_any hturn hfr hq hu
    (fun k s' => ∃ h' tk i ys m' news', s' = { s with heap := h', toks := tk } ∧ i ≤ n ∧ k = n + 1 - i ∧ St i h' ∧ Fr h₀ L h' m ∧ h'.Ns C m' ∧ News h₀ L h' ((D, lst ys) :: news') ∧
      Off3 I C D news' ∧ S news' ∧ CRest prog w A h₀ L m cenv ifs emit I C D s S P Bd Fin (n - i) i ys news') ?_ (n + 1)
    ⟨h₁, t₁, 0, ys, _, news, rfl, Nat.zero_le _, rfl, hst, F, hn, N, off, hS, R'⟩
  rintro k s' ⟨h', tk, i, ys, m', news', rfl, hi, rfl, hst', F', hn', N', off', hS', R'⟩
  have off3 := off'.mem
  have onI : ∀ p ∈ (D, lst ys) :: news', p.1 ≠ I := fun p hp => by
    rcases List.mem_cons.mp hp with rfl | hp
    · exact Ne.symm hID
    · exact (off3 p hp).1
  by_cases hlt : i < n
  · obtain ⟨j, hj⟩ : ∃ j, n - i = j + 1 := ⟨n - i - 1, by omega⟩
    rw [hj] at R'
    refine W.item i _ _ _ hlt hst' fun v h₂ tk₂ hPv hst₂ hk₂ => ?_
    have hk₂' : ∀ b o, b ≠ I → h'.get? b = some o → h₂.get? b = some o := fun b o hb e => hk₂ b o (by simpa using hb) e
    have F₂ : Fr h₀ L h₂ m := ⟨F'.ns.at' fun o e => hk₂' L o (Ne.symm hIL) e, fun b o e => hk₂' b o (fun q => by rw [q, hI₀] at e; cases e) (F'.keep b o e), F'.above⟩
    have N₂ : News h₀ L h₂ ((D, lst ys) :: news') := fun p hp => ⟨hk₂' _ _ (onI p hp) (N' p hp).1, (N' p hp).2⟩
    refine hbind i v m' _ _ _ hPv hst₂ F₂.keep (hn'.at' fun o e => hk₂' C o (Ne.symm hIC) e) fun h₃ tk₃ mC' hn₃ hB hk₃ => ?_
    have hst₃ : St (i + 1) h₃ := W.frame _ _ _ hst₂ fun b hb o e => hk₃ b o (fun q => hCf (q ▸ hb)) e
    obtain ⟨oI, heI⟩ := hIo _ _ hst₃
    obtain ⟨oC, heC, hoC⟩ := ns_obj hn₃
    have F₃ : Fr h₀ L h₃ m := ⟨F₂.ns.at' fun o e => hk₃ L o (Ne.symm hCL) e, fun b o e => hk₃ b o (fun q => by rw [q, hC₀] at e; cases e) (F₂.keep b o e), F₂.above⟩
    have N₃ : News h₀ L h₃ ((I, oI) :: (C, oC) :: (D, lst ys) :: news') := fun p hp => by
      rcases List.mem_cons.mp hp with rfl | hp
      · exact ⟨heI, hIL, hI₀⟩
      · rcases List.mem_cons.mp hp with rfl | hp
        · exact ⟨heC, hCL, hC₀⟩
        · refine ⟨hk₃ _ _ ?_ (N₂ p hp).1, (N₂ p hp).2⟩
          rcases List.mem_cons.mp hp with rfl | hp
          · exact Ne.symm hCD
          · exact (off3 p hp).2.1
    have next : ∀ s₂, (∃ h' tk' ys' oC' mC' news', s₂ = { s with heap := h', toks := tk' } ∧ Fr h₀ L h' m ∧ NsObj oC' mC' ∧ News h₀ L h' ((I, oI) :: (C, oC') :: (D, lst ys') :: news') ∧ Off3 I C D news' ∧ S news' ∧ CRest prog w A h₀ L m cenv ifs emit I C D s S P Bd Fin j (i + 1) ys' news') →
        ∃ m₁, m₁ < n + 1 - i ∧ ∃ h' tk i ys m' news', s₂ = { s with heap := h', toks := tk } ∧ i ≤ n ∧ m₁ = n + 1 - i ∧ St i h' ∧ Fr h₀ L h' m ∧ h'.Ns C m' ∧ News h₀ L h' ((D, lst ys) :: news') ∧
          Off3 I C D news' ∧ S news' ∧ CRest prog w A h₀ L m cenv ifs emit I C D s S P Bd Fin (n - i) i ys news' := by
      rintro s₂ ⟨h₄, tk₄, ys₄, oC₄, mC₄, news₄, rfl, F₄, hoC₄, N₄, off₄, hS₄, R₄⟩
      have zI := (N₄ (I, oI) List.mem_cons_self).1
      have zC := (N₄ (C, oC₄) (List.mem_cons_of_mem _ List.mem_cons_self)).1
      have N₄' : News h₀ L h₄ ((D, lst ys₄) :: news₄) := fun p hp => N₄ p (List.mem_cons_of_mem _ (List.mem_cons_of_mem _ hp))
      refine ⟨n + 1 - (i + 1), by omega, h₄, tk₄, i + 1, ys₄, _, news₄, rfl, hlt, rfl, hSt _ _ _ _ _ hst₃ heI zI F₄.keep (fun p hp => N₄' p (List.mem_cons_of_mem _ hp)) hS₄, F₄, hoC₄.ns zC, N₄', off₄, hS₄, ?_⟩
      rw [show n - (i + 1) = j by omega]
      exact R₄
    refine wpAny_mono (R' v oI oC mC' h₃ _ _ hPv hoC hB F₃ N₃ off') (fun ok s₄ h₄ => ?_) fun _ _ e => e
    cases ok with
    | false => exact next _ h₄
    | true => exact wpAny_mono h₄ (fun _ s₅ h₅ => next _ h₅) fun _ _ e => e
  · obtain rfl : i = n := Nat.le_antisymm hi (Nat.not_lt.mp hlt)
    rw [Nat.sub_self] at R'
    refine W.done _ _ _ hst' fun h₂ tk₂ hk₂ => ?_
    have hk₂' : ∀ b o, b ≠ I → h'.get? b = some o → h₂.get? b = some o := fun b o hb e => hk₂ b o (by simpa using hb) e
    exact fin h₂ tk₂ _ ys news' ⟨F'.ns.at' fun o e => hk₂' L o (Ne.symm hIL) e, fun b o e => hk₂' b o (fun q => by rw [q, hI₀] at e; cases e) (F'.keep b o e), F'.above⟩ (hn'.at' fun o e => hk₂' C o (Ne.symm hIC) e)
      (fun p hp => ⟨hk₂' _ _ (onI p hp) (N' p hp).1, (N' p hp).2⟩) off' hS' R'
end

section
variable {prog : Program} {w : World} {A : Around} {E : Value → Shared → Prop} {s : Shared} {h₀ : Heap} {L : Addr} {m : Str → Option Value} {env : Env}

theorem block_C {elt target iter : Expr} {ifs : List Expr} {rest : List Comprehension} {scope : Scope} {cl : List (Str × Addr)} {pos : Pos} {s₂ : Shared} {I : Addr} {fp : List Addr} {n : Nat} {P : Nat → Value → Prop} {St : Nat → Heap → Prop}
    {S : List (Addr × Obj) → Prop} {Bd : Value → (Str → Option Value) → Prop} {Fin : Addr → List Value → List (Addr × Obj) → Prop} {news : List (Addr × Obj)} {RR : Value → Addr → Result → Shared → Prop} (emit : Env → Value → Sem PUnit)
    (hturn : ∀ D cenv, compTurn (.ListComp elt (⟨target, iter, ifs, 0⟩ :: rest) scope pos) 0 (.ref I) (.ref D) cenv = turnOf target ifs (.ref I) cenv iter.pos (emit cenv (.ref D)) (.compLoop (.ListComp elt (⟨target, iter, ifs, 0⟩ :: rest) scope pos) 0 (.ref I) (.ref D) cenv))
    (W : Walks prog w A I fp [I] n P St) (hIo : ∀ i h, St i h → ∃ o, h.get? I = some o)
    (hSt : ∀ i h h' o nw, St i h → h.get? I = some o → h'.get? I = some o → (∀ b o, h₀.get? b = some o → h'.get? b = some o) → News h₀ L h' nw → S nw → St i h')
    (hbind : ∀ C i v mC s Q E, P i v → St (i + 1) s.heap → (∀ b o, h₀.get? b = some o → s.heap.get? b = some o) → s.heap.Ns C mC →
      (∀ h' tk mC', h'.Ns C mC' → Bd v mC' → (∀ b o, b ≠ C → s.heap.get? b = some o → h'.get? b = some o) → Q () { s with heap := h', toks := tk }) →
      wpAny (model prog w) A (letOwnedTupleGo target (.ref I) v) (fun _ s₁ => wpAny (model prog w) A (assign target (compEnvC scope cl C env) v) Q E s₁) E s)
    (hcell : ∀ y ∈ scope.names, y.2 ≠ .cell) (hkind : scope.kind = .function) (hst : St 0 s₂.heap) (hfp : ∀ b ∈ fp, b < s₂.heap.objs.size)
    (F : Fr h₀ L s₂.heap m) (N : News h₀ L s₂.heap news) (hIL : I ≠ L) (hI₀ : h₀.get? I = none) (off : ∀ p ∈ news, p.1 ≠ I) (hS : S news)
    (R : ∀ C D, I ≠ C → I ≠ D → C ≠ D → Off3 I C D news → CRest prog w A h₀ L m (compEnvC scope cl C env) ifs (emit (compEnvC scope cl C env) (.ref D)) I C D s₂ S P Bd (Fin D) n 0 [] news)
    (hRR : ∀ D C h tk m' ys news', Fr h₀ L h m → News h₀ L h ((D, lst ys) :: news') → Off3 I C D news' → h.Ns C m' → h₀.get? C = none → h₀.get? D = none → C ≠ L → D ≠ L → C ≠ D → S news' → Fin D ys news' → RR (.ref D) C (.ok .next) { s₂ with heap := h, toks := tk }) :
    wpAny (model prog w) A (newList []) (fun acc s₃ => wpAny (model prog w) A (newFunctionEnv scope env.globals cl [] env.qual none .none (some env)) (fun cenv s₄ =>
      codeAny (model prog w) A (.compStart (.ListComp elt (⟨target, iter, ifs, 0⟩ :: rest) scope pos) 0 (.ref I) acc { cenv with scope := relabel scope env }) (RR acc cenv.locals) s₄) E s₃) E s₂ := by
  refine wpAny_newObj_type (wpAny_newFunctionEnv hcell (by intro y hy; simp at hy) (fun h₁ hns₁ hsb₁ => ?_) hkind)
  dsimp only at hns₁ hsb₁ ⊢
  generalize hH2 : s₂.heap.push { cls := .type "list", dict := none, data := .seq ([] : List Value).toArray } = H2 at hns₁ hsb₁ ⊢
  have hC : H2.objs.size = s₂.heap.objs.size + 1 := by rw [← hH2, Heap.size_push]
  have hDC : s₂.heap.objs.size ≠ H2.objs.size := by rw [hC]; exact Nat.ne_of_lt (Nat.lt_succ_self _)
  have below : ∀ b, b < s₂.heap.objs.size → b ≠ H2.objs.size ∧ b ≠ s₂.heap.objs.size := fun b hb => ⟨by rw [hC]; exact Nat.ne_of_lt (Nat.lt_succ_of_lt hb), Nat.ne_of_lt hb⟩
  have hCf : H2.objs.size ∉ fp := fun hm => by have := hfp _ hm; rw [hC] at this; exact Nat.lt_irrefl _ (Nat.lt_of_succ_lt this)
  have hIf : I ∈ fp := W.sub I (List.mem_singleton.mpr rfl)
  have hIlt : I < s₂.heap.objs.size := hfp I hIf
  have old : ∀ b o, s₂.heap.get? b = some o → h₁.get? b = some o := fun b o e => hsb₁.extBut b o (below b (Heap.lt_size e)).1 (Heap.get?_push_of_some _ (hH2 ▸ Heap.get?_push_of_some _ e))
  have hacc : h₁.get? s₂.heap.objs.size = some (lst []) := hsb₁.extBut _ _ hDC (Heap.get?_push_of_some _ (hH2 ▸ Heap.get?_push_size _ rfl))
  have hst₁ : St 0 h₁ := W.frame _ _ _ hst fun b _ o e => old b o e
  have fresh₀ : ∀ a, s₂.heap.objs.size ≤ a → h₀.get? a = none := fun a ha => by
    cases e : h₀.get? a with
    | none => rfl
    | some o' => exact absurd (Heap.lt_size (F.keep a o' e)) (Nat.not_lt.mpr ha)
  have hLlt : L < s₂.heap.objs.size := F.ns.lt
  have off₀ : Off3 I H2.objs.size s₂.heap.objs.size news := Off3.of fun p hp => ⟨off p hp, (below _ (Heap.lt_size (N p hp).1)).1, (below _ (Heap.lt_size (N p hp).1)).2⟩
  have loop : ∀ s₃ : Shared, s₃ = { s₂ with heap := h₁, toks := s₂.toks + ([] : List (Str × Value)).length } →
      codeAny (model prog w) A (.compLoop (.ListComp elt (⟨target, iter, ifs, 0⟩ :: rest) scope pos) 0 (.ref I) (.ref s₂.heap.objs.size) (compEnvC scope cl H2.objs.size env))
        (RR (.ref s₂.heap.objs.size) H2.objs.size) s₃ := by
    rintro s₃ rfl
    refine comp_loop (hturn _ _) rfl rfl rfl W hIo hSt (hbind _) (below I hIlt).1 (below I hIlt).2 (Ne.symm hDC) hCf hIL (Ne.symm (below L hLlt).1) (Ne.symm (below L hLlt).2) hI₀ (fresh₀ _ (by rw [hC]; exact Nat.le_succ _)) (fresh₀ _ (Nat.le_refl _))
      hst₁ (F.keeps old) hns₁ (fun p hp => ?_) off₀ hS (R _ _ (below I hIlt).1 (below I hIlt).2 (Ne.symm hDC) off₀) fun h' tk m' ys' news' F' n' N' off' hS' fin => ?_
    · rcases List.mem_cons.mp hp with rfl | hp
      · exact ⟨hacc, Ne.symm (below L hLlt).2, fresh₀ _ (Nat.le_refl _)⟩
      · exact ⟨old _ _ (N p hp).1, (N p hp).2⟩
    · exact hRR _ _ h' tk m' ys' news' F' N' off' n' (fresh₀ _ (by rw [hC]; exact Nat.le_succ _)) (fresh₀ _ (Nat.le_refl _)) (Ne.symm (below L hLlt).1) (Ne.symm (below L hLlt).2) (Ne.symm hDC) hS' fin
  exact codeAny_compStart_list (loop _ rfl) (W.self 0 _ _ _ hst₁ (loop _ rfl))
end

/-- a list or a tuple -/
noncomputable abbrev seqO (tup : Bool) (its : List Value) (n : Nat) : Obj := { cls := .type (if tup then "tuple" else "list"), data := .seq its.toArray n }
noncomputable def SeqSrc (h₀ : Heap) (ax : Addr) (tup : Bool) (its : List Value) (n : Nat) (news : List (Addr × Obj)) : Prop := h₀.get? ax = some (seqO tup its n) ∨ (ax, seqO tup its n) ∈ news

section
variable {prog : Program} {w : World} {A : Around} {E : Value → Shared → Prop} {s : Shared} {h₀ h : Heap} {L : Addr} {m : Str → Option Value} {env : Env} {news : List (Addr × Obj)}

theorem SeqSrc.get {ax : Addr} {tup : Bool} {its : List Value} {n : Nat} (x : SeqSrc h₀ ax tup its n news) (k : ∀ b o, h₀.get? b = some o → h.get? b = some o) (N : News h₀ L h news) : h.get? ax = some (seqO tup its n) := by
  rcases x with e | hm
  · exact k _ _ e
  · exact (N _ hm).1

noncomputable def ItSt (I ax : Addr) (tup : Bool) (its : List Value) (n : Nat) (i : Nat) (h : Heap) : Prop :=
  (∃ o, h.get? I = some o ∧ o.cls = .type (if tup then "tuple_iterator" else "list_iterator") ∧ o.data = .fields #[.ref ax, .int i 0]) ∧ h.get? ax = some (seqO tup its n)

theorem walks_seq (hh : A.handled = none) (I ax : Addr) (hne : ax ≠ I) (tup : Bool) (its : List Value) (n : Nat) :
    Walks prog w A I [I, ax] [I] its.length (fun i v => its[i]? = some v) (ItSt I ax tup its n) where
  sub := fun b hb => by simp at hb; simp [hb]
  frame := fun _ _ _ st hk => by
    obtain ⟨⟨o, e, r⟩, q⟩ := st
    exact ⟨⟨o, hk I (by simp) o e, r⟩, hk ax (by simp) _ q⟩
  item := fun i s Q E hi st hQ => by
    obtain ⟨⟨o, e, r⟩, q⟩ := st
    cases tup with
    | true =>
      refine next_tuple_item (t := ax) (items := its.toArray) (x := its[i]) ⟨o, e, r⟩ ⟨_, q, rfl, n, rfl⟩ (by simp [hi]) fun h' hit' hs' => ?_
      exact hQ _ h' s.toks (by simp [hi]) ⟨hit', hs'.extBut _ _ hne q⟩ fun b o hb e => hs'.extBut b o (fun h => hb (by simp [h])) e
    | false =>
      refine wpAny_pyNext_list_item (l := ax) (items := its.toArray) (x := its[i]) ⟨o, e, r⟩ ⟨_, q, rfl, n, rfl⟩ (by simp [hi]) fun h' hit' hs' => ?_
      exact hQ _ h' s.toks (by simp [hi]) ⟨hit', hs'.extBut _ _ hne q⟩ fun b o hb e => hs'.extBut b o (fun h => hb (by simp [h])) e
  done := fun s Q E st hQ => by
    obtain ⟨⟨o, e, r⟩, q⟩ := st
    cases tup with
    | true => exact next_tuple_end hh (t := ax) (items := its.toArray) ⟨o, e, r⟩ ⟨_, q, rfl, n, rfl⟩ (by simp) fun h' he' => hQ h' s.toks fun b o hb e => he' b o (fun h => hb (by simp [h])) e
    | false => exact wpAny_pyNext_list_end hh (l := ax) (items := its.toArray) ⟨o, e, r⟩ ⟨_, q, rfl, n, rfl⟩ (by simp) fun h' he' => hQ h' s.toks fun b o hb e => he' b o (fun h => hb (by simp [h])) e
  self := fun i s Q E st hQ => by
    obtain ⟨⟨o, e, r⟩, q⟩ := st
    cases tup with
    | true => exact wpAny_pyIter_tupleiter ⟨o, e, r⟩ hQ
    | false => exact wpAny_pyIter_listiter ⟨o, e, r⟩ hQ

theorem iter_seq {ax : Addr} {tup : Bool} {its : List Value} {n : Nat} {Q : Value → Shared → Prop} (q : s.heap.get? ax = some (seqO tup its n))
    (hQ : ∀ h', h'.objs.size = s.heap.objs.size + 1 → (∀ b o, s.heap.get? b = some o → h'.get? b = some o) → ItSt s.heap.objs.size ax tup its n 0 h' → Q (.ref s.heap.objs.size) { s with heap := h' }) : wpAny (model prog w) A (pyIter (.ref ax)) Q E s := by
  cases tup with
  | true =>
    refine iter_tuple (items := its.toArray) ⟨_, q, rfl, n, rfl⟩ (hQ _ (Heap.size_push ..) (fun b o e => Heap.get?_push_of_some _ e) ⟨⟨_, Heap.get?_push_size _ rfl, rfl, rfl⟩, Heap.get?_push_of_some _ q⟩)
  | false =>
    refine wpAny_pyIter_list (items := its.toArray) ⟨_, q, rfl, n, rfl⟩ (hQ _ (Heap.size_push ..) (fun b o e => Heap.get?_push_of_some _ e) ⟨⟨_, Heap.get?_push_size _ rfl, rfl, rfl⟩, Heap.get?_push_of_some _ q⟩)

theorem itSt_keep {I ax : Addr} {tup : Bool} {its : List Value} {n : Nat} : ∀ i (h h' : Heap) (o : Obj) (nw : List (Addr × Obj)), ItSt I ax tup its n i h → h.get? I = some o → h'.get? I = some o → (∀ b o, h₀.get? b = some o → h'.get? b = some o) → News h₀ L h' nw → SeqSrc h₀ ax tup its n nw → ItSt I ax tup its n i h' :=
  fun i h h' o nw st e e' k N S => by
    obtain ⟨⟨o', q, r⟩, _⟩ := st
    rw [e] at q; cases q
    exact ⟨⟨o, e', r⟩, S.get k N⟩

/-- what a name's clause binds -/
theorem bind_name {x : Str} {px : Pos} {scope : Scope} {cl : List (Str × Addr)} {I C : Addr} {v : Value} {mC : Str → Option Value} {Q : Unit → Shared → Prop} (hkind : scope.kind = .function) (hx : scope.names.lookup x = some .local) (hn : s.heap.Ns C mC)
    (h : ∀ h' tk mC', h'.Ns C mC' → mC' x = some v → (∀ b o, b ≠ C → s.heap.get? b = some o → h'.get? b = some o) → Q () { s with heap := h', toks := tk }) :
    wpAny (model prog w) A (letOwnedTupleGo (.Name x px) (.ref I) v) (fun _ s₁ => wpAny (model prog w) A (assign (.Name x px) (compEnvC scope cl C env) v) Q E s₁) E s := by
  show wpAny _ _ (pure ()) _ _ s
  refine wpAny_pure ?_
  refine wpAny_assign_Name (wpAny_storeName_local (lookup_relabel_local hx) hn (fun h₃ hn₃ hs₃ => ?_) (by simp [compEnvC, relabel, hkind]))
  exact h h₃ _ _ hn₃ (by simp) fun b o hb e => hs₃.extBut b o hb e

theorem bind_pair {x y : Str} {px py tp : Pos} {x1 : Nat} {scope : Scope} {cl : List (Str × Addr)} {I C ax t : Addr} {i nt : Nat} {v₁ v₂ : Value} {mC : Str → Option Value} {Q : Unit → Shared → Prop} (hh : A.handled = none) (hkind : scope.kind = .function)
    (hx : scope.names.lookup x = some .local) (hy : scope.names.lookup y = some .local) (hxy : x ≠ y) (hn : s.heap.Ns C mC) (hit : s.heap.IsListIter I ax i) (ht : s.heap.get? t = some (tupO [v₁, v₂] nt))
    (h : ∀ h' tk mC', h'.Ns C mC' → mC' x = some v₁ → mC' y = some v₂ → (∀ b o, b ≠ C → s.heap.get? b = some o → h'.get? b = some o) → Q () { s with heap := h', toks := tk }) :
    wpAny (model prog w) A (letOwnedTupleGo (.Tuple [.Name x px, .Name y py] x1 tp) (.ref I) (.ref t)) (fun _ s₁ => wpAny (model prog w) A (assign (.Tuple [.Name x px, .Name y py] x1 tp) (compEnvC scope cl C env) (.ref t)) Q E s₁) E s := by
  refine wpAny_letOwnedTupleGo_listiter hit ?_
  refine assign_Tuple_tuple (items := #[v₁, v₂]) hh ⟨_, ht, rfl, nt, rfl⟩ rfl rfl fun h₅ he => ?_
  have he' : ∀ b o, s.heap.get? b = some o → h₅.get? b = some o := fun b o e => he b o (Nat.ne_of_lt (Heap.lt_size e)) e
  refine assignInOrder_cons (wpAny_assign_Name (wpAny_storeName_local (lookup_relabel_local hx) (hn.keeps he') (fun h₆ hn₆ hs₆ => ?_) (by simp [compEnvC, relabel, hkind])))
  refine assignInOrder_cons (wpAny_assign_Name (wpAny_storeName_local (lookup_relabel_local hy) hn₆ (fun h₃ hn₃ hs₃ => ?_) (by simp [compEnvC, relabel, hkind])))
  refine assignInOrder_nil ?_
  exact h h₃ _ _ hn₃ (by simp [hxy]) (by simp) fun b o hb e => hs₃.extBut b o hb (hs₆.extBut b o hb (he' b o e))
end

noncomputable abbrev emitOne (elt : Expr) (cenv : Env) (acc : Value) : Sem PUnit := do let _ ← call (.builtin "list.append") [acc, ← eval elt cenv]

/-- a turn's end -/
noncomputable def CEnd (h₀ : Heap) (L : Addr) (m : Str → Option Value) (I : Addr) (oI : Obj) (C D : Addr) (s₀ : Shared) (S : List (Addr × Obj) → Prop) (ys : List Value) (K : List (Addr × Obj) → Prop) (s₂ : Shared) : Prop :=
  ∃ h' tk' oC' mC' news', s₂ = { s₀ with heap := h', toks := tk' } ∧ Fr h₀ L h' m ∧ NsObj oC' mC' ∧ News h₀ L h' ((I, oI) :: (C, oC') :: (D, lst ys) :: news') ∧ Off3 I C D news' ∧ S news' ∧ K news'

theorem CEnd.intro {h₀ : Heap} {L : Addr} {m : Str → Option Value} {I : Addr} {oI : Obj} {C D : Addr} {s₀ : Shared} {S : List (Addr × Obj) → Prop} {ys : List Value} {K : List (Addr × Obj) → Prop} {h' : Heap} {tk' : Nat} {oC' : Obj} {mC' : Str → Option Value} {all : List (Addr × Obj)}
    (F : Fr h₀ L h' m) (ns : NsObj oC' mC') (N : News h₀ L h' all) (news' : List (Addr × Obj)) (sub : ∀ p ∈ (I, oI) :: (C, oC') :: (D, lst ys) :: news', p ∈ all) (off : Off3 I C D news') (hS : S news') (k : K news') :
    CEnd h₀ L m I oI C D s₀ S ys K { s₀ with heap := h', toks := tk' } := ⟨h', tk', oC', mC', news', rfl, F, ns, fun p hp => N p (sub p hp), off, hS, k⟩

section
variable {prog : Program} {w : World} {A : Around} {E : Value → Shared → Prop} {s : Shared} {h₀ h : Heap} {L : Addr} {m : Str → Option Value} {env cenv : Env} {news : List (Addr × Obj)}
  {I C D : Addr} {S : List (Addr × Obj) → Prop} {P : Nat → Value → Prop} {Bd : Value → (Str → Option Value) → Prop} {Fin : List Value → List (Addr × Obj) → Prop} {k i : Nat} {ys : List Value} {ifs : List Expr}

theorem CRest.one {elt : Expr} (hID : I ≠ D) (hCD : C ≠ D) (hsz : ys.length ≤ sizeLine)
    (h : ∀ v oI oC mC h tk (E' : Value → Shared → Prop), P i v → NsObj oC mC → Bd v mC → Fr h₀ L h m → News h₀ L h ((I, oI) :: (C, oC) :: (D, lst ys) :: news) → Off3 I C D news →
      wpAny (model prog w) A (tests ifs cenv) (fun ok s' =>
        if ok = true then wpAny (model prog w) A (eval elt cenv) (fun y s₂ => CEnd h₀ L m I oI C D s S ys (CRest prog w A h₀ L m cenv ifs (emitOne elt cenv (.ref D)) I C D s S P Bd Fin k (i + 1) (ys ++ [y])) s₂) E' s'
        else CEnd h₀ L m I oI C D s S ys (CRest prog w A h₀ L m cenv ifs (emitOne elt cenv (.ref D)) I C D s S P Bd Fin k (i + 1) ys) s')
        E' { s with heap := h, toks := tk }) :
    CRest prog w A h₀ L m cenv ifs (emitOne elt cenv (.ref D)) I C D s S P Bd Fin (k + 1) i ys news := by
  intro v oI oC mC h₁ tk E' hP hns hB F N off
  refine wpAny_mono (h v oI oC mC h₁ tk E' hP hns hB F N off) (fun ok s' hok => ?_) fun _ _ e => e
  cases ok with
  | false =>
    obtain ⟨h', tk', oC', mC', news', e, F', ns', N', off', hS, kk⟩ := hok
    exact ⟨h', tk', ys, oC', mC', news', e, F', ns', N', off', hS, kk⟩
  | true =>
    simp only [if_true] at hok ⊢
    unfold emitOne
    refine wpAny_bind (wpAny_mono hok (fun y s₂ h₂ => ?_) fun _ _ e => e)
    obtain ⟨h', tk', oC', mC', news', rfl, F', ns', N', off', hS, kk⟩ := h₂
    have zD := N' (D, lst ys) (List.mem_cons_of_mem _ (List.mem_cons_of_mem _ List.mem_cons_self))
    refine wpAny_bind (append_at (hsz := by show ys.toArray.size ≤ sizeLine; rw [List.size_toArray]; exact hsz) zD.1 fun h₅ hs₅ hD₅ => wpAny_pure ?_)
    refine ⟨h₅, tk', ys ++ [y], oC', mC', news', rfl, F'.change hs₅ zD.2.1 zD.2.2, ns', fun p hp => ?_, off', hS, kk⟩
    rcases List.mem_cons.mp hp with rfl | hp
    · have z := N' (I, oI) List.mem_cons_self
      exact ⟨hs₅.extBut _ _ hID z.1, z.2⟩
    · rcases List.mem_cons.mp hp with rfl | hp
      · have z := N' (C, oC') (List.mem_cons_of_mem _ List.mem_cons_self)
        exact ⟨hs₅.extBut _ _ hCD z.1, z.2⟩
      · rcases List.mem_cons.mp hp with rfl | hp
        · exact ⟨hD₅.trans (congrArg some (lst_snoc ys y)), zD.2⟩
        · have z := N' p (List.mem_cons_of_mem _ (List.mem_cons_of_mem _ (List.mem_cons_of_mem _ hp)))
          exact ⟨hs₅.extBut _ _ (off'.mem p hp).2.2 z.1, z.2⟩

theorem CRest.zero {emit : Sem PUnit} (h : Fin ys news) : CRest prog w A h₀ L m cenv ifs emit I C D s S P Bd Fin 0 i ys news := h

noncomputable def FinE (h₀ : Heap) (L : Addr) (m : Str → Option Value) (D : Addr) (s : Shared) (Q : Value → Shared → Prop) (ys : List Value) (news : List (Addr × Obj)) : Prop :=
  ∀ h tk, Fr h₀ L h m → News h₀ L h ((D, lst ys) :: news) → (∀ p ∈ news, p.1 ≠ D) → Q (.ref D) { s with heap := h, toks := tk }
noncomputable def FinA (h₀ : Heap) (L : Addr) (m : Str → Option Value) (D : Addr) (s : Shared) (y : Str) (Q : Flow → Shared → Prop) (ys : List Value) (news : List (Addr × Obj)) : Prop :=
  ∀ h tk, Fr h₀ L h (fun z => if z = y then some (.ref D) else m z) → News h₀ L h ((D, lst ys) :: news) → (∀ p ∈ news, p.1 ≠ D) → Q .next { s with heap := h, toks := tk }

/-- the block of a comprehension behind its source, for both ways of its use -/
theorem block_src {elt target iter : Expr} {rest : List Comprehension} {scope : Scope} {cl : List (Str × Addr)} {pos : Pos} {ax : Addr} {tup : Bool} {its : List Value} {n : Nat} (emit : Env → Value → Sem PUnit)
    (hturn : ∀ I D cenv, compTurn (.ListComp elt (⟨target, iter, ifs, 0⟩ :: rest) scope pos) 0 (.ref I) (.ref D) cenv = turnOf target ifs (.ref I) cenv iter.pos (emit cenv (.ref D)) (.compLoop (.ListComp elt (⟨target, iter, ifs, 0⟩ :: rest) scope pos) 0 (.ref I) (.ref D) cenv))
    (hh : A.handled = none) (F : Fr h₀ L s.heap m) (N : News h₀ L s.heap news) (S : SeqSrc h₀ ax tup its n news) (Fn : Addr → Shared → List Value → List (Addr × Obj) → Prop)
    (hbind : ∀ I C i v mC s Q E, its[i]? = some v → ItSt I ax tup its n (i + 1) s.heap → (∀ b o, h₀.get? b = some o → s.heap.get? b = some o) → s.heap.Ns C mC →
      (∀ h' tk mC', h'.Ns C mC' → Bd v mC' → (∀ b o, b ≠ C → s.heap.get? b = some o → h'.get? b = some o) → Q () { s with heap := h', toks := tk }) →
      wpAny (model prog w) A (letOwnedTupleGo target (.ref I) v) (fun _ s₁ => wpAny (model prog w) A (assign target (compEnvC scope cl C env) v) Q E s₁) E s)
    (hcell : ∀ y ∈ scope.names, y.2 ≠ .cell) (hkind : scope.kind = .function)
    (R : ∀ I C D s₂, (∃ hh tt, s₂ = { s with heap := hh, toks := tt }) → I ≠ C → I ≠ D → C ≠ D → Off3 I C D news → CRest prog w A h₀ L m (compEnvC scope cl C env) ifs (emit (compEnvC scope cl C env) (.ref D)) I C D s₂ (SeqSrc h₀ ax tup its n) (fun i v => its[i]? = some v) Bd (Fn D s₂) its.length 0 [] news)
    {RR : Value → Addr → Result → Shared → Prop}
    (hRR : ∀ D C h tk m' ys news' s₂, (∃ hh tt, s₂ = { s with heap := hh, toks := tt }) → Fr h₀ L h m → News h₀ L h ((D, lst ys) :: news') → (∀ p ∈ news', p.1 ≠ C ∧ p.1 ≠ D) → h.Ns C m' → h₀.get? C = none → h₀.get? D = none → C ≠ L → D ≠ L → C ≠ D → Fn D s₂ ys news' → RR (.ref D) C (.ok .next) { s₂ with heap := h, toks := tk }) :
    wpAny (model prog w) A (pyIter (.ref ax)) (fun it s₂ => wpAny (model prog w) A (newList []) (fun acc s₃ => wpAny (model prog w) A (newFunctionEnv scope env.globals cl [] env.qual none .none (some env)) (fun cenv s₄ =>
      codeAny (model prog w) A (.compStart (.ListComp elt (⟨target, iter, ifs, 0⟩ :: rest) scope pos) 0 it acc { cenv with scope := relabel scope env }) (RR acc cenv.locals) s₄) E s₃) E s₂) E s := by
  have hl := S.get F.keep N
  have hlt : ax < s.heap.objs.size := Heap.lt_size hl
  refine iter_seq hl fun h' hsz' up st => ?_
  refine block_C (Fin := fun D ys nw => Fn D { s with heap := h' } ys nw) (S := SeqSrc h₀ ax tup its n) emit (hturn _) (walks_seq hh s.heap.objs.size ax (Nat.ne_of_lt hlt) tup its n) (fun i h st => by obtain ⟨o, e, _⟩ := st.1; exact ⟨o, e⟩) itSt_keep (hbind _) hcell hkind st (fun b hb => ?_)
    (F.keeps up) (N.grown up) (Ne.symm (Nat.ne_of_lt F.ns.lt)) (next_is_new F) (fun p hp => Nat.ne_of_lt (Heap.lt_size (N p hp).1)) S (fun C D hIC hID hCD off => R _ C D _ ⟨h', s.toks, rfl⟩ hIC hID hCD off) ?_
  · show b < h'.objs.size
    rw [hsz']
    rcases List.mem_cons.mp hb with rfl | hb
    · exact Nat.lt_succ_self _
    · rw [List.mem_singleton.mp hb]; exact Nat.lt_succ_of_lt hlt
  · intro D C h tk m' ys news' F' N' off' hn hC₀ hD₀ hCL hDL hCD _ fin
    exact hRR D C h tk m' ys news' _ ⟨h', s.toks, rfl⟩ F' N' (fun p hp => (off'.mem p hp).2) hn hC₀ hD₀ hCL hDL hCD fin

/-- a comprehension's source, and its turns -/
noncomputable def CSrc (prog : Program) (w : World) (A : Around) (h₀ : Heap) (L : Addr) (m : Str → Option Value) (env : Env) (target : Expr) (scope : Scope) (cl : List (Str × Addr)) (ifs : List Expr) (emit : Env → Value → Sem PUnit) (Fn : Addr → Shared → List Value → List (Addr × Obj) → Prop) (xv : Value) (s₁ : Shared) : Prop :=
  ∃ ax tup its n news Bd, xv = .ref ax ∧ A.handled = none ∧ Fr h₀ L s₁.heap m ∧ News h₀ L s₁.heap news ∧ SeqSrc h₀ ax tup its n news ∧
      (∀ I C i v mC s Q E, its[i]? = some v → ItSt I ax tup its n (i + 1) s.heap → (∀ b o, h₀.get? b = some o → s.heap.get? b = some o) → s.heap.Ns C mC →
        (∀ h' tk mC', h'.Ns C mC' → Bd v mC' → (∀ b o, b ≠ C → s.heap.get? b = some o → h'.get? b = some o) → Q () { s with heap := h', toks := tk }) →
        wpAny (model prog w) A (letOwnedTupleGo target (.ref I) v) (fun _ s₁ => wpAny (model prog w) A (assign target (compEnvC scope cl C env) v) Q E s₁) E s) ∧
      ∀ I C D s₂, (∃ hh tt, s₂ = { s₁ with heap := hh, toks := tt }) → I ≠ C → I ≠ D → C ≠ D → Off3 I C D news →
        CRest prog w A h₀ L m (compEnvC scope cl C env) ifs (emit (compEnvC scope cl C env) (.ref D)) I C D s₂ (SeqSrc h₀ ax tup its n) (fun i v => its[i]? = some v) Bd (Fn D s₂) its.length 0 [] news

theorem CSrc.name {x : Str} {px : Pos} {scope : Scope} {cl : List (Str × Addr)} {emit : Env → Value → Sem PUnit} {Fn : Addr → Shared → List Value → List (Addr × Obj) → Prop} {ax : Addr} {tup : Bool} {its : List Value} {n : Nat}
    (hh : A.handled = none) (F : Fr h₀ L s.heap m) (N : News h₀ L s.heap news) (S : SeqSrc h₀ ax tup its n news) (hkind : scope.kind = .function) (hx : scope.names.lookup x = some .local)
    (R : ∀ I C D s₂, (∃ hh tt, s₂ = { s with heap := hh, toks := tt }) → I ≠ C → I ≠ D → C ≠ D → Off3 I C D news →
        CRest prog w A h₀ L m (compEnvC scope cl C env) ifs (emit (compEnvC scope cl C env) (.ref D)) I C D s₂ (SeqSrc h₀ ax tup its n) (fun i v => its[i]? = some v) (fun v mC => mC x = some v) (Fn D s₂) its.length 0 [] news) :
    CSrc prog w A h₀ L m env (.Name x px) scope cl ifs emit Fn (.ref ax) s :=
  ⟨ax, tup, its, n, news, _, rfl, hh, F, N, S, fun _ _ _ _ _ _ _ _ _ _ _ hn h => bind_name hkind hx hn h, R⟩

theorem CSrc.pair {x y : Str} {px py tp : Pos} {x1 : Nat} {scope : Scope} {cl : List (Str × Addr)} {emit : Env → Value → Sem PUnit} {Fn : Addr → Shared → List Value → List (Addr × Obj) → Prop} {ax : Addr} {its : List Value} {n : Nat}
    (hh : A.handled = none) (F : Fr h₀ L s.heap m) (N : News h₀ L s.heap news) (S : SeqSrc h₀ ax false its n news) (hkind : scope.kind = .function) (hx : scope.names.lookup x = some .local) (hy : scope.names.lookup y = some .local) (hxy : x ≠ y)
    (hits : ∀ v ∈ its, ∃ t v₁ v₂ nt, v = .ref t ∧ h₀.get? t = some (tupO [v₁, v₂] nt))
    (R : ∀ I C D s₂, (∃ hh tt, s₂ = { s with heap := hh, toks := tt }) → I ≠ C → I ≠ D → C ≠ D → Off3 I C D news →
        CRest prog w A h₀ L m (compEnvC scope cl C env) ifs (emit (compEnvC scope cl C env) (.ref D)) I C D s₂ (SeqSrc h₀ ax false its n) (fun i v => its[i]? = some v)
          (fun v mC => ∃ t v₁ v₂ nt, v = .ref t ∧ h₀.get? t = some (tupO [v₁, v₂] nt) ∧ mC x = some v₁ ∧ mC y = some v₂) (Fn D s₂) its.length 0 [] news) :
    CSrc prog w A h₀ L m env (.Tuple [.Name x px, .Name y py] x1 tp) scope cl ifs emit Fn (.ref ax) s :=
  ⟨ax, false, its, n, news, _, rfl, hh, F, N, S, fun I C i v mC s Q E hi st k hn h => by
    obtain ⟨t, v₁, v₂, nt, rfl, ht⟩ := hits v (List.mem_of_getElem? hi)
    obtain ⟨o, e, r⟩ := st.1
    exact bind_pair hh hkind hx hy hxy hn ⟨o, e, r⟩ (k _ _ ht) fun h' tk mC' q1 q2 q3 q4 => h h' tk mC' q1 ⟨t, v₁, v₂, nt, rfl, ht, q2, q3⟩ q4, R⟩

theorem comp_eval {elt target iter : Expr} {rest : List Comprehension} {scope : Scope} {cl : List (Str × Addr)} {pos : Pos} {Q : Value → Shared → Prop} (_F : Fr h₀ L s.heap m) (emit : Env → Value → Sem PUnit)
    (hturn : ∀ I D cenv, compTurn (.ListComp elt (⟨target, iter, ifs, 0⟩ :: rest) scope pos) 0 (.ref I) (.ref D) cenv = turnOf target ifs (.ref I) cenv iter.pos (emit cenv (.ref D)) (.compLoop (.ListComp elt (⟨target, iter, ifs, 0⟩ :: rest) scope pos) 0 (.ref I) (.ref D) cenv))
    (hclos : closureFor scope env = pure cl) (hcell : ∀ y ∈ scope.names, y.2 ≠ .cell) (hkind : scope.kind = .function)
    (hnames : ∀ y ∈ scope.names, y.2 = .local → scope.names.lookup y.1 = some .local)
    (h : wpAny (model prog w) A (eval iter env) (CSrc prog w A h₀ L m env target scope cl ifs emit (fun D s₂ => FinE h₀ L m D s₂ Q)) E s)
    (hs : ∀ x, foldedSetIterable iter env x = pure x := by intro _; rfl) :
    wpAny (model prog w) A (eval (.ListComp elt (⟨target, iter, ifs, 0⟩ :: rest) scope pos) env) Q E s := by
  rw [eval_ListComp]
  refine wpAny_comprehension_free (use := none) rfl hs hclos hkind hnames (wpAny_mono h (fun xv s₁ h₁ => ?_) fun _ _ e => e)
  obtain ⟨ax, tup, its, n, news, Bd, rfl, hh, F, N, S, hB, R⟩ := h₁
  refine block_src (Fn := fun D s₂ => FinE h₀ L m D s₂ Q) emit hturn hh F N S hB hcell hkind R ?_
  rintro D C h tk m' ys news' s₂ ⟨hh, tt, rfl⟩ F' N' off hn hC₀ hD₀ hCL hDL hCD fin
  refine ⟨m', hn, fun h'' hs'' => fin h'' tk (F'.change hs'' hCL hC₀) (fun p hp => ?_) fun p hp => (off p hp).2⟩
  refine ⟨hs''.extBut _ _ ?_ (N' p hp).1, (N' p hp).2⟩
  rcases List.mem_cons.mp hp with rfl | hp
  · exact Ne.symm hCD
  · exact (off p hp).1

theorem comp_assign {elt target iter : Expr} {rest : List Comprehension} {scope : Scope} {cl : List (Str × Addr)} {pos spos py : Pos} {y : Str} {Q : Flow → Shared → Prop} (_F : Fr h₀ L s.heap m) (emit : Env → Value → Sem PUnit) (hLe : env.locals = L)
    (hturn : ∀ I D cenv, compTurn (.ListComp elt (⟨target, iter, ifs, 0⟩ :: rest) scope pos) 0 (.ref I) (.ref D) cenv = turnOf target ifs (.ref I) cenv iter.pos (emit cenv (.ref D)) (.compLoop (.ListComp elt (⟨target, iter, ifs, 0⟩ :: rest) scope pos) 0 (.ref I) (.ref D) cenv))
    (hsw : swapsWith (.ListComp elt (⟨target, iter, ifs, 0⟩ :: rest) scope pos) (some (.Name y py)) spos.line env = pure true)
    (hclos : closureFor scope env = pure cl) (hcell : ∀ y ∈ scope.names, y.2 ≠ .cell) (hkind : scope.kind = .function)
    (hnames : ∀ y ∈ scope.names, y.2 = .local → scope.names.lookup y.1 = some .local)
    (hy : env.kindOf y = some .local) (hp : (env.scope.kind == .class || (env.scope.kind == .module && env.locals != env.globals)) = false)
    (h : wpAny (model prog w) A (eval iter env) (CSrc prog w A h₀ L m env target scope cl ifs emit (fun D s₂ => FinA h₀ L m D s₂ y Q)) E s)
    (hs : ∀ x, foldedSetIterable iter env x = pure x := by intro _; rfl) :
    wpAny (model prog w) A (exec (.Assign [.Name y py] (.ListComp elt (⟨target, iter, ifs, 0⟩ :: rest) scope pos) spos) env) Q E s := by
  subst hLe
  rw [exec_Assign_Name_used _ _ _ _ hsw]
  refine wpAny_bind (wpAny_standAt (wpAny_bind ?_))
  show wpAny _ A (do let _ ← comprehension (.ListComp elt (⟨target, iter, ifs, 0⟩ :: rest) scope pos) scope env _ (newList []) false (eval iter env) (some (assign (.Name y py) env))) _ _ s
  refine wpAny_bind (wpAny_mono (wpAny_comprehension_free (use := some (assign (.Name y py) env)) (Q := fun _ s' => Q .next s') rfl hs hclos hkind hnames
    (wpAny_mono h (fun xv s₁ h₁ => ?_) fun _ _ e => e)) (fun _ s' hq => wpAny_pure (wpAny_pure hq)) fun _ _ e => e)
  obtain ⟨ax, tup, its, n, news, Bd, rfl, hh, F, N, S, hB, R⟩ := h₁
  refine block_src (Fn := fun D s₂ => FinA h₀ env.locals m D s₂ y Q) emit hturn hh F N S hB hcell hkind R ?_
  rintro D C h tk m' ys news' s₂ ⟨hh, tt, rfl⟩ F' N' off hn hC₀ hD₀ hCL hDL hCD fin
  show wpAny _ A (assign (.Name y py) env (.ref D)) _ _ _
  refine wpAny_assign_Name (wpAny_storeName_local hy F'.ns (fun h₂ hn₂ hs₂ => ?_) hp)
  have hL₀ : h₀.get? env.locals = none := Heap.get?_none_of_le F'.above
  have F₂ : Fr h₀ env.locals h₂ (fun z => if z = y then some (.ref D) else m z) := ⟨hn₂, fun b o e => hs₂.extBut b o (fun q => by rw [q, hL₀] at e; cases e) (F'.keep b o e), F'.above⟩
  refine ⟨m', hn.sameBut hs₂ hCL, fun h'' hs'' => fin h'' _ (F₂.change hs'' hCL hC₀) (fun p hp => ?_) fun p hp => (off p hp).2⟩
  have z : h₂.get? p.1 = some p.2 := hs₂.extBut _ _ (N' p hp).2.1 (N' p hp).1
  refine ⟨hs''.extBut _ _ ?_ z, (N' p hp).2⟩
  rcases List.mem_cons.mp hp with rfl | hp
  · exact Ne.symm hCD
  · exact (off p hp).1
end

theorem off_app {I C D : Addr} {oI oC oD : Obj} {nw tl : List (Addr × Obj)} (h : Off3 I C D nw) (hne : ∀ q ∈ (I, oI) :: (C, oC) :: (D, oD) :: nw, ∀ p ∈ tl, p.1 ≠ q.1) : Off3 I C D (nw ++ tl) := by
  refine Off3.of fun p hp => ?_
  rcases List.mem_append.mp hp with hp | hp
  · exact h.mem p hp
  · exact ⟨hne _ (.head _) p hp, hne _ (.tail _ (.head _)) p hp, hne _ (.tail _ (.tail _ (.head _))) p hp⟩
end Mine
namespace Mine

/-- a for loop's turn has ended -/
noncomputable def FEnd (h₀ : Heap) (L I : Addr) (oI : Obj) (s : Shared) (S : List (Addr × Obj) → Prop) (K : (Str → Option Value) → List (Addr × Obj) → Prop) (Q : Flow → Shared → Prop) (f : Flow) (s₃ : Shared) : Prop := match f with
  | .next => ∃ h' tk' m' news', s₃ = { s with heap := h', toks := tk' } ∧ Fr h₀ L h' m' ∧ News h₀ L h' ((I, oI) :: news') ∧ (∀ p ∈ news', p.1 ≠ I) ∧ S news' ∧ K m' news'
  | .cont => ∃ h' tk' m' news', s₃ = { s with heap := h', toks := tk' } ∧ Fr h₀ L h' m' ∧ News h₀ L h' ((I, oI) :: news') ∧ (∀ p ∈ news', p.1 ≠ I) ∧ S news' ∧ K m' news'
  | .brk => Q .next s₃
  | .ret v => Q (.ret v) s₃

theorem FEnd.next {h₀ : Heap} {L I : Addr} {oI : Obj} {s : Shared} {S : List (Addr × Obj) → Prop} {K : (Str → Option Value) → List (Addr × Obj) → Prop} {Q : Flow → Shared → Prop} {h' : Heap} {tk' : Nat} {m' : Str → Option Value} {all : List (Addr × Obj)}
    (F : Fr h₀ L h' m') (N : News h₀ L h' all) (news' : List (Addr × Obj)) (sub : ∀ p ∈ (I, oI) :: news', p ∈ all) (off : ∀ p ∈ news', p.1 ≠ I) (hS : S news') (k : K m' news') :
    FEnd h₀ L I oI s S K Q .next { s with heap := h', toks := tk' } := ⟨h', tk', m', news', rfl, F, fun p hp => N p (sub p hp), off, hS, k⟩

/-- what is left of a for loop: k turns -/
noncomputable def FRest (prog : Program) (w : World) (A : Around) (h₀ : Heap) (L : Addr) (env : Env) (target : Expr) (body : List Stmt) (I : Addr) (s : Shared) (S : List (Addr × Obj) → Prop) (P : Nat → Value → Prop) (Q : Flow → Shared → Prop) :
    Nat → Nat → (Str → Option Value) → List (Addr × Obj) → Prop
  | 0, _, m, news => ∀ h tk, Fr h₀ L h m → News h₀ L h news → (∀ p ∈ news, p.1 ≠ I) → Q .next { s with heap := h, toks := tk }
  | k + 1, i, m, news => ∀ v oI h tk (E' : Value → Shared → Prop), P i v → Fr h₀ L h m → News h₀ L h ((I, oI) :: news) → (∀ p ∈ news, p.1 ≠ I) →
      wpAny (model prog w) A (assign target env v) (fun _ s₂ => wpAny (model prog w) A (execs body env)
        (FEnd h₀ L I oI s S (FRest prog w A h₀ L env target body I s S P Q k (i + 1)) Q) E' s₂) E' { s with heap := h, toks := tk }

section
variable {prog : Program} {w : World} {A : Around} {E : Value → Shared → Prop} {s : Shared} {h₀ h : Heap} {L I : Addr} {m : Str → Option Value} {env : Env} {news : List (Addr × Obj)} {target iter : Expr} {body : List Stmt}
  {S : List (Addr × Obj) → Prop} {P : Nat → Value → Prop} {Q : Flow → Shared → Prop}

theorem letOwned_quiet {it : Addr} {o : Obj} {c : String} {vs : Array Value} {v : Value} {Q : Unit → Shared → Prop} (ho : s.heap.get? it = some o) (hc : o.cls = .type c) (hd : o.data = .fields vs)
    (hq : ["enumerate", "zip", "dict_itemiterator", "dict_reverseitemiterator", "odict_iterator", "itertools.zip_longest", "itertools.pairwise"].contains c = false) (h : Q () s) :
    wpAny (model prog w) A (letOwnedTupleGo target (.ref it) v) Q E s := by
  cases target
  case Tuple =>
    cases v
    case ref =>
      unfold letOwnedTupleGo
      refine wpAny_bind (wpAny_load ho ?_)
      rw [hc, hd]
      show wpAny _ A (if (["enumerate", "zip", "dict_itemiterator", "dict_reverseitemiterator", "odict_iterator", "itertools.zip_longest", "itertools.pairwise"].contains c && _) = true then _ else _) _ _ s
      rw [hq]
      exact wpAny_pure h
    all_goals exact wpAny_pure h
  case List =>
    cases v
    case ref =>
      unfold letOwnedTupleGo
      refine wpAny_bind (wpAny_load ho ?_)
      rw [hc, hd]
      show wpAny _ A (if (["enumerate", "zip", "dict_itemiterator", "dict_reverseitemiterator", "odict_iterator", "itertools.zip_longest", "itertools.pairwise"].contains c && _) = true then _ else _) _ _ s
      rw [hq]
      exact wpAny_pure h
    all_goals exact wpAny_pure h
  all_goals exact wpAny_pure h

theorem for_loop {R : Result → Shared → Prop} {fp : List Addr} {n : Nat} {St : Nat → Heap → Prop} {h₁ : Heap} {t₁ : Nat} (W : Walks prog w A I fp [I] n P St)
    (hIo : ∀ i h, St i h → ∃ o c vs, h.get? I = some o ∧ o.cls = .type c ∧ o.data = .fields vs ∧ ["enumerate", "zip", "dict_itemiterator", "dict_reverseitemiterator", "odict_iterator", "itertools.zip_longest", "itertools.pairwise"].contains c = false)
    (hSt : ∀ i h h' o nw, St i h → h.get? I = some o → h'.get? I = some o → (∀ b o, h₀.get? b = some o → h'.get? b = some o) → News h₀ L h' nw → S nw → St i h')
    (hIL : I ≠ L) (hI₀ : h₀.get? I = none) (hst : St 0 h₁) (F : Fr h₀ L h₁ m) (N : News h₀ L h₁ news) (off : ∀ p ∈ news, p.1 ≠ I) (hS : S news)
    (hR : ∀ f s', Q f s' → R (.ok f) s')
    (R' : FRest prog w A h₀ L env target body I s S P Q n 0 m news) :
    codeAny (model prog w) A (.forLoop target (.ref I) body [] env) R { s with heap := h₁, toks := t₁ } := by
  refine codeAny_forLoop_any
    (fun k s' => ∃ h' tk i m' news', s' = { s with heap := h', toks := tk } ∧ i ≤ n ∧ k = n + 1 - i ∧ St i h' ∧ Fr h₀ L h' m' ∧ News h₀ L h' news' ∧ (∀ p ∈ news', p.1 ≠ I) ∧ S news' ∧
      FRest prog w A h₀ L env target body I s S P Q (n - i) i m' news') ?_ (n + 1)
    ⟨h₁, t₁, 0, m, news, rfl, Nat.zero_le _, rfl, hst, F, N, off, hS, R'⟩
  rintro k s' ⟨h', tk, i, m', news', rfl, hi, rfl, hst', F', N', off', hS', R'⟩
  by_cases hlt : i < n
  · obtain ⟨j, hj⟩ : ∃ j, n - i = j + 1 := ⟨n - i - 1, by omega⟩
    rw [hj] at R'
    refine W.item i _ _ _ hlt hst' fun v h₂ tk₂ hPv hst₂ hk₂ => ?_
    have hk₂' : ∀ b o, b ≠ I → h'.get? b = some o → h₂.get? b = some o := fun b o hb e => hk₂ b o (by simpa using hb) e
    have F₂ : Fr h₀ L h₂ m' := ⟨F'.ns.at' fun o e => hk₂' L o (Ne.symm hIL) e, fun b o e => hk₂' b o (fun q => by rw [q, hI₀] at e; cases e) (F'.keep b o e), F'.above⟩
    obtain ⟨oI, c, vs, heI, hc, hd, hq⟩ := hIo _ _ hst₂
    have N₂ : News h₀ L h₂ ((I, oI) :: news') := fun p hp => by
      rcases List.mem_cons.mp hp with rfl | hp
      · exact ⟨heI, hIL, hI₀⟩
      · exact ⟨hk₂' _ _ (off' p hp) (N' p hp).1, (N' p hp).2⟩
    refine letOwned_quiet heI hc hd hq ?_
    refine wpAny_mono (R' v oI h₂ tk₂ _ hPv F₂ N₂ off') (fun _ s₂ h₂ => wpAny_mono h₂ (fun f s₃ h₃ => ?_) fun _ _ e => e) fun _ _ e => e
    have next : ∀ s₃, (∃ h' tk' m' news', s₃ = { s with heap := h', toks := tk' } ∧ Fr h₀ L h' m' ∧ News h₀ L h' ((I, oI) :: news') ∧ (∀ p ∈ news', p.1 ≠ I) ∧ S news' ∧ FRest prog w A h₀ L env target body I s S P Q j (i + 1) m' news') →
        ∃ m₁, m₁ < n + 1 - i ∧ ∃ h' tk i m' news', s₃ = { s with heap := h', toks := tk } ∧ i ≤ n ∧ m₁ = n + 1 - i ∧ St i h' ∧ Fr h₀ L h' m' ∧ News h₀ L h' news' ∧ (∀ p ∈ news', p.1 ≠ I) ∧ S news' ∧
          FRest prog w A h₀ L env target body I s S P Q (n - i) i m' news' := by
      rintro s₃ ⟨h₄, tk₄, m₄, news₄, rfl, F₄, N₄, off₄, hS₄, R₄⟩
      have zI := (N₄ (I, oI) List.mem_cons_self).1
      have N₄' : News h₀ L h₄ news₄ := fun p hp => N₄ p (List.mem_cons_of_mem _ hp)
      refine ⟨n + 1 - (i + 1), by omega, h₄, tk₄, i + 1, m₄, news₄, rfl, hlt, rfl, hSt _ _ _ _ _ hst₂ heI zI F₄.keep N₄' hS₄, F₄, N₄', off₄, hS₄, ?_⟩
      rw [show n - (i + 1) = j by omega]
      exact R₄
    cases f with
    | next => exact next _ h₃
    | cont => exact next _ h₃
    | brk => exact hR _ _ h₃
    | ret v => exact hR _ _ h₃
  · obtain rfl : i = n := Nat.le_antisymm hi (Nat.not_lt.mp hlt)
    rw [Nat.sub_self] at R'
    refine W.done _ _ _ hst' fun h₂ tk₂ hk₂ => wpAny_execs_nil ?_
    have hk₂' : ∀ b o, b ≠ I → h'.get? b = some o → h₂.get? b = some o := fun b o hb e => hk₂ b o (by simpa using hb) e
    exact hR _ _ (R' h₂ tk₂ ⟨F'.ns.at' fun o e => hk₂' L o (Ne.symm hIL) e, fun b o e => hk₂' b o (fun q => by rw [q, hI₀] at e; cases e) (F'.keep b o e), F'.above⟩
      (fun p hp => ⟨hk₂' _ _ (off' p hp) (N' p hp).1, (N' p hp).2⟩) off')

/-- a for loop's source -/
noncomputable def FSrc (prog : Program) (w : World) (A : Around) (h₀ : Heap) (L : Addr) (m : Str → Option Value) (env : Env) (target : Expr) (body : List Stmt) (Q : Flow → Shared → Prop) (xv : Value) (s₁ : Shared) : Prop :=
  (∃ ax tup its n news, xv = .ref ax ∧ A.handled = none ∧ Fr h₀ L s₁.heap m ∧ News h₀ L s₁.heap news ∧ SeqSrc h₀ ax tup its n news ∧
    ∀ I, (∀ p ∈ news, p.1 ≠ I) → FRest prog w A h₀ L env target body I s₁ (SeqSrc h₀ ax tup its n) (fun i v => its[i]? = some v) Q its.length 0 m news) ∨
  (∃ r a b t u v n news, xv = .ref r ∧ A.handled = none ∧ Fr h₀ L s₁.heap m ∧ News h₀ L s₁.heap news ∧ IsRange s₁.heap r a b 1 t u v ∧ Builtin.Range.small a b 1 = true ∧ Builtin.Range.rangeSize a b 1 = ((n : Nat) : Int) ∧
    ∀ I, (∀ p ∈ news, p.1 ≠ I) → FRest prog w A h₀ L env target body I s₁ (fun _ => True) (fun i v => ∃ t, v = .int (a + (i : Int)) t) Q n 0 m news)

theorem FSrc.seq {ax : Addr} {tup : Bool} {its : List Value} {n : Nat} (hh : A.handled = none) (F : Fr h₀ L s.heap m) (N : News h₀ L s.heap news) (S : SeqSrc h₀ ax tup its n news)
    (R : ∀ I, (∀ p ∈ news, p.1 ≠ I) → FRest prog w A h₀ L env target body I s (SeqSrc h₀ ax tup its n) (fun i v => its[i]? = some v) Q its.length 0 m news) :
    FSrc prog w A h₀ L m env target body Q (.ref ax) s := .inl ⟨ax, tup, its, n, news, rfl, hh, F, N, S, R⟩
theorem FSrc.range {r : Addr} {a b : Int} {t u v : Tok} {n : Nat} (hh : A.handled = none) (F : Fr h₀ L s.heap m) (N : News h₀ L s.heap news) (hr : IsRange s.heap r a b 1 t u v) (hsm : Builtin.Range.small a b 1 = true) (hn : Builtin.Range.rangeSize a b 1 = ((n : Nat) : Int))
    (R : ∀ I, (∀ p ∈ news, p.1 ≠ I) → FRest prog w A h₀ L env target body I s (fun _ => True) (fun i v => ∃ t, v = .int (a + (i : Int)) t) Q n 0 m news) :
    FSrc prog w A h₀ L m env target body Q (.ref r) s := .inr ⟨r, a, b, t, u, v, n, news, rfl, hh, F, N, hr, hsm, hn, R⟩

theorem for_rule {pos : Pos} (_F : Fr h₀ L s.heap m) (h : wpAny (model prog w) A (eval iter env) (FSrc prog w A h₀ L m env target body Q) E s)
    (hs : ∀ x, foldedSetIterable iter env x = pure x := by intro _; rfl) :
    wpAny (model prog w) A (exec (.For target iter body [] pos) env) Q E s := by
  refine wpAny_For (wpAny_mono h (fun xv s₁ h₁ => ?_) fun _ _ e => e) hs
  rcases h₁ with ⟨ax, tup, its, n, news, rfl, hh, F, N, S, R⟩ | ⟨r, a, b, t, u, v, n, news, rfl, hh, F, N, hr, hsm, hn, R⟩
  · have hl := S.get F.keep N
    have hlt : ax < s₁.heap.objs.size := Heap.lt_size hl
    refine iter_seq hl fun h' hsz' up st => ?_
    refine for_loop (walks_seq hh s₁.heap.objs.size ax (Nat.ne_of_lt hlt) tup its n) (fun i h st => ?_) itSt_keep (Ne.symm (Nat.ne_of_lt F.ns.lt)) (next_is_new F) st (F.keeps up) (N.grown up) (fun p hp => Nat.ne_of_lt (Heap.lt_size (N p hp).1)) S (fun f s' q => q)
      (R _ fun p hp => Nat.ne_of_lt (Heap.lt_size (N p hp).1))
    obtain ⟨⟨o, e, hc, hd⟩, _⟩ := st
    exact ⟨o, _, _, e, hc, hd, by cases tup <;> decide⟩
  · refine wpAny_pyIter_range hr hsm ?_
    refine for_loop (LCg.range_walks hh a n) (fun i h st => ?_) LCg.range_st (Ne.symm (Nat.ne_of_lt F.ns.lt)) (next_is_new F) (by show IsRangeIter _ _ _ _ _; rw [hn]; simpa using Heap.get?_push_size _ rfl)
      (F.keeps fun _ _ e => Heap.get?_push_of_some _ e) (N.grown fun _ _ e => Heap.get?_push_of_some _ e) (fun p hp => Nat.ne_of_lt (Heap.lt_size (N p hp).1)) trivial (fun f s' q => q) (R _ fun p hp => Nat.ne_of_lt (Heap.lt_size (N p hp).1))
    exact ⟨_, _, _, st, rfl, rfl, by decide⟩
end

section
variable {prog : Program} {w : World} {A : Around} {E : Value → Shared → Prop} {s : Shared} {h₀ h : Heap} {L I : Addr} {oI : Obj} {m : Str → Option Value} {env : Env} {news : List (Addr × Obj)} {target iter : Expr} {body : List Stmt}
  {S : List (Addr × Obj) → Prop} {P : Nat → Value → Prop} {Q : Flow → Shared → Prop} {k i : Nat}
theorem FRest.zero (h : ∀ h tk, Fr h₀ L h m → News h₀ L h news → (∀ p ∈ news, p.1 ≠ I) → Q .next { s with heap := h, toks := tk }) : FRest prog w A h₀ L env target body I s S P Q 0 i m news := h
theorem FRest.succ (h : ∀ v oI h tk (E' : Value → Shared → Prop), P i v → Fr h₀ L h m → News h₀ L h ((I, oI) :: news) → (∀ p ∈ news, p.1 ≠ I) →
      wpAny (model prog w) A (assign target env v) (fun _ s₂ => wpAny (model prog w) A (execs body env)
        (FEnd h₀ L I oI s S (FRest prog w A h₀ L env target body I s S P Q k (i + 1)) Q) E' s₂) E' { s with heap := h, toks := tk }) : FRest prog w A h₀ L env target body I s S P Q (k + 1) i m news := h
variable {K : (Str → Option Value) → List (Addr × Obj) → Prop} {h' : Heap} {tk' : Nat} {m' : Str → Option Value}
theorem FEnd.next1 {q : Addr × Obj} {rest : List (Addr × Obj)} (F : Fr h₀ L h' m') (N : News h₀ L h' (q :: (I, oI) :: rest)) (off : ∀ p ∈ q :: rest, p.1 ≠ I) (hS : S (q :: rest)) (k : K m' (q :: rest)) :
    FEnd h₀ L I oI s S K Q .next { s with heap := h', toks := tk' } := FEnd.next F N (q :: rest) (fun p hp => by simp only [List.mem_cons] at hp ⊢; grind) off hS k
theorem FEnd.next2 {q r : Addr × Obj} {rest : List (Addr × Obj)} (F : Fr h₀ L h' m') (N : News h₀ L h' (q :: r :: (I, oI) :: rest)) (off : ∀ p ∈ q :: r :: rest, p.1 ≠ I) (hS : S (q :: r :: rest)) (k : K m' (q :: r :: rest)) :
    FEnd h₀ L I oI s S K Q .next { s with heap := h', toks := tk' } := FEnd.next F N (q :: r :: rest) (fun p hp => by simp only [List.mem_cons] at hp ⊢; grind) off hS k
end

theorem ROut.list_inv {D : Addr → Obj → Prop} {tl : List (Addr × Obj)} {r : Value} {ds : List PyData} (h : ROut D tl r (.list ds)) : ∃ a vs n, r = .ref a ∧ (a, lstO vs n) ∈ tl ∧ RdAll (AndL D tl) vs ds := h
theorem RdAll.two_int {D : Addr → Obj → Prop} {vs : List Value} {d : PyData} {k : Int} (h : RdAll D vs [d, .int k]) : ∃ u t, vs = [u, .int k t] ∧ Rd D u d := by
  obtain ⟨u, u', rfl, h1, h2⟩ := h.two
  obtain ⟨t, rfl⟩ := h2.int_inv
  exact ⟨u, t, rfl, h1⟩

/-- all addresses of the ledger are other than d -/
noncomputable def Ap (d : Nat) : List (Addr × Obj) → Prop
  | [] => True
  | p :: r => (@Ne Nat p.1 d) ∧ Ap d r
theorem Ap.of {d : Addr} : ∀ {l : List (Addr × Obj)}, (∀ p ∈ l, p.1 ≠ d) → Ap d l
  | [], _ => trivial
  | _ :: _, h => ⟨h _ List.mem_cons_self, Ap.of fun p hp => h p (List.mem_cons_of_mem _ hp)⟩
theorem Ap.all {d : Addr} : ∀ {l : List (Addr × Obj)}, Ap d l → ∀ p ∈ l, p.1 ≠ d
  | [], _, _, hp => nomatch hp
  | _ :: _, h, p, hp => by
    rcases List.mem_cons.mp hp with rfl | hp
    · exact h.1
    · exact h.2.all p hp
theorem Ap.app {d : Addr} {l r : List (Addr × Obj)} : Ap d (l ++ r) ↔ Ap d l ∧ Ap d r := by
  induction l with
  | nil => simp [Ap]
  | cons p l ih => simp only [List.cons_append, Ap, ih, and_assoc]

theorem ROut.listE {D : Addr → Obj → Prop} {tl : List (Addr × Obj)} {a : Addr} {vs : List Value} {n : Nat} {ds : List PyData} (hm : (a, lstO vs n) ∈ tl) (h : RdAll (AndL D tl) vs ds) : ROut D tl (.ref a) (.list ds) := ⟨a, vs, n, rfl, hm, h⟩

theorem my_add {prog : Program} {w : World} {A : Around} {E : Value → Shared → Prop} {s : Shared} {h₀ : Heap} {L l b : Addr} {m : Str → Option Value} {news : List (Addr × Obj)} {vs ws : List Value} {n₁ n₂ : Nat} {Q : Value → Shared → Prop} (F : Fr h₀ L s.heap m) (N : News h₀ L s.heap news)
    (hl : (l, lstO vs n₁) ∈ news) (hb : (b, lstO ws n₂) ∈ news) (hsz : vs.length + ws.length ≤ sizeLine)
    (h : ∀ r h', Fr h₀ L h' m → News h₀ L h' ((r, lstO (vs ++ ws) 0) :: news) → (∀ p ∈ news, p.1 < r) → Q (.ref r) { s with heap := h' }) :
    wpAny (model prog w) A (binaryOp .Add (.ref l) (.ref b)) Q E s :=
  add_lists F N ⟨_, N.get hl, rfl, _, rfl⟩ ⟨_, N.get hb, rfl, _, rfl⟩ (fun h' F' N' => h _ h' F' N' fun p hp => Heap.lt_size (N p hp).1) hsz
end Mine
namespace Mine
open LCg (NsObj ns_obj lst lst_snoc Off3)
section
variable {prog : Program} {w : World} {A : Around} {E : Value → Shared → Prop} {s : Shared} {h₀ : Heap} {L : Addr} {m : Str → Option Value} {news : List (Addr × Obj)}

theorem slicePart_any {v : Value} {o : Option Int} {Q : Option Int → Shared → Prop} (p : IsPart v o) (h : Q o s) : wpAny (model prog w) A (Builtin.Slice.slicePartIndex v) Q E s := by
  cases p with
  | none => exact slicePart_none h
  | int i t => exact slicePart_int h

theorem sliceApplied_gen {sl : Addr} {va vb vc : Value} {lo hi st : Option Int} {n : Nat} {Q : Int × Int × Nat → Shared → Prop} (hs : s.heap.IsSliceOf sl va vb vc) (pa : IsPart va lo) (pb : IsPart vb hi) (pc : IsPart vc st) (h0 : (st.getD 1 == 0) = false)
    (h : Q ((Builtin.Slice.sliceAdjust lo hi (st.getD 1) (n : Int)).1, st.getD 1, Builtin.Slice.slicePlaces (Builtin.Slice.sliceAdjust lo hi (st.getD 1) (n : Int)).1 (Builtin.Slice.sliceAdjust lo hi (st.getD 1) (n : Int)).2 (st.getD 1)) s) :
    wpAny (model prog w) A (Builtin.Slice.sliceApplied (.ref sl) (pure (n : Int))) Q E s := by
  obtain ⟨os, hos, hcs, hds⟩ := id hs
  unfold Builtin.Slice.sliceApplied Builtin.Slice.sliceFields
  refine wpAny_bind (wpAny_bind (wpAny_field hos hds (x := va) rfl (wpAny_bind (wpAny_field hos hds (x := vb) rfl (wpAny_bind (wpAny_field hos hds (x := vc) rfl (wpAny_pure ?_)))))))
  refine wpAny_bind (slicePart_any pc ?_)
  show wpAny _ _ (if (st.getD 1 == 0) = true then _ else _) _ _ s
  rw [if_neg (by rw [h0]; exact Bool.false_ne_true)]
  refine wpAny_bind (slicePart_any pa (wpAny_bind (slicePart_any pb (wpAny_bind (wpAny_pure ?_)))))
  show wpAny _ _ (match Builtin.Slice.sliceAdjust lo hi (st.getD 1) (n : Int) with | (lo, hi) => pure (lo, st.getD 1, Builtin.Slice.slicePlaces lo hi (st.getD 1))) _ _ s
  exact wpAny_pure h

theorem getItem_tuple_slice {t sl : Addr} {items : List Value} {va vb vc : Value} {lo hi st : Option Int} {zs : List Value} {Q : Value → Shared → Prop} (ht : IsTup s.heap t items.toArray) (hs : s.heap.IsSliceOf sl va vb vc) (pa : IsPart va lo) (pb : IsPart vb hi) (pc : IsPart vc st)
    (h0 : (st.getD 1 == 0) = false)
    (hno : ((Builtin.Slice.sliceAdjust lo hi (st.getD 1) (items.length : Int)).1 == 0 && st.getD 1 == 1 && Builtin.Slice.slicePlaces (Builtin.Slice.sliceAdjust lo hi (st.getD 1) (items.length : Int)).1 (Builtin.Slice.sliceAdjust lo hi (st.getD 1) (items.length : Int)).2 (st.getD 1) == items.length) = false)
    (hz : ((List.range (Builtin.Slice.slicePlaces (Builtin.Slice.sliceAdjust lo hi (st.getD 1) (items.length : Int)).1 (Builtin.Slice.sliceAdjust lo hi (st.getD 1) (items.length : Int)).2 (st.getD 1))).filterMap fun (k : Nat) => items[((Builtin.Slice.sliceAdjust lo hi (st.getD 1) (items.length : Int)).1 + (k : Int) * (st.getD 1)).toNat]?) = zs)
    (hsz : zs.length ≤ sizeLine)
    (h : Q (.ref s.heap.objs.size) { s with heap := s.heap.push { cls := .type "tuple", data := .seq zs.toArray } }) : wpAny (model prog w) A (getItem (.ref t) (.ref sl)) Q E s := by
  have hdrop : sizeOk (.seq zs.toArray) := by
    show zs.toArray.size ≤ sizeLine
    rw [List.size_toArray]; exact hsz
  obtain ⟨os, hos, hcs, hds⟩ := id hs
  have hTs : s.TypeIs (.ref sl) "slice" := ⟨os, hos, hcs⟩
  unfold getItem
  try with_reducible refine wpAny_holding ?_
  first | refine wpAny_bind (wpAny_pure ?_) | skip
  refine wpAny_bind (wpAny_sequenceKey ht.typeIs (by decide) ?_)
  refine wpAny_bind (wpAny_callSpecial?_slot (name := Str.ofString "__getitem__") ht.typeIs slot_tuple_getitem
    (wpAny_call_entry slot_tuple_getitem ht.typeIs entry_tuple_getitem ?_ (args_tuple_getitem _ _)))
  show wpAny _ _ (Builtin.Tuple.tupleItemsOf (.ref t) >>= _) _ _ s
  refine wpAny_bind (tupleItemsOf_ ht ?_)
  refine wpAny_bind (wpAny_typeOf hTs ?_)
  rw [if_pos (by decide)]
  have hsize : (items.toArray.size : Int) = (items.length : Int) := by rw [List.size_toArray]
  refine wpAny_bind (sliceApplied_gen (n := items.length) hs pa pb pc h0 ?_)
  show wpAny _ _ (if (_ == 0 && _ == 1 && _ == items.toArray.size) = true then _ else _) _ _ s
  rw [List.size_toArray, if_neg (by rw [hno]; exact Bool.false_ne_true)]
  have e : ((List.range (Builtin.Slice.slicePlaces (Builtin.Slice.sliceAdjust lo hi (st.getD 1) (items.length : Int)).1 (Builtin.Slice.sliceAdjust lo hi (st.getD 1) (items.length : Int)).2 (st.getD 1))).filterMap fun (k : Nat) => items.toArray[((Builtin.Slice.sliceAdjust lo hi (st.getD 1) (items.length : Int)).1 + (k : Int) * (st.getD 1)).toNat]?) = zs := by
    simpa using hz
  rw [e]
  exact wpAny_bind (m := Builtin.Tuple.tupleExact _) (wpAny_newObj_type (wpAny_bind (wpAny_pure (wpAny_pure ⟨_, rfl, wpAny_pure h⟩))) hdrop)

theorem slice_tuple {value slice : Expr} {t : Addr} {items : List Value} {va vb vc : Value} {lo hi st : Option Int} {zs : List Value} {ops : List Value} {Q : Value → Shared → Prop}
    (F : Fr h₀ L s.heap m) (N : News h₀ L s.heap news) (ht : IsTup s.heap t items.toArray) (pa : IsPart va lo) (pb : IsPart vb hi) (pc : IsPart vc st)
    (h0 : (st.getD 1 == 0) = false)
    (hno : ((Builtin.Slice.sliceAdjust lo hi (st.getD 1) (items.length : Int)).1 == 0 && st.getD 1 == 1 && Builtin.Slice.slicePlaces (Builtin.Slice.sliceAdjust lo hi (st.getD 1) (items.length : Int)).1 (Builtin.Slice.sliceAdjust lo hi (st.getD 1) (items.length : Int)).2 (st.getD 1) == items.length) = false)
    (hz : ((List.range (Builtin.Slice.slicePlaces (Builtin.Slice.sliceAdjust lo hi (st.getD 1) (items.length : Int)).1 (Builtin.Slice.sliceAdjust lo hi (st.getD 1) (items.length : Int)).2 (st.getD 1))).filterMap fun (k : Nat) => items[((Builtin.Slice.sliceAdjust lo hi (st.getD 1) (items.length : Int)).1 + (k : Int) * (st.getD 1)).toNat]?) = zs)
    (hsz : zs.length ≤ sizeLine)
    (h : ∀ r h', Fr h₀ L h' m → News h₀ L h' ((r, tupO zs 0) :: news) → (∀ p ∈ news, p.1 < r) → Q (.ref r) { s with heap := h' })
    (hs : subscripted slice false (.ref t) (.ref s.heap.objs.size) = operate ops (getItem (.ref t) (.ref s.heap.objs.size)))
    (hg : ∀ r, letTemporaryGo value (.ref t) r = pure ()) :
    wpAny (model prog w) A (subscriptTail value slice (.ref t) (.ref s.heap.objs.size)) Q E { s with heap := s.heap.push { cls := .type "slice", data := .fields #[va, vb, vc] } } := by
  have ht' : IsTup (s.heap.push { cls := .type "slice", data := .fields #[va, vb, vc] }) t items.toArray := ht.keeps fun _ _ e => Heap.get?_push_of_some _ e
  refine subscriptTail_ops (s := { s with heap := s.heap.push { cls := .type "slice", data := .fields #[va, vb, vc] } }) ht'.typeIs slot_tuple_getitem.lookup
    (getItem_tuple_slice ht' (Heap.IsSliceOf.new ..) pa pb pc h0 hno hz hsz ?_) hs hg
  have N1 := News.push (F.push { cls := .type "slice", data := .fields #[va, vb, vc] }) (N.grown fun _ _ e => Heap.get?_push_of_some _ e) { cls := .type "tuple", data := .seq zs.toArray }
  exact h _ _ ((F.push _).push _) N1 fun p hp => by rw [Heap.size_push]; exact Nat.lt_succ_of_lt (Heap.lt_size (N p hp).1)
end

section
variable {prog : Program} {w : World} {A : Around} {s : Shared} {h₀ : Heap} {L I : Addr} {m : Str → Option Value} {env : Env} {news : List (Addr × Obj)} {target : Expr} {body : List Stmt}
  {S : List (Addr × Obj) → Prop} {P : Nat → Value → Prop} {Q : Flow → Shared → Prop} {n : Nat}

theorem FEnd.mono {oI : Obj} {K K' : (Str → Option Value) → List (Addr × Obj) → Prop} {f : Flow} {s₃ : Shared} (hk : ∀ m' nw, S nw → K m' nw → K' m' nw) (h : FEnd h₀ L I oI s S K Q f s₃) : FEnd h₀ L I oI s S K' Q f s₃ := by
  cases f with
  | next => obtain ⟨h', tk', m', nw, a, b, c, d, e, f⟩ := h; exact ⟨h', tk', m', nw, a, b, c, d, e, hk _ _ e f⟩
  | cont => obtain ⟨h', tk', m', nw, a, b, c, d, e, f⟩ := h; exact ⟨h', tk', m', nw, a, b, c, d, e, hk _ _ e f⟩
  | brk => exact h
  | ret v => exact h

theorem FRest.ind (J : Nat → (Str → Option Value) → List (Addr × Obj) → Prop)
    (step : ∀ i m news v oI h tk (E' : Value → Shared → Prop), i < n → S news → J i m news → P i v → Fr h₀ L h m → News h₀ L h ((I, oI) :: news) → (∀ p ∈ news, p.1 ≠ I) →
      wpAny (model prog w) A (assign target env v) (fun _ s₂ => wpAny (model prog w) A (execs body env) (FEnd h₀ L I oI s S (J (i + 1)) Q) E' s₂) E' { s with heap := h, toks := tk })
    (done : ∀ m news h tk, S news → J n m news → Fr h₀ L h m → News h₀ L h news → (∀ p ∈ news, p.1 ≠ I) → Q .next { s with heap := h, toks := tk })
    (hS₀ : S news) (start : J 0 m news) : FRest prog w A h₀ L env target body I s S P Q n 0 m news := by
  have key : ∀ k i m news, i + k = n → S news → J i m news → FRest prog w A h₀ L env target body I s S P Q k i m news := by
    intro k
    induction k with
    | zero =>
      intro i m news hi hS hJ
      obtain rfl : i = n := by omega
      exact fun h tk F N off => done m news h tk hS hJ F N off
    | succ k ih =>
      intro i m news hi hS hJ v oI h tk E' hP F N off
      exact wpAny_mono (step i m news v oI h tk E' (by omega) hS hJ hP F N off) (fun _ s₂ h₂ => wpAny_mono h₂ (fun f s₃ h₃ => h₃.mono fun m' nw hS' hJ' => ih (i + 1) m' nw (by omega) hS' hJ') fun _ _ e => e) fun _ _ e => e
  exact key n 0 m news (by omega) hS₀ start
end

section
variable {prog : Program} {w : World} {A : Around} {s : Shared} {h₀ : Heap} {L I C D : Addr} {m : Str → Option Value} {cenv : Env} {news : List (Addr × Obj)} {ifs : List Expr} {elt : Expr} {ys : List Value}
  {S : List (Addr × Obj) → Prop} {P : Nat → Value → Prop} {Bd : Value → (Str → Option Value) → Prop} {Fin : List Value → List (Addr × Obj) → Prop} {n : Nat}

theorem CEnd.mono {oI : Obj} {ys : List Value} {K K' : List (Addr × Obj) → Prop} {s₂ : Shared} (hk : ∀ nw, S nw → K nw → K' nw) (h : CEnd h₀ L m I oI C D s S ys K s₂) : CEnd h₀ L m I oI C D s S ys K' s₂ := by
  obtain ⟨h', tk', oC', mC', nw, a, b, c, d, e, f, g⟩ := h
  exact ⟨h', tk', oC', mC', nw, a, b, c, d, e, f, hk _ f g⟩

theorem CRest.ind (hID : I ≠ D) (hCD : C ≠ D) (J : Nat → List Value → List (Addr × Obj) → Prop) (hsz : ∀ i ys nw, i ≤ n → J i ys nw → ys.length ≤ sizeLine)
    (step : ∀ i ys news v oI oC mC h tk (E' : Value → Shared → Prop), i < n → S news → J i ys news → P i v → NsObj oC mC → Bd v mC → Fr h₀ L h m → News h₀ L h ((I, oI) :: (C, oC) :: (D, lst ys) :: news) → Off3 I C D news →
      wpAny (model prog w) A (tests ifs cenv) (fun ok s' =>
        if ok = true then wpAny (model prog w) A (eval elt cenv) (fun y s₂ => CEnd h₀ L m I oI C D s S ys (J (i + 1) (ys ++ [y])) s₂) E' s'
        else CEnd h₀ L m I oI C D s S ys (J (i + 1) ys) s')
        E' { s with heap := h, toks := tk })
    (done : ∀ ys nw, S nw → J n ys nw → Fin ys nw) (hS₀ : S news) (start : J 0 ys news) : CRest prog w A h₀ L m cenv ifs (emitOne elt cenv (.ref D)) I C D s S P Bd Fin n 0 ys news := by
  have key : ∀ k i ys news, i + k = n → S news → J i ys news → CRest prog w A h₀ L m cenv ifs (emitOne elt cenv (.ref D)) I C D s S P Bd Fin k i ys news := by
    intro k
    induction k with
    | zero =>
      intro i ys news hi hS hJ
      obtain rfl : i = n := by omega
      exact done ys news hS hJ
    | succ k ih =>
      intro i ys news hi hS hJ
      refine CRest.one hID hCD (hsz i ys news (by omega) hJ) fun v oI oC mC h tk E' hP hns hB F N off => ?_
      refine wpAny_mono (step i ys news v oI oC mC h tk E' (by omega) hS hJ hP hns hB F N off) (fun ok s' hok => ?_) fun _ _ e => e
      cases ok with
      | false =>
        simp only [Bool.false_eq_true, if_false] at hok ⊢
        exact hok.mono fun nw hS' hJ' => ih (i + 1) ys nw (by omega) hS' hJ'
      | true =>
        simp only [if_true] at hok ⊢
        exact wpAny_mono hok (fun y s₂ h₂ => h₂.mono fun nw hS' hJ' => ih (i + 1) _ nw (by omega) hS' hJ') fun _ _ e => e
  exact key n 0 ys news (by omega) hS₀ start
end

theorem RdAll.get {D : Addr → Obj → Prop} {vs : List Value} {ds : List PyData} (h : RdAll D vs ds) {i : Nat} {v : Value} (hv : vs[i]? = some v) : ∃ d, ds[i]? = some d ∧ Rd D v d := by
  induction vs generalizing ds i with
  | nil => simp at hv
  | cons u vs ih =>
    cases h with
    | cons h1 h2 =>
      cases i with
      | zero => simp at hv; subst hv; exact ⟨_, rfl, h1⟩
      | succ i => simpa using ih h2 (by simpa using hv)
theorem RdAll.get_map {D : Addr → Obj → Prop} {α : Type} {f : α → PyData} {vs : List Value} {qs : List α} (h : RdAll D vs (qs.map f)) {i : Nat} {v : Value} (hv : vs[i]? = some v) : ∃ q, qs[i]? = some q ∧ q ∈ qs ∧ Rd D v (f q) ∧ qs.drop i = q :: qs.drop (i + 1) := by
  obtain ⟨d, hd, hr⟩ := h.get hv
  rw [List.getElem?_map] at hd
  cases hq : qs[i]? with
  | none => rw [hq] at hd; cases hd
  | some q =>
    rw [hq] at hd; cases hd
    obtain ⟨hlt, e⟩ := List.getElem?_eq_some_iff.mp hq
    exact ⟨q, rfl, List.mem_of_getElem? hq, hr, by rw [List.drop_eq_getElem_cons hlt, e]⟩

theorem SeqSrc.more {h₀ : Heap} {ax : Addr} {tup : Bool} {its : List Value} {n : Nat} {nw nw' : List (Addr × Obj)} (x : SeqSrc h₀ ax tup its n nw) (h : ∀ p ∈ nw, p ∈ nw') : SeqSrc h₀ ax tup its n nw' := x.imp id (h _)

section
variable {prog : Program} {w : World} {A : Around} {s : Shared} {K : Frag} {R : Result → Shared → Prop} {p : Program} {loose : List Str} {mean : ExcName → Option Value} {mg mb : Str → Option Value}
  {name qual : Str} {params : Arguments} {body : List Stmt} {scope : Scope} {dV kV doc pm cdv ct oc : Value} {an od : Option Addr} {osl : Array (Option Value)} {f : Addr} {args : Args} {binds : List (Str × Value)} {H : Heap}

theorem enterC0 (X : K.In H) (T : Top p loose mean mg mb H) (hH : H.StaysIn s.heap)
    (ho : K.lookup f = some ⟨oc, od, .func (fnOf name qual params body scope dV kV doc pm an cdv ct), osl⟩) (hcd : codeIn K cdv qual = true) (hroom : A.depth < recursionLimit)
    (hbind : BindsTo s (fnOf name qual params body scope dV kV doc pm an cdv ct) args binds) (hkind : (binds.all fun y => scope.names.lookup y.1 == some .local || scope.names.lookup y.1 == some .cell) = true)
    (hnd : ((cellsFrom 0 scope.names []).map (·.1)).Nodup)
    (h : ∀ L' h₁ tk cells, Fr s.heap L' h₁ (bindL (envOfC qual scope L' f cdv).kindOf binds fun _ => none) → News s.heap L' h₁ cells → CellsAre (bindC (envOfC qual scope L' f cdv).kindOf binds fun _ => none) (cellsFrom (L' + 1) scope.names []) cells → K.In s.heap → Top p loose mean mg mb s.heap →
      wpAny (model prog w) (A.deeper (envOfC qual scope L' f cdv)) (execs body (envOfC qual scope L' f cdv))
        (fun fl s' => R (.ok (.ret (match fl with | .ret v => v | _ => .none))) s')
        (fun e s' => wpAny (model prog w) (A.deeper (envOfC qual scope L' f cdv)) (leaving (envOfC qual scope L' f cdv) e) (fun _ s'' => R (.error e) s'') (fun e' s'' => R (.error e') s'') s')
        { s with heap := h₁, toks := tk })
    (hco : scope.isCoroutine = false) (hgen : scope.isGenerator = false) (hk : scope.kind = .function) : codeAny (model prog w) A (.call (.ref f) args) R s := by
  have X' := X.keeps hH
  have T' := T.keeps hH
  refine codeAny_call_function hroom (X' _ _ ho) rfl hco hgen rfl (codeRec_of X' hcd) (hbind _ _ _ _ ?_)
  refine wpAny_newFunctionEnv_cells hk (kindsX hkind _) fun env' he' s' x => ?_
  subst he'
  refine ⟨T'.nolimit.keeps x.toInCall.keep, codeAny_func ?_⟩
  obtain ⟨h₁, tk, rfl, _⟩ := x.done
  have hk₁ := x.toInCall.keep
  obtain ⟨cells, NC, Y⟩ := Cl.news (h₀ := s.heap) (Nat.le_refl _) fun n c hm => ⟨x.cell n c (lookup_of_mem_nodup (cellsFrom_names scope.names 0 (s.heap.objs.size + 1) [] [] rfl ▸ hnd) hm), x.above n c hm⟩
  exact h s.heap.objs.size h₁ tk cells ⟨x.toInCall.ns, hk₁, Nat.le_refl _⟩ NC Y X' T'
end
theorem lst_eq (ys : List Value) : lst ys = lstO ys ys.length := rfl
theorem CEnd.intro1 {h₀ : Heap} {L : Addr} {m : Str → Option Value} {I : Addr} {oI : Obj} {C D : Addr} {s₀ : Shared} {S : List (Addr × Obj) → Prop} {ys : List Value} {K : List (Addr × Obj) → Prop} {h' : Heap} {tk' : Nat} {oC' : Obj} {mC' : Str → Option Value} {q : Addr × Obj} {rest : List (Addr × Obj)}
    (F : Fr h₀ L h' m) (ns : NsObj oC' mC') (N : News h₀ L h' (q :: (I, oI) :: (C, oC') :: (D, lst ys) :: rest)) (off : Off3 I C D (q :: rest)) (hS : S (q :: rest)) (k : K (q :: rest)) :
    CEnd h₀ L m I oI C D s₀ S ys K { s₀ with heap := h', toks := tk' } :=
  CEnd.intro F ns N (q :: rest) (fun p hp => by simp only [List.mem_cons] at hp ⊢; grind) off hS k

theorem newsPerm3 {h₀ h : Heap} {L : Addr} {a b c : Addr × Obj} {r : List (Addr × Obj)} (N : News h₀ L h (a :: b :: c :: r)) : News h₀ L h (b :: c :: a :: r) := fun p hp => N p (by simp only [List.mem_cons] at hp ⊢; grind)
end Mine
namespace Mine
open LCg (NsObj ns_obj lst lst_snoc Off3)

noncomputable abbrev emitTwo (iter2 e : Expr) (cenv : Env) (acc : Value) : Sem PUnit := do
  let x ← eval iter2 cenv
  standAt iter2.pos
  let x ← foldedSetIterable iter2 cenv x
  let _ ← runOwn (.compStart e 1 (← holding [x] (pyIter x)) acc cenv) cenv

section
variable {prog : Program} {w : World} {A : Around} {E : Value → Shared → Prop} {R : Result → Shared → Prop} {s : Shared} {h₀ : Heap} {L : Addr} {m : Str → Option Value} {env : Env} {news : List (Addr × Obj)}

theorem compStart_1 {elt : Expr} {g g2 : Comprehension} {scope : Scope} {pos : Pos} {it acc : Value} {env : Env} (hg : g2.is_async = 0)
    (h0 : codeAny (model prog w) A (.compLoop (.ListComp elt [g, g2] scope pos) 1 it acc env) R s)
    (h : wpAny (model prog w) A (pyIter it) (fun it' s' => codeAny (model prog w) A (.compLoop (.ListComp elt [g, g2] scope pos) 1 it' acc env) R s')
      (notedBy (model prog w) A env fun x s' => R (.error x) s') s) :
    codeAny (model prog w) A (.compStart (.ListComp elt [g, g2] scope pos) 1 it acc env) R s := by
  obtain ⟨t2, i2, f2, a2⟩ := g2
  obtain rfl : a2 = 0 := hg
  refine codeAny_of_tree ?_
  show wpAny _ _ ((compStart (.ListComp elt [g, ⟨t2, i2, f2, 0⟩] scope pos) 1 it acc env).onRaise (fun x => do noteFrame x env; standAt theWindowsPlace)) _ _ s
  refine wpAny_notedAt ?_
  unfold compStart
  show wpAny _ _ (ask >>= _) _ _ s
  refine wpAny_bind (wpAny_askSetting (wpAny_ite ?_))
  split
  · first
      | exact wpAny_bind (wpAny_pure (wpAny_pure (And.intro rfl h0)))
      | exact wpAny_pure (And.intro rfl h0)
  · first
      | exact wpAny_bind (wpAny_rule (wpAny_bind (wpAny_standAt (wpAny_bind (wpAny_mono h (fun it' s' h' => wpAny_pure (And.intro rfl h')) fun _ _ x => x)))))
      | (refine wpAny_bind (wpAny_rule ?_); show wpAny _ _ (standAt i2.pos >>= _) _ _ s; exact wpAny_bind (wpAny_standAt (wpAny_bind (wpAny_mono h (fun it' s' h' => wpAny_pure (And.intro rfl h')) fun _ _ x => x))))

theorem bind_name' {x : Str} {px : Pos} {scope : Scope} {cl : List (Str × Addr)} {I C : Addr} {v : Value} {mC : Str → Option Value} {Q : Unit → Shared → Prop} (hkind : scope.kind = .function) (hx : scope.names.lookup x = some .local) (hn : s.heap.Ns C mC)
    (h : ∀ h' tk, h'.Ns C (fun z => if z = x then some v else mC z) → (∀ b o, b ≠ C → s.heap.get? b = some o → h'.get? b = some o) → Q () { s with heap := h', toks := tk }) :
    wpAny (model prog w) A (letOwnedTupleGo (.Name x px) (.ref I) v) (fun _ s₁ => wpAny (model prog w) A (assign (.Name x px) (compEnvC scope cl C env) v) Q E s₁) E s := by
  show wpAny _ _ (pure ()) _ _ s
  refine wpAny_pure ?_
  refine wpAny_assign_Name (wpAny_storeName_local (lookup_relabel_local hx) hn (fun h₃ hn₃ hs₃ => ?_) (by simp [compEnvC, relabel, hkind]))
  exact h h₃ _ hn₃ fun b o hb e => hs₃.extBut b o hb e

theorem prod_loop {e : Expr} {p py px py2 tp : Pos} {k : Nat} {x y : Str} {scope : Scope} {cl : List (Str × Addr)} {I I2 C D ax : Addr} {oI : Obj} {its ys : List Value} {n : Nat} {vx : Value} {dx : PyData} {ds : List PyData} {DD : Addr → Obj → Prop} {mC : Str → Option Value} {h₁ : Heap} {t₁ : Nat}
    (hh : A.handled = none)
    (hturn : compTurn e 1 (.ref I2) (.ref D) (compEnvC scope cl C env) = turnOf (.Name y py) [] (.ref I2) (compEnvC scope cl C env) p (emitOne (.Tuple [.Name x px, .Name y py2] k tp) (compEnvC scope cl C env) (.ref D)) (.compLoop e 1 (.ref I2) (.ref D) (compEnvC scope cl C env)))
    (hfr : (Code.compLoop e 1 (.ref I2) (.ref D) (compEnvC scope cl C env)).isFrame = false) (hq : (Code.compLoop e 1 (.ref I2) (.ref D) (compEnvC scope cl C env)).quiet = true) (hu : A.under (.compLoop e 1 (.ref I2) (.ref D) (compEnvC scope cl C env)) = A)
    (hkind : scope.kind = .function) (hx : scope.names.lookup x = some .local) (hy : scope.names.lookup y = some .local) (hxy : x ≠ y) (hdx : (x == ("__debug__" : Str)) = false) (hdy : (y == ("__debug__" : Str)) = false)
    (F : Fr h₀ L h₁ m) (hn : h₁.Ns C mC) (hmx : mC x = some vx) (N : News h₀ L h₁ ((I, oI) :: (D, lst ys) :: news)) (hst : ItSt I2 ax false its n 0 h₁) (S : SeqSrc h₀ ax false its n news)
    (hI2C : I2 ≠ C) (hI2L : I2 ≠ L) (hI2₀ : h₀.get? I2 = none) (hI2 : ∀ p ∈ (I, oI) :: (D, lst ys) :: news, p.1 ≠ I2) (hCD : C ≠ D) (hIC : I ≠ C) (hID : I ≠ D) (hCL : C ≠ L) (hC₀ : h₀.get? C = none) (off : Off3 I C D news) (hsz : ys.length + its.length ≤ sizeLine)
    (rx : Rd DD vx dx) (rits : RdAll DD its ds)
    (fin : ∀ h' tk mC' tl us, Fr h₀ L h' m → h'.Ns C mC' → News h₀ L h' ((I, oI) :: (D, lst (ys ++ us)) :: (news ++ tl)) → Off3 I C D (news ++ tl) → (∀ x ∈ news, ∀ p ∈ tl, p.1 ≠ x.1) → RdAll (AndL DD tl) us (ds.map fun d => .tuple [dx, d]) → us.length = its.length → R (.ok .next) { s with heap := h', toks := tk }) :
    codeAny (model prog w) A (.compLoop e 1 (.ref I2) (.ref D) (compEnvC scope cl C env)) R { s with heap := h₁, toks := t₁ } := by
  have W := walks_seq (prog := prog) (w := w) (A := A) hh I2 ax (fun q => by
    have : h₁.get? ax = some (seqO false its n) := hst.2
    obtain ⟨⟨o, e, hc, hd⟩, q'⟩ := hst
    rw [← q, q'] at e; cases e; cases hd) false its n
  refine loop_any hturn hfr hq hu
    (fun k s' => ∃ h' tk i mC' tl us, s' = { s with heap := h', toks := tk } ∧ i ≤ its.length ∧ k = its.length + 1 - i ∧ ItSt I2 ax false its n i h' ∧ Fr h₀ L h' m ∧ h'.Ns C mC' ∧ mC' x = some vx ∧ News h₀ L h' ((I, oI) :: (D, lst (ys ++ us)) :: (news ++ tl)) ∧
      (∀ p ∈ (I, oI) :: (D, lst (ys ++ us)) :: (news ++ tl), p.1 ≠ I2) ∧ Off3 I C D (news ++ tl) ∧ us.length = i ∧ RdAll (AndL DD tl) us ((ds.take i).map fun d => .tuple [dx, d]) ∧ (∀ x ∈ news, ∀ p ∈ tl, p.1 ≠ x.1)) ?_ (its.length + 1)
    ⟨h₁, t₁, 0, mC, [], [], rfl, Nat.zero_le _, rfl, hst, F, hn, hmx, by simpa using N, by simpa using hI2, by simpa using off, rfl, .nil, (by simp)⟩
  rintro k s' ⟨h', tk, i, mC', tl, us, rfl, hi, rfl, hst', F', hn', hmx', N', hI', off', hus, hR, hfr'⟩
  by_cases hlt : i < its.length
  · refine W.item i _ _ _ hlt hst' fun v h₂ tk₂ hPv hst₂ hk₂ => ?_
    have hk₂' : ∀ b o, b ≠ I2 → h'.get? b = some o → h₂.get? b = some o := fun b o hb e => hk₂ b o (by simpa using hb) e
    have F₂ : Fr h₀ L h₂ m := ⟨F'.ns.at' fun o e => hk₂' L o (Ne.symm hI2L) e, fun b o e => hk₂' b o (fun q => by rw [q, hI2₀] at e; cases e) (F'.keep b o e), F'.above⟩
    have N₂ : News h₀ L h₂ ((I, oI) :: (D, lst (ys ++ us)) :: (news ++ tl)) := fun p hp => ⟨hk₂' _ _ (hI' p hp) (N' p hp).1, (N' p hp).2⟩
    refine bind_name' hkind hy (hn'.at' fun o e => hk₂' C o (Ne.symm hI2C) e) fun h₃ tk₃ hn₃ hk₃ => ?_
    have hne : ∀ p ∈ (I, oI) :: (D, lst (ys ++ us)) :: (news ++ tl), p.1 ≠ C := fun p hp => by
      rcases List.mem_cons.mp hp with rfl | hp
      · exact hIC
      · rcases List.mem_cons.mp hp with rfl | hp
        · exact Ne.symm hCD
        · exact (off'.mem p hp).2.1
    have hst₃ : ItSt I2 ax false its n (i + 1) h₃ := by
      obtain ⟨⟨o, e, r⟩, q⟩ := hst₂
      refine ⟨⟨o, hk₃ _ _ hI2C e, r⟩, ?_⟩
      by_cases hac : ax = C
      · rcases S with e | hm
        · rw [hac, hC₀] at e; cases e
        · exact absurd hac (off.mem _ hm).2.1
      · exact hk₃ _ _ hac q
    have F₃ : Fr h₀ L h₃ m := ⟨F₂.ns.at' fun o e => hk₃ L o (Ne.symm hCL) e, fun b o e => hk₃ b o (fun q => by rw [q, hC₀] at e; cases e) (F₂.keep b o e), F₂.above⟩
    have N₃ : News h₀ L h₃ ((I, oI) :: (D, lst (ys ++ us)) :: (news ++ tl)) := fun p hp => ⟨hk₃ _ _ (hne p hp) (N₂ p hp).1, (N₂ p hp).2⟩
    refine wpAny_tests_nil ?_
    rw [if_pos rfl]
    unfold emitOne
    have hkx : ∀ z, scope.names.lookup z = some .local → (compEnvC scope cl C env).kindOf z = some .local := fun z hz => lookup_relabel_local hz
    refine wpAny_bind (Tuple_ (spliced_more (wpAny_Name (wpAny_loadName_local (by simp [compEnvC, relabel, hkind]) (hkx _ hx) hn₃ (v := vx) (by simp [hxy, hmx']) (spliced_more (wpAny_Name (wpAny_loadName_local (by simp [compEnvC, relabel, hkind]) (hkx _ hy) hn₃ (v := v) (by simp) (spliced_none ?_)) hdy))) hdx)))
    refine wpAny_newObj_type ?_ (by show [vx, v].toArray.size ≤ sizeLine; rw [sizeLine_eq]; simp)
    have F₄ := F₃.push { cls := .type "tuple", data := .seq [vx, v].toArray }
    have N₄ := N₃.push F₃ { cls := .type "tuple", data := .seq [vx, v].toArray }
    have hn₄ : (h₃.push { cls := .type "tuple", data := .seq [vx, v].toArray }).Ns C _ := hn₃.keeps fun _ _ e => Heap.get?_push_of_some _ e
    have hst₄ : ItSt I2 ax false its n (i + 1) (h₃.push { cls := .type "tuple", data := .seq [vx, v].toArray }) := W.frame _ _ _ hst₃ fun b _ o e => Heap.get?_push_of_some _ e
    have hTlt : ∀ b o, h₃.get? b = some o → h₃.objs.size ≠ b := fun b o e => Ne.symm (Nat.ne_of_lt (Heap.lt_size e))
    have hTI : h₃.objs.size ≠ I := hTlt _ _ (N₃ (I, oI) (by simp)).1
    have hTD : h₃.objs.size ≠ D := hTlt _ _ (N₃ (D, lst (ys ++ us)) (by simp)).1
    have hTC : h₃.objs.size ≠ C := Ne.symm (Nat.ne_of_lt hn₃.lt)
    have hTI2 : h₃.objs.size ≠ I2 := by obtain ⟨⟨o, e, _⟩, _⟩ := hst₃; exact hTlt _ _ e
    have zD := N₄ (D, lst (ys ++ us)) (by simp)
    have hzD : (ys ++ us).toArray.size ≤ sizeLine := by rw [List.size_toArray, List.length_append]; omega
    refine wpAny_bind (append_at (hsz := hzD) zD.1 fun h₅ hs₅ hD₅ => wpAny_pure ?_)
    generalize hh4 : h₃.push { cls := .type "tuple", data := .seq [vx, v].toArray } = h₄ at *
    have hvr : ∃ d, ds[i]? = some d ∧ Rd DD v d := rits.get hPv
    obtain ⟨d, hd, rv⟩ := hvr
    have hI2D : I2 ≠ D := Ne.symm (hI' (D, lst (ys ++ us)) (by simp))
    have hnews : ∀ p ∈ news ++ tl, p.1 ≠ I ∧ p.1 ≠ C ∧ p.1 ≠ D := off'.mem
    refine ⟨its.length + 1 - (i + 1), by omega, h₅, _, i + 1, _, tl ++ [(h₃.objs.size, tupO [vx, v] 0)], us ++ [.ref h₃.objs.size], rfl, hlt, rfl, ?_, F₄.change hs₅ zD.2.1 zD.2.2, hn₄.sameBut hs₅ hCD, by simp [hxy, hmx'], ?_, ?_, ?_, by simp [hus], ?_, ?_⟩
    · obtain ⟨⟨o, e, r⟩, q⟩ := hst₄
      refine ⟨⟨o, hs₅.extBut _ _ hI2D e, r⟩, ?_⟩
      by_cases hac : ax = D
      · rcases S with e' | hm
        · rw [hac, zD.2.2] at e'; cases e'
        · exact absurd hac (off.mem _ hm).2.2
      · exact hs₅.extBut _ _ hac q
    · intro q hq
      simp only [List.mem_cons, ← List.append_assoc, List.mem_append, List.mem_singleton, List.not_mem_nil, or_false] at hq
      rcases hq with rfl | rfl | (hq | hq) | rfl
      · have z := N₄ (I, oI) (by simp)
        exact ⟨hs₅.extBut _ _ hID z.1, z.2⟩
      · refine ⟨?_, zD.2⟩
        exact hD₅.trans (congrArg some (lst_snoc _ _))
      · have z := N₄ q (by simp [hq])
        exact ⟨hs₅.extBut _ _ (hnews q (by simp [hq])).2.2 z.1, z.2⟩
      · have z := N₄ q (by simp [hq])
        exact ⟨hs₅.extBut _ _ (hnews q (by simp [hq])).2.2 z.1, z.2⟩
      · have z := N₄ (h₃.objs.size, tupO [vx, v] 0) (by simp)
        exact ⟨hs₅.extBut _ _ hTD z.1, z.2⟩
    · intro q hq
      simp only [List.mem_cons, ← List.append_assoc, List.mem_append, List.mem_singleton, List.not_mem_nil, or_false] at hq
      rcases hq with rfl | rfl | (hq | hq) | rfl
      · exact hI' (I, oI) (by simp)
      · exact Ne.symm hI2D
      · exact hI' q (by simp [hq])
      · exact hI' q (by simp [hq])
      · exact hTI2
    · refine Off3.of fun q hq => ?_
      simp only [← List.append_assoc, List.mem_append, List.mem_singleton, List.not_mem_nil, or_false] at hq
      rcases hq with (hq | hq) | rfl
      · exact hnews q (by simp [hq])
      · exact hnews q (by simp [hq])
      · exact ⟨hTI, hTC, hTD⟩
    · have : ds.take (i + 1) = ds.take i ++ [d] := by rw [List.take_add_one, hd]; rfl
      rw [this, List.map_append]
      have hsub : ∀ b o, DD b o → AndL DD (tl ++ [(h₃.objs.size, tupO [vx, v] 0)]) b o := fun b o h => .inl h
      exact RdAll.append (RdAll.mono (fun b o h => h.imp id fun h => List.mem_append.mpr (.inl h)) hR) (RdAll.one' (Rd.tuple (n := 0) (.inr (by simp)) (.cons (rx.mono hsub) (.cons (rv.mono hsub) .nil))))
    · intro z hz q hq
      rcases List.mem_append.mp hq with hq | hq
      · exact hfr' z hz q hq
      · obtain rfl := List.mem_singleton.mp hq
        exact hTlt _ _ (N₃ z (by simp [hz])).1
  · obtain rfl : i = its.length := Nat.le_antisymm hi (Nat.not_lt.mp hlt)
    refine W.done _ _ _ hst' fun h₂ tk₂ hk₂ => ?_
    have hk₂' : ∀ b o, b ≠ I2 → h'.get? b = some o → h₂.get? b = some o := fun b o hb e => hk₂ b o (by simpa using hb) e
    refine fin h₂ tk₂ mC' tl us ⟨F'.ns.at' fun o e => hk₂' L o (Ne.symm hI2L) e, fun b o e => hk₂' b o (fun q => by rw [q, hI2₀] at e; cases e) (F'.keep b o e), F'.above⟩ (hn'.at' fun o e => hk₂' C o (Ne.symm hI2C) e)
      (fun p hp => ⟨hk₂' _ _ (hI' p hp) (N' p hp).1, (N' p hp).2⟩) off' hfr' ?_ hus
    rw [rits.length, List.take_length] at hR
    exact hR

noncomputable def PSrc (h₀ : Heap) (L : Addr) (m : Str → Option Value) (I C D : Addr) (oI : Obj) (x : Str) (s : Shared) (ys : List Value) (K : List Value → List (Addr × Obj) → Prop) (xv : Value) (s₁ : Shared) : Prop :=
  ∃ ax its n news oC mC vx dx ds h tk DD, xv = .ref ax ∧ s₁ = { s with heap := h, toks := tk } ∧ Fr h₀ L h m ∧ NsObj oC mC ∧ mC x = some vx ∧ News h₀ L h ((I, oI) :: (C, oC) :: (D, lst ys) :: news) ∧ Off3 I C D news ∧ SeqSrc h₀ ax false its n news ∧ ys.length + its.length ≤ sizeLine ∧
    Rd DD vx dx ∧ RdAll DD its ds ∧
    ∀ tl us, (∀ x ∈ news, ∀ p ∈ tl, p.1 ≠ x.1) → RdAll (AndL DD tl) us (ds.map fun d => .tuple [dx, d]) → us.length = its.length → K (ys ++ us) (news ++ tl)

theorem PSrc.intro {I C D ax : Addr} {oI oC : Obj} {x : Str} {ys its : List Value} {n : Nat} {K : List Value → List (Addr × Obj) → Prop} {mC : Str → Option Value} {vx : Value} {dx : PyData} {ds : List PyData} {h : Heap} {tk : Nat} (DD : Addr → Obj → Prop)
    (F : Fr h₀ L h m) (hns : NsObj oC mC) (hx : mC x = some vx) (N : News h₀ L h ((I, oI) :: (C, oC) :: (D, lst ys) :: news)) (off : Off3 I C D news) (S : SeqSrc h₀ ax false its n news) (hz : ys.length + its.length ≤ sizeLine)
    (rx : Rd DD vx dx) (ry : RdAll DD its ds) (k : ∀ tl us, (∀ x ∈ news, ∀ p ∈ tl, p.1 ≠ x.1) → RdAll (AndL DD tl) us (ds.map fun d => .tuple [dx, d]) → us.length = its.length → K (ys ++ us) (news ++ tl)) :
    PSrc h₀ L m I C D oI x s ys K (.ref ax) { s with heap := h, toks := tk } := ⟨ax, its, n, news, oC, mC, vx, dx, ds, h, tk, DD, rfl, rfl, F, hns, hx, N, off, S, hz, rx, ry, k⟩

theorem emit_two {iter2 : Expr} {g : Comprehension} {pos py px py2 tp : Pos} {k : Nat} {x y : Str} {scope : Scope} {cl : List (Str × Addr)} {I C D : Addr} {oI : Obj} {ys : List Value} {K : List Value → List (Addr × Obj) → Prop}
    (hh : A.handled = none) (hkind : scope.kind = .function) (hx : scope.names.lookup x = some .local) (hy : scope.names.lookup y = some .local) (hxy : x ≠ y) (hdx : (x == ("__debug__" : Str)) = false) (hdy : (y == ("__debug__" : Str)) = false)
    (hs : ∀ z, foldedSetIterable iter2 (compEnvC scope cl C env) z = pure z) (hIC : I ≠ C) (hID : I ≠ D) (hCD : C ≠ D) {h : Heap} {tk : Nat}
    (hw : wpAny (model prog w) A (eval iter2 (compEnvC scope cl C env)) (PSrc h₀ L m I C D oI x s ys K) E { s with heap := h, toks := tk }) :
    wpAny (model prog w) A (emitTwo iter2 (.ListComp (.Tuple [.Name x px, .Name y py2] k tp) [g, ⟨.Name y py, iter2, [], 0⟩] scope pos) (compEnvC scope cl C env) (.ref D))
      (fun _ s₂ => ∃ h' tk' ys' oC' mC' news', s₂ = { s with heap := h', toks := tk' } ∧ Fr h₀ L h' m ∧ NsObj oC' mC' ∧ News h₀ L h' ((I, oI) :: (C, oC') :: (D, lst ys') :: news') ∧ Off3 I C D news' ∧ K ys' news') E { s with heap := h, toks := tk } := by
  unfold emitTwo
  refine wpAny_bind (wpAny_mono hw (fun xv s₁ h₁ => ?_) fun _ _ e => e)
  obtain ⟨ax, its, n, news, oC, mC, vx, dx, ds, h, tk, DD, rfl, rfl, F, hns, hmx, N, off, S, hz, rx, ry, kk⟩ := h₁
  refine wpAny_bind (wpAny_standAt ?_)
  rw [hs]
  refine wpAny_bind (wpAny_pure (wpAny_bind (wpAny_holding ?_)))
  have hl : h.get? ax = some (seqO false its n) := S.get F.keep fun p hp => N p (by simp [hp])
  have zI := N (I, oI) (by simp)
  have zC := N (C, oC) (by simp)
  have zD := N (D, lst ys) (by simp)
  refine iter_seq (s := { s with heap := h, toks := tk }) hl fun h' hsz' up st => ?_
  have W := walks_seq (prog := prog) (w := w) (A := A) hh h.objs.size ax (Nat.ne_of_lt (Heap.lt_size hl)) false its n
  refine wpAny_bind (wpAny_runOwn ?_)
  have ne : ∀ b o, h.get? b = some o → b ≠ h.objs.size := fun b o e => Nat.ne_of_lt (Heap.lt_size e)
  have loop : codeAny (model prog w) A (.compLoop (.ListComp (.Tuple [.Name x px, .Name y py2] k tp) [g, ⟨.Name y py, iter2, [], 0⟩] scope pos) 1 (.ref h.objs.size) (.ref D) (compEnvC scope cl C env))
      (fun r s' => match r with | .ok f => wpAny (model prog w) A (pure ()) (fun _ s₂ => ∃ h' tk' ys' oC' mC' news', s₂ = { s with heap := h', toks := tk' } ∧ Fr h₀ L h' m ∧ NsObj oC' mC' ∧ News h₀ L h' ((I, oI) :: (C, oC') :: (D, lst ys') :: news') ∧ Off3 I C D news' ∧ K ys' news') E s' | .error e => cameBackBy (model prog w) A (compEnvC scope cl C env) E e s') { s with heap := h', toks := tk } := by
    refine prod_loop (x := x) (y := y) (oI := oI) (ys := ys) (DD := DD) (n := n) hh rfl rfl rfl rfl hkind hx hy hxy hdx hdy (F.keeps up) ((hns.ns zC.1).keeps up) hmx (fun p hp => ?_) st S (Ne.symm (ne _ _ zC.1)) (Ne.symm (Nat.ne_of_lt F.ns.lt)) (next_is_new F) (fun p hp => ?_) hCD hIC hID zC.2.1 zC.2.2 off hz rx ry
      fun h₃ tk₃ mC₃ tl us F₃ n₃ N₃ off₃ hfr₃ hR hlen => ?_
    · have z := N p (by rcases List.mem_cons.mp hp with rfl | hp <;> simp [*])
      exact ⟨up _ _ z.1, z.2⟩
    · exact ne _ _ (N p (by rcases List.mem_cons.mp hp with rfl | hp <;> simp [*])).1
    · obtain ⟨oC₃, heC, hoC⟩ := ns_obj n₃
      refine wpAny_pure ⟨h₃, tk₃, ys ++ us, oC₃, mC₃, news ++ tl, rfl, F₃, hoC, fun p hp => ?_, off₃, kk tl us hfr₃ hR hlen⟩
      rcases List.mem_cons.mp hp with rfl | hp
      · exact N₃ _ (by simp)
      · rcases List.mem_cons.mp hp with rfl | hp
        · exact ⟨heC, zC.2⟩
        · exact N₃ _ (List.mem_cons_of_mem _ hp)
  exact compStart_1 rfl loop (W.self 0 _ _ _ st loop)
end

section
variable {prog : Program} {w : World} {A : Around} {s : Shared} {h₀ : Heap} {L I C D : Addr} {m : Str → Option Value} {env : Env} {news : List (Addr × Obj)} {ys : List Value}
  {S : List (Addr × Obj) → Prop} {P : Nat → Value → Prop} {Bd : Value → (Str → Option Value) → Prop} {Fin : List Value → List (Addr × Obj) → Prop} {n : Nat}

theorem CRest.two {iter2 : Expr} {g : Comprehension} {pos py px py2 tp : Pos} {k : Nat} {x y : Str} {scope : Scope} {cl : List (Str × Addr)}
    (hh : A.handled = none) (hkind : scope.kind = .function) (hx : scope.names.lookup x = some .local) (hy : scope.names.lookup y = some .local) (hxy : x ≠ y) (hdx : (x == ("__debug__" : Str)) = false) (hdy : (y == ("__debug__" : Str)) = false)
    (hs : ∀ z, foldedSetIterable iter2 (compEnvC scope cl C env) z = pure z) (hIC : I ≠ C) (hID : I ≠ D) (hCD : C ≠ D) (J : Nat → List Value → List (Addr × Obj) → Prop)
    (step : ∀ i ys news v oI oC mC h tk (E' : Value → Shared → Prop), i < n → S news → J i ys news → P i v → NsObj oC mC → Bd v mC → Fr h₀ L h m → News h₀ L h ((I, oI) :: (C, oC) :: (D, lst ys) :: news) → Off3 I C D news →
      wpAny (model prog w) A (eval iter2 (compEnvC scope cl C env)) (PSrc h₀ L m I C D oI x s ys (fun ys' nw => S nw ∧ J (i + 1) ys' nw)) E' { s with heap := h, toks := tk })
    (done : ∀ ys nw, S nw → J n ys nw → Fin ys nw) (hS₀ : S news) (start : J 0 ys news) :
    CRest prog w A h₀ L m (compEnvC scope cl C env) [] (emitTwo iter2 (.ListComp (.Tuple [.Name x px, .Name y py2] k tp) [g, ⟨.Name y py, iter2, [], 0⟩] scope pos) (compEnvC scope cl C env) (.ref D)) I C D s S P Bd Fin n 0 ys news := by
  have key : ∀ k' i ys news, i + k' = n → S news → J i ys news → CRest prog w A h₀ L m (compEnvC scope cl C env) [] (emitTwo iter2 (.ListComp (.Tuple [.Name x px, .Name y py2] k tp) [g, ⟨.Name y py, iter2, [], 0⟩] scope pos) (compEnvC scope cl C env) (.ref D)) I C D s S P Bd Fin k' i ys news := by
    intro k'
    induction k' with
    | zero =>
      intro i ys news hi hS hJ
      obtain rfl : i = n := by omega
      exact done ys news hS hJ
    | succ k' ih =>
      intro i ys news hi hS hJ
      intro v oI oC mC h tk E' hP hns hB F N off
      refine wpAny_tests_nil ?_
      rw [if_pos rfl]
      refine wpAny_mono (emit_two hh hkind hx hy hxy hdx hdy hs hIC hID hCD (step i ys news v oI oC mC h tk E' (by omega) hS hJ hP hns hB F N off)) (fun _ s₂ h₂ => ?_) fun _ _ e => e
      obtain ⟨h', tk', ys', oC', mC', news', rfl, F', ns', N', off', hS', hJ'⟩ := h₂
      exact ⟨h', tk', ys', oC', mC', news', rfl, F', ns', N', off', hS', ih (i + 1) ys' news' (by omega) hS' hJ'⟩
  exact key n 0 ys news (by omega) hS₀ start
end
end Mine
namespace Mine
noncomputable def prod {β : Type} (xs ys : List β) : List (β × β) := xs.flatMap fun x => ys.map fun y => (x, y)
/-- the pairs of one place of a row with the places behind it -/
noncomputable def latePairs {β : Type} (e : List β) : List (List β × Bool) → List (β × β)
  | [] => []
  | (b, nul) :: r => prod e b ++ if nul then latePairs e r else []
/-- the pairs within a row: of each part its own pairs, its last places, its first places, whether it may be nothing -/
noncomputable def rowPairs {β : Type} (sq : Bool) : List (List (β × β) × List β × List β × Bool) → List (β × β)
  | [] => []
  | (own, e, _, _) :: r => own ++ (if sq then latePairs e (r.map fun q => (q.2.2.1, q.2.2.2)) else []) ++ rowPairs sq r
noncomputable def Pt.pairs {α : Type} : Pt α → List (α × α)
  | .name x mk => if mk.rep then [(x, x)] else []
  | .node sq ps mk => rowPairs sq (ps.map fun p => (p.pairs, p.edge false, p.edge true, p.nothing)) ++
      if mk.rep then prod ((Pt.node sq ps mk).edge false) ((Pt.node sq ps mk).edge true) else []

theorem prod_len {β : Type} (xs ys : List β) : (prod xs ys).length = xs.length * ys.length := by
  induction xs with
  | nil => simp [prod]
  | cons x xs ih =>
    have : prod (x :: xs) ys = ys.map (fun y => (x, y)) ++ prod xs ys := rfl
    rw [this, List.length_append, List.length_map, ih, List.length_cons, Nat.succ_mul, Nat.add_comm]
theorem latePairs_len {β : Type} (e : List β) : ∀ l : List (List β × Bool), (latePairs e l).length ≤ e.length * (l.map fun q => q.1.length).sum
  | [] => Nat.zero_le _
  | (b, nul) :: r => by
    have ih := latePairs_len e r
    simp only [latePairs, List.length_append, prod_len, List.map_cons, List.sum_cons, Nat.mul_add]
    split
    · omega
    · simp
theorem rowPairs_len {β : Type} (sq : Bool) : ∀ l : List (List (β × β) × List β × List β × Bool),
    (rowPairs sq l).length ≤ (l.map fun q => q.1.length).sum + (l.map fun q => q.2.1.length).sum * (l.map fun q => q.2.2.1.length).sum
  | [] => Nat.zero_le _
  | (own, e, b, nul) :: r => by
    have ih := rowPairs_len sq r
    have hl := latePairs_len e (r.map fun q => (q.2.2.1, q.2.2.2))
    rw [List.map_map] at hl
    simp only [Function.comp_def] at hl
    simp only [rowPairs, List.length_append, List.map_cons, List.sum_cons]
    have h1 : (if sq = true then latePairs e (r.map fun q => (q.2.2.1, q.2.2.2)) else []).length ≤ e.length * (r.map fun q => q.2.2.1.length).sum := by
      split
      · exact hl
      · simp
    generalize (r.map fun q => q.2.2.1.length).sum = B at *
    generalize (r.map fun q => q.2.1.length).sum = C at *
    have : e.length * B + C * B ≤ (e.length + C) * (b.length + B) := by
      rw [← Nat.add_mul]; exact Nat.mul_le_mul_left _ (by omega)
    omega

theorem Pt.pairs_len {α : Type} : ∀ n, ∀ p : Pt α, p.height < n → p.pairs.length ≤ 2 * p.height * (p.leaves * p.leaves) := by
  intro n
  induction n with
  | zero => intro p h; exact absurd h (Nat.not_lt_zero _)
  | succ n ih =>
    intro p hp
    cases p with
    | name x mk => rw [Pt.pairs]; split <;> simp [Pt.height, Pt.leaves]
    | node sq ps mk =>
      have hkid : ∀ q ∈ ps, q.height < (Pt.node sq ps mk).height := fun q hq => Pt.height_kid hq
      have el : ∀ b, (Pt.edge b (.node sq ps mk)).length ≤ (Pt.node sq ps mk).leaves := fun b => Pt.edge_len b _ _ (Nat.lt_succ_self _)
      have ek : ∀ b, ∀ q ∈ ps, (q.edge b).length ≤ q.leaves := fun b q _ => Pt.edge_len b _ q (Nat.lt_succ_self _)
      have hL : (Pt.node sq ps mk).leaves = (ps.map Pt.leaves).sum := by rw [Pt.leaves]
      generalize hH : (Pt.node sq ps mk).height = K at *
      have h2 : (prod (Pt.edge false (.node sq ps mk)) (Pt.edge true (.node sq ps mk))).length ≤ (Pt.node sq ps mk).leaves * (Pt.node sq ps mk).leaves := by
        rw [prod_len]; exact Nat.mul_le_mul (el _) (el _)
      rw [Pt.pairs, List.length_append]
      have h3 := rowPairs_len sq (ps.map fun p => (p.pairs, p.edge false, p.edge true, p.nothing))
      simp only [List.map_map, Function.comp_def] at h3
      have h4 : (ps.map fun p => (p.edge false).length).sum ≤ (Pt.node sq ps mk).leaves := by rw [hL]; exact sum_le_map fun q hq => ek false q hq
      have h5 : (ps.map fun p => (p.edge true).length).sum ≤ (Pt.node sq ps mk).leaves := by rw [hL]; exact sum_le_map fun q hq => ek true q hq
      have h6 : (ps.map fun p => p.pairs.length).sum ≤ 2 * (K - 1) * ((Pt.node sq ps mk).leaves * (Pt.node sq ps mk).leaves) := by
        refine Nat.le_trans (sum_le_map (g := fun q => 2 * (K - 1) * (q.leaves * (Pt.node sq ps mk).leaves)) fun q hq => ?_) ?_
        · have := hkid q hq
          refine Nat.le_trans (ih q (by omega)) ?_
          refine Nat.mul_le_mul (by omega) (Nat.mul_le_mul_left _ ?_)
          exact Pt.leaves_kid hq
        · generalize (Pt.node sq ps mk).leaves = M at *
          rw [hL]
          have : ∀ (c d : Nat) (l : List (Pt α)), (l.map fun q => c * (q.leaves * d)).sum = c * ((l.map Pt.leaves).sum * d) := by
            intro c d l
            induction l with
            | nil => simp
            | cons a l ih => simp only [List.map_cons, List.sum_cons, ih, Nat.add_mul, Nat.mul_add]
          rw [this]
          exact Nat.le_refl _
      have h7 := Nat.mul_le_mul h4 h5
      generalize (Pt.node sq ps mk).leaves * (Pt.node sq ps mk).leaves = M at *
      have hK : 1 ≤ K := by rw [← hH, Pt.height]; omega
      have h8 : 2 * K * M = 2 * (K - 1) * M + M + M := by
        obtain ⟨j, rfl⟩ : ∃ j, K = j + 1 := ⟨K - 1, by omega⟩
        simp only [Nat.add_sub_cancel, Nat.mul_add, Nat.add_mul, Nat.mul_one]
        omega
      have h9 : (if mk.rep = true then prod (Pt.edge false (.node sq ps mk)) (Pt.edge true (.node sq ps mk)) else []).length ≤ M := by
        split
        · exact h2
        · simp
      omega

noncomputable def encP {α : Type} (enc : α → PyData) (x : α × α) : PyData := .tuple [enc x.1, enc x.2]

theorem RdAll.drop {D : Addr → Obj → Prop} {vs : List Value} {ds : List PyData} (h : RdAll D vs ds) : ∀ k, RdAll D (vs.drop k) (ds.drop k) := by
  intro k
  induction k generalizing vs ds with
  | zero => exact h
  | succ k ih =>
    cases vs with
    | nil => cases h; simpa using RdAll.nil
    | cons v vs => cases h with | cons _ r => exact ih r
theorem RdAll.take {D : Addr → Obj → Prop} {vs : List Value} {ds : List PyData} (h : RdAll D vs ds) : ∀ k, RdAll D (vs.take k) (ds.take k) := by
  intro k
  induction k generalizing vs ds with
  | zero => simpa using RdAll.nil
  | succ k ih =>
    cases vs with
    | nil => cases h; simpa using RdAll.nil
    | cons v vs => cases h with | cons a r => exact .cons a (ih r)

theorem take_filterMap {α : Type} (l : List α) (i : Nat) : ∀ k, i + k ≤ l.length → (List.range k).filterMap (fun j : Nat => l[((i : Int) + (j : Int) * 1).toNat]?) = (l.drop i).take k := by
  intro k
  induction k with
  | zero => intro _; simp
  | succ k ih =>
    intro h
    rw [List.range_succ, List.filterMap_append, ih (by omega)]
    have : ((i : Int) + (k : Int) * 1).toNat = i + k := by omega
    simp only [List.filterMap_cons, List.filterMap_nil, this]
    have hlt : i + k < l.length := by omega
    rw [List.getElem?_eq_getElem hlt, List.take_add_one]
    congr 1
    rw [List.getElem?_drop, List.getElem?_eq_getElem hlt]
    rfl

theorem slice_mid {α : Type} {l : List α} {i j : Nat} {n : Nat} (hn : l.length = n) (hij : i ≤ j) (hj : j ≤ n) :
    Builtin.Slice.sliceAdjust (some (i : Int)) (some (j : Int)) 1 (n : Int) = ((i : Int), (j : Int)) ∧ Builtin.Slice.slicePlaces (i : Int) (j : Int) 1 = j - i := by
  constructor
  · simp only [Builtin.Slice.sliceAdjust]
    have h1 : ¬ ((i : Int) < 0) := by omega
    have h2 : ¬ ((j : Int) < 0) := by omega
    have h3 : ¬ ((1 : Int) < 0) := by omega
    simp only [h1, h2, h3, if_false]
    have h4 : min (i : Int) (n : Int) = i := by omega
    have h5 : min (j : Int) (n : Int) = j := by omega
    rw [h4, h5]
  · simp only [Builtin.Slice.slicePlaces]
    have h3 : (1 : Int) > 0 := by omega
    simp only [h3, if_true]
    by_cases h : (i : Int) < (j : Int)
    · simp only [h, if_true, Int.ediv_one]
      omega
    · simp only [h, if_false]
      omega

theorem range_size {a b : Nat} (h : a ≤ b) : Builtin.Range.rangeSize (a : Int) (b : Int) 1 = ((b - a : Nat) : Int) := by
  simp only [Builtin.Range.rangeSize]
  have h3 : (1 : Int) > 0 := by omega
  simp only [h3, if_true]
  by_cases h : (a : Int) < (b : Int)
  · simp only [h, if_true, Int.ediv_one]; omega
  · simp only [h, if_false]; omega
theorem range_small {a b : Nat} (h : a ≤ b) (hb : b ≤ 1000) : Builtin.Range.small (a : Int) (b : Int) 1 = true := by
  have f : ∀ i : Int, 0 ≤ i → i ≤ 2000 → Builtin.Range.rangeFitsLong i = true := by
    intro i h1 h2
    unfold Builtin.Range.rangeFitsLong
    simp only [Bool.and_eq_true, decide_eq_true_eq]
    omega
  unfold Builtin.Range.small
  rw [range_size h, f a (by omega) (by omega), f b (by omega) (by omega), f 1 (by omega) (by omega), f _ (by omega) (by omega)]
  have h3 : (1 : Int) > 0 := by omega
  rw [if_pos h3, f _ (by omega) (by omega)]
  simp
section
variable {prog : Program} {w : World} {A : Around} {E : Value → Shared → Prop} {s : Shared}
theorem len_tupK {t : Addr} {l : List Value} {n : Nat} {Q : Value → Shared → Prop} (ht : IsTup s.heap t l.toArray) (hn : l.length = n) (hz : n ≤ 1000)
    (h : Q (.int (n : Int) (s.toks + 1)) { s with toks := s.toks + 1 + 1 }) : wpAny (model prog w) A (call (.builtin "len") [.ref t]) Q E s := by
  subst hn
  exact len_tuple ht (by rw [List.size_toArray]; omega) h
theorem item_sym {value slice : Expr} {t : Addr} {l : List Value} {k : Int} {j : Nat} {u : Tok} {x : Value} {Q : Value → Shared → Prop} (ht : IsTup s.heap t l.toArray)
    (hk : k = (j : Int)) (hj : j ≤ 1000) (hx : l[j]? = some x) (h : Q x s)
    (hs : subscripted slice false (.ref t) (.int k u) = operate [.ref t, .int k u] (getItem (.ref t) (.int k u)) := by with_unfolding_all rfl) :
    wpAny (model prog w) A (subscriptTail value slice (.ref t) (.int k u)) Q E s := by
  subst hk
  have hlt : j < l.length := (List.getElem?_eq_some_iff.mp hx).1
  refine item_tupleT (j := j) ht (by omega) (by omega) ?_ hx h hs
  simp only [seqIndex?]
  have h1 : ¬ ((j : Int) < 0) := by omega
  simp [h1, hlt]
end
end Mine
namespace Mine
/-! ## parts of the text, by place -/
inductive IsNth : List Stmt → Nat → Stmt → Prop
  | z {x : Stmt} {l : List Stmt} : IsNth (x :: l) 0 x
  | s {x y : Stmt} {l : List Stmt} {n : Nat} : IsNth l n x → IsNth (y :: l) (n + 1) x
inductive IsForS : Stmt → Expr → Expr → List Stmt → Prop
  | mk {t i : Expr} {b : List Stmt} {p : Pos} : IsForS (.For t i b [] p) t i b
noncomputable abbrev fnBody {st : Stmt} {a : Arguments} {b : List Stmt} {sc : Scope} (_ : IsFn st a b sc) : List Stmt := b
noncomputable abbrev fnScope {st : Stmt} {a : Arguments} {b : List Stmt} {sc : Scope} (_ : IsFn st a b sc) : Scope := sc
noncomputable abbrev nthS {l : List Stmt} {n : Nat} {x : Stmt} (_ : IsNth l n x) : Stmt := x
noncomputable abbrev forT {st : Stmt} {t i : Expr} {b : List Stmt} (_ : IsForS st t i b) : Expr := t
noncomputable abbrev forB {st : Stmt} {t i : Expr} {b : List Stmt} (_ : IsForS st t i b) : List Stmt := b

/-! ## entering a def, its end small -/
noncomputable def retv : Flow → Value
  | .ret v => v
  | _ => .none
def NoE : Value → Shared → Prop := fun _ _ => False
section
variable {w : World} {dp un : Nat} {fr : Option (List Env)} {gd : Option (List Code)} {s : Shared} {K : Frag} {Q E : Value → Shared → Prop} {p : Program} {loose : List Str} {mean : ExcName → Option Value} {mg mb : Str → Option Value}
  {name qual : Str} {params : Arguments} {body : List Stmt} {scope : Scope} {dV kV doc pm cdv ct oc : Value} {an od : Option Addr} {osl : Array (Option Value)} {f : Addr} {vs : List Value} {binds : List (Str × Value)} {H : Heap}

theorem enterP1 (X : K.In H) (T : Top p loose mean mg mb H) (hH : H.StaysIn s.heap)
    (ho : K.lookup f = some ⟨oc, od, .func (fnOf name qual params body scope dV kV doc pm an cdv ct), osl⟩) (hcd : codeIn K cdv qual = true) (hroom : dp < recursionLimit)
    (hbind : BindsTo s (fnOf name qual params body scope dV kV doc pm an cdv ct) ⟨vs, []⟩ binds) (hloc : ∀ y ∈ binds, scope.names.lookup y.1 = some .local)
    (h : ∀ L' h₁ tk fr' gd', Fr s.heap L' h₁ (fun y => binds.reverse.lookup y) → News s.heap L' h₁ [] → K.In s.heap → Top p loose mean mg mb s.heap →
      wpAny (model PySem.Challenge.rw_nu0043_01.row.prog w) (AA (dp + 1) fr' gd' (un + 3)) (execs body (envOf qual scope L' f cdv)) (fun fl s' => Q (retv fl) s') NoE { s with heap := h₁, toks := tk })
    (hco : scope.isCoroutine = false) (hgen : scope.isGenerator = false) (hk : scope.kind = .function)
    (hcell : ∀ x ∈ scope.names, x.2 ≠ .cell) : wpAny (model PySem.Challenge.rw_nu0043_01.row.prog w) (AA dp fr gd un) (call (.ref f) vs) Q E s :=
  wpAny_call (enterP0 X T hH ho hcd hroom hbind hloc (fun L' h₁ tk F N X' T' => wpAny_mono (h L' h₁ tk _ _ F N X' T') (fun fl s' q => by cases fl <;> exact q) fun _ _ e => e.elim) hco hgen hk hcell)

theorem enterC1 (X : K.In H) (T : Top p loose mean mg mb H) (hH : H.StaysIn s.heap)
    (ho : K.lookup f = some ⟨oc, od, .func (fnOf name qual params body scope dV kV doc pm an cdv ct), osl⟩) (hcd : codeIn K cdv qual = true) (hroom : dp < recursionLimit)
    (hbind : BindsTo s (fnOf name qual params body scope dV kV doc pm an cdv ct) ⟨vs, []⟩ binds) (hkind : (binds.all fun y => scope.names.lookup y.1 == some .local || scope.names.lookup y.1 == some .cell) = true)
    (hnd : ((cellsFrom 0 scope.names []).map (·.1)).Nodup)
    (h : ∀ L' h₁ tk cells fr' gd', Fr s.heap L' h₁ (bindL (envOfC qual scope L' f cdv).kindOf binds fun _ => none) → News s.heap L' h₁ cells → CellsAre (bindC (envOfC qual scope L' f cdv).kindOf binds fun _ => none) (cellsFrom (L' + 1) scope.names []) cells → K.In s.heap → Top p loose mean mg mb s.heap →
      wpAny (model PySem.Challenge.rw_nu0043_01.row.prog w) (AA (dp + 1) fr' gd' (un + 3)) (execs body (envOfC qual scope L' f cdv)) (fun fl s' => Q (retv fl) s') NoE { s with heap := h₁, toks := tk })
    (hco : scope.isCoroutine = false) (hgen : scope.isGenerator = false) (hk : scope.kind = .function) : wpAny (model PySem.Challenge.rw_nu0043_01.row.prog w) (AA dp fr gd un) (call (.ref f) vs) Q E s :=
  wpAny_call (enterC0 X T hH ho hcd hroom hbind hkind hnd (fun L' h₁ tk cells F N Y X' T' => wpAny_mono (h L' h₁ tk cells _ _ F N Y X' T') (fun fl s' q => by cases fl <;> exact q) fun _ _ e => e.elim) hco hgen hk)
end

/-- a cut: the middle's end first -/
theorem cutF {M : Model} {A : Around} {α : Type} {t : Sem α} {P Q : α → Shared → Prop} {E : Value → Shared → Prop} {s : Shared} (h1 : wpAny M A t P NoE s) (h2 : ∀ f s', P f s' → Q f s') : wpAny M A t Q E s :=
  wpAny_mono h1 h2 fun _ _ e => e.elim

section
variable {prog : Program} {w : World} {A : Around} {E : Value → Shared → Prop} {s : Shared} {h₀ : Heap} {L : Addr} {m : Str → Option Value} {news : List (Addr × Obj)}
theorem slice_sym {value slice : Expr} {t : Addr} {items : List Value} {lo hi : Int} {u1 u2 : Tok} {i j : Nat} {ops : List Value} {Q : Value → Shared → Prop} (F : Fr h₀ L s.heap m) (N : News h₀ L s.heap news) (ht : IsTup s.heap t items.toArray)
    (hlo : lo = (i : Int)) (hhi : hi = (j : Int)) (h1 : 1 ≤ i) (hij : i ≤ j) (hj : j ≤ items.length) (hz : items.length ≤ 1000)
    (h : ∀ r h', Fr h₀ L h' m → News h₀ L h' ((r, tupO ((items.drop i).take (j - i)) 0) :: news) → (∀ p ∈ news, p.1 < r) → Q (.ref r) { s with heap := h' })
    (hs : subscripted slice false (.ref t) (.ref s.heap.objs.size) = operate ops (getItem (.ref t) (.ref s.heap.objs.size)))
    (hg : ∀ r, letTemporaryGo value (.ref t) r = pure ()) :
    wpAny (model prog w) A (subscriptTail value slice (.ref t) (.ref s.heap.objs.size)) Q E { s with heap := s.heap.push { cls := .type "slice", data := .fields #[.int lo u1, .int hi u2, .none] } } := by
  subst hlo hhi
  have q := slice_mid (l := items) rfl hij hj
  refine slice_tuple (lo := some (i : Int)) (hi := some (j : Int)) (st := none) F N ht (IsPart.int _ _) (IsPart.int _ _) IsPart.none rfl ?_ ?_ ?_ h hs hg
  · show ((Builtin.Slice.sliceAdjust (some (i : Int)) (some (j : Int)) 1 (items.length : Int)).1 == 0 && _ && _) = false
    rw [q.1]
    have : ((i : Int) == 0) = false := by simp; omega
    simp [this]
  · show (List.range (Builtin.Slice.slicePlaces (Builtin.Slice.sliceAdjust (some (i : Int)) (some (j : Int)) 1 (items.length : Int)).1 (Builtin.Slice.sliceAdjust (some (i : Int)) (some (j : Int)) 1 (items.length : Int)).2 1)).filterMap (fun (k : Nat) => items[((Builtin.Slice.sliceAdjust (some (i : Int)) (some (j : Int)) 1 (items.length : Int)).1 + (k : Int) * 1).toNat]?) = _
    rw [q.1]
    dsimp only
    rw [q.2]
    exact take_filterMap items i (j - i) (by omega)
  · rw [sizeLine_eq, List.length_take, List.length_drop]; omega
end

section
variable {prog : Program} {w : World} {A : Around} {E : Value → Shared → Prop} {s : Shared} {h₀ : Heap} {L : Addr} {m : Str → Option Value} {news : List (Addr × Obj)}
theorem isList_of {h : Heap} {l : Addr} {vs : List Value} {n : Nat} (N : News h₀ L h news) (hl : (l, lstO vs n) ∈ news) : h.IsList l vs.toArray := ⟨_, (N _ hl).1, rfl, n, rfl⟩
theorem list_eq_nil {l b : Addr} {vs : List Value} {n k : Nat} {Q : Value → Shared → Prop} (N : News h₀ L s.heap news) (hl : (l, lstO vs n) ∈ news) (hb : (b, lstO [] k) ∈ news) (hu : A.units < cLine) (h : Q (.bool vs.isEmpty) s) :
    wpAny (model prog w) A (compareOp .Eq (.ref l) (.ref b)) Q E s := by
  cases vs with
  | nil => exact SeqAt.eq_listAt (e := fun _ => true) (isList_of N hl) (isList_of N hb) rfl hu (fun j h1 => absurd h1 (Nat.not_lt_zero _)) h
  | cons v vs => exact SeqAt.eq_list_lengthsAt (isList_of N hl) (isList_of N hb) (by simp) hu h
end

/-- the walk is to stop here -/
def Hold (P : Prop) : Prop := P
theorem of_hold {P : Prop} (h : Hold P) : P := h

section
variable {prog : Program} {w : World} {A : Around} {E : Value → Shared → Prop} {s : Shared} {h₀ : Heap} {L : Addr} {m : Str → Option Value} {env : Env}
theorem turn2 {elt target iter t2 iter2 : Expr} {scope : Scope} {pos : Pos} {I D : Addr} {cenv : Env} : compTurn (.ListComp elt [⟨target, iter, [], 0⟩, ⟨t2, iter2, [], 0⟩] scope pos) 0 (.ref I) (.ref D) cenv =
    turnOf target [] (.ref I) cenv iter.pos (emitTwo iter2 (.ListComp elt [⟨target, iter, [], 0⟩, ⟨t2, iter2, [], 0⟩] scope pos) cenv (.ref D)) (.compLoop (.ListComp elt [⟨target, iter, [], 0⟩, ⟨t2, iter2, [], 0⟩] scope pos) 0 (.ref I) (.ref D) cenv) := by
  unfold compTurn turnOf emitTwo
  dsimp only
  simp only [bne_self_eq_false, Bool.false_eq_true, if_false, bind_assoc, pure_bind, List.getElem?_cons_zero, List.getElem?_cons_succ]
  rfl
theorem comp_eval2 {elt target iter t2 iter2 : Expr} {scope : Scope} {cl : List (Str × Addr)} {pos : Pos} {Q : Value → Shared → Prop} (F : Fr h₀ L s.heap m)
    (hclos : closureFor scope env = pure cl) (hcell : ∀ y ∈ scope.names, y.2 ≠ .cell) (hkind : scope.kind = .function)
    (hnames : ∀ y ∈ scope.names, y.2 = .local → scope.names.lookup y.1 = some .local)
    (h : wpAny (model prog w) A (eval iter env) (CSrc prog w A h₀ L m env target scope cl [] (emitTwo iter2 (.ListComp elt [⟨target, iter, [], 0⟩, ⟨t2, iter2, [], 0⟩] scope pos)) (fun D s₂ => FinE h₀ L m D s₂ Q)) E s)
    (hs : ∀ x, foldedSetIterable iter env x = pure x := by intro _; rfl) :
    wpAny (model prog w) A (eval (.ListComp elt [⟨target, iter, [], 0⟩, ⟨t2, iter2, [], 0⟩] scope pos) env) Q E s :=
  comp_eval F (emitTwo iter2 (.ListComp elt [⟨target, iter, [], 0⟩, ⟨t2, iter2, [], 0⟩] scope pos)) (fun _ _ _ => turn2) hclos hcell hkind hnames h hs
end
end Mine
namespace Mine
open LCg (NsObj ns_obj lst lst_snoc Off3)
section
variable {w : World} {dp un : Nat} {fr : Option (List Env)} {gd : Option (List Code)} {s : Shared} {K : Frag} {Q E : Value → Shared → Prop} {p : Program} {loose : List Str} {mean : ExcName → Option Value} {mg mb : Str → Option Value}
  {name qual : Str} {params : Arguments} {body : List Stmt} {scope : Scope} {dV kV doc pm cdv ct oc : Value} {an od : Option Addr} {osl : Array (Option Value)} {f : Addr} {vs : List Value} {binds : List (Str × Value)} {H g : Heap}
  {L : Addr} {m : Str → Option Value} {news : List (Addr × Obj)}

/-- a call whose frame keeps the caller's ground: the caller's names stand in the ledger -/
theorem enterG (X : K.In H) (T : Top p loose mean mg mb H) (hH : H.StaysIn g) (F : Fr g L s.heap m) (N : News g L s.heap news)
    (ho : K.lookup f = some ⟨oc, od, .func (fnOf name qual params body scope dV kV doc pm an cdv ct), osl⟩) (hcd : codeIn K cdv qual = true) (hroom : dp < recursionLimit)
    (hbind : BindsTo s (fnOf name qual params body scope dV kV doc pm an cdv ct) ⟨vs, []⟩ binds) (hloc : ∀ y ∈ binds, scope.names.lookup y.1 = some .local)
    (h : ∀ L' h₁ tk oL fr' gd', Fr g L' h₁ (fun y => binds.reverse.lookup y) → News g L' h₁ ((L, oL) :: news) → NsObj oL m → (∀ p ∈ news, p.1 ≠ L) →
      wpAny (model PySem.Challenge.rw_nu0043_01.row.prog w) (AA (dp + 1) fr' gd' (un + 3)) (execs body (envOf qual scope L' f cdv)) (fun fl s' => Q (retv fl) s') NoE { s with heap := h₁, toks := tk })
    (hco : scope.isCoroutine = false) (hgen : scope.isGenerator = false) (hk : scope.kind = .function)
    (hcell : ∀ x ∈ scope.names, x.2 ≠ .cell) : wpAny (model PySem.Challenge.rw_nu0043_01.row.prog w) (AA dp fr gd un) (call (.ref f) vs) Q E s := by
  have hHs : H.StaysIn s.heap := fun b o e => F.keep b o (hH b o e)
  obtain ⟨oL, heL, hoL⟩ := ns_obj F.ns
  refine enterP1 X T hHs ho hcd hroom hbind hloc (fun L' h₁ tk fr' gd' F' N' X' T' => ?_) hco hgen hk hcell
  have hlt : ∀ b o, s.heap.get? b = some o → b ≠ L' := fun b o e => Nat.ne_of_lt (Nat.lt_of_lt_of_le (Heap.lt_size e) F'.above)
  refine h L' h₁ tk oL fr' gd' ⟨F'.ns, fun b o e => F'.keep b o (F.keep b o e), Nat.le_trans F.above (Nat.le_trans (Nat.le_of_lt F.ns.lt) F'.above)⟩ (fun p hp => ?_) hoL (fun p hp => (N p hp).2.1)
  rcases List.mem_cons.mp hp with rfl | hp
  · exact ⟨F'.keep _ _ heL, hlt _ _ heL, Heap.get?_none_of_le F.above⟩
  · have z := N p hp
    exact ⟨F'.keep _ _ z.1, hlt _ _ z.1, z.2.2⟩

theorem enterGC (X : K.In H) (T : Top p loose mean mg mb H) (hH : H.StaysIn g) (F : Fr g L s.heap m) (N : News g L s.heap news)
    (ho : K.lookup f = some ⟨oc, od, .func (fnOf name qual params body scope dV kV doc pm an cdv ct), osl⟩) (hcd : codeIn K cdv qual = true) (hroom : dp < recursionLimit)
    (hbind : BindsTo s (fnOf name qual params body scope dV kV doc pm an cdv ct) ⟨vs, []⟩ binds) (hkind : (binds.all fun y => scope.names.lookup y.1 == some .local || scope.names.lookup y.1 == some .cell) = true)
    (hnd : ((cellsFrom 0 scope.names []).map (·.1)).Nodup)
    (h : ∀ L' h₁ tk oL cells fr' gd', Fr g L' h₁ (bindL (envOfC qual scope L' f cdv).kindOf binds fun _ => none) → News g L' h₁ (cells ++ (L, oL) :: news) → CellsAre (bindC (envOfC qual scope L' f cdv).kindOf binds fun _ => none) (cellsFrom (L' + 1) scope.names []) cells → NsObj oL m → (∀ p ∈ news, p.1 ≠ L) → (∀ p ∈ (L, oL) :: news, p.1 < L') →
      wpAny (model PySem.Challenge.rw_nu0043_01.row.prog w) (AA (dp + 1) fr' gd' (un + 3)) (execs body (envOfC qual scope L' f cdv)) (fun fl s' => Q (retv fl) s') NoE { s with heap := h₁, toks := tk })
    (hco : scope.isCoroutine = false) (hgen : scope.isGenerator = false) (hk : scope.kind = .function) : wpAny (model PySem.Challenge.rw_nu0043_01.row.prog w) (AA dp fr gd un) (call (.ref f) vs) Q E s := by
  have hHs : H.StaysIn s.heap := fun b o e => F.keep b o (hH b o e)
  obtain ⟨oL, heL, hoL⟩ := ns_obj F.ns
  refine enterC1 X T hHs ho hcd hroom hbind hkind hnd (fun L' h₁ tk cells fr' gd' F' N' Y X' T' => ?_) hco hgen hk
  have hlt' : ∀ b o, s.heap.get? b = some o → b < L' := fun b o e => Nat.lt_of_lt_of_le (Heap.lt_size e) F'.above
  have hlt : ∀ b o, s.heap.get? b = some o → b ≠ L' := fun b o e => Nat.ne_of_lt (hlt' b o e)
  refine h L' h₁ tk oL cells fr' gd' ⟨F'.ns, fun b o e => F'.keep b o (F.keep b o e), Nat.le_trans F.above (Nat.le_trans (Nat.le_of_lt F.ns.lt) F'.above)⟩ (fun p hp => ?_) Y hoL (fun p hp => (N p hp).2.1) (fun p hp => ?_)
  · rcases List.mem_append.mp hp with hp | hp
    · have z := N' p hp
      refine ⟨z.1, z.2.1, ?_⟩
      cases q : g.get? p.1 with
      | none => rfl
      | some o => have := F.keep _ _ q; rw [z.2.2] at this; cases this
    · rcases List.mem_cons.mp hp with rfl | hp
      · exact ⟨F'.keep _ _ heL, hlt _ _ heL, Heap.get?_none_of_le F.above⟩
      · have z := N p hp
        exact ⟨F'.keep _ _ z.1, hlt _ _ z.1, z.2.2⟩
  · rcases List.mem_cons.mp hp with rfl | hp
    · exact hlt' _ _ heL
    · exact hlt' _ _ (N p hp).1

theorem backG {h₀ h' : Heap} {L' : Addr} {m' : Str → Option Value} {oL : Obj} {nw : List (Addr × Obj)} (F : Fr g L h₀ m) (hns : NsObj oL m) (F' : Fr g L' h' m') (N' : News g L' h' ((L, oL) :: nw)) (hn : ∀ p ∈ nw, p.1 ≠ L) :
    Fr g L h' m ∧ News g L h' nw :=
  ⟨⟨hns.ns (N' _ (.head _)).1, F'.keep, F.above⟩, fun p hp => ⟨(N' p (.tail _ hp)).1, hn p hp, (N' p (.tail _ hp)).2.2⟩⟩
end

section
variable {prog : Program} {w : World} {A : Around} {E : Value → Shared → Prop} {s : Shared} {h₀ : Heap} {L : Addr} {m : Str → Option Value} {news : List (Addr × Obj)}
theorem item_symL {value slice : Expr} {l : Addr} {vs : List Value} {n : Nat} {k : Int} {u : Tok} {x : Value} {Q : Value → Shared → Prop} (N : News h₀ L s.heap news) (hl : (l, lstO vs n) ∈ news) (h0 : 0 ≤ k) (hk : k ≤ 1000000) (hx : vs[k.toNat]? = some x) (h : Q x s)
    (hs : subscripted slice false (.ref l) (.int k u) = operate [.ref l, .int k u] (getItem (.ref l) (.int k u)) := by with_unfolding_all rfl) :
    wpAny (model prog w) A (subscriptTail value slice (.ref l) (.int k u)) Q E s :=
  have il := isList_of N hl
  tail_any il.typeIs slot_list_getitem.lookup (wpAny_getItem_list il h0 (by omega) (by simpa using hx) h) hs
end

section
variable {prog : Program} {w : World} {A : Around} {E : Value → Shared → Prop} {s : Shared} {h₀ : Heap} {L : Addr} {m : Str → Option Value} {news : List (Addr × Obj)}
theorem len_listK {l : Addr} {vs : List Value} {n : Nat} {Q : Value → Shared → Prop} (N : News h₀ L s.heap news) (hl : (l, lstO vs n) ∈ news) (hz : vs.length ≤ 1000000)
    (h : Q (.int (vs.length : Nat) (s.toks + 1)) { s with toks := s.toks + 1 + 1 }) : wpAny (model prog w) A (call (.builtin "len") [.ref l]) Q E s :=
  len_list (isList_of N hl) (by rw [List.size_toArray]; omega) (by rw [List.size_toArray]; exact h)
end
theorem swapN {h₀ h : Heap} {L : Addr} {a b : Addr × Obj} {r : List (Addr × Obj)} (N : News h₀ L h (a :: b :: r)) : News h₀ L h (b :: a :: r) := fun p hp => N p (by
  rcases List.mem_cons.mp hp with rfl | hp
  · exact .tail _ (.head _)
  · rcases List.mem_cons.mp hp with rfl | hp
    · exact .head _
    · exact .tail _ (.tail _ hp))
theorem subN {h₀ h : Heap} {L : Addr} {l r : List (Addr × Obj)} (N : News h₀ L h l) (hs : ∀ p ∈ r, p ∈ l) : News h₀ L h r := fun p hp => N p (hs p hp)
end Mine
namespace Mine
open LCg (NsObj ns_obj lst lst_snoc Off3)

/-! ## a heap with some of its objects taken out -/
noncomputable def er1 (h : Heap) (a : Addr) : Heap := h.update a fun o => { o with data := .freed }
noncomputable def er (h : Heap) : List Addr → Heap
  | [] => h
  | a :: r => er1 (er h r) a
theorem er1_size (h : Heap) (a : Addr) : (er1 h a).objs.size = h.objs.size := by
  cases h; simp [er1, Heap.update]
theorem er1_self (h : Heap) (a : Addr) : (er1 h a).get? a = none := by
  cases h with
  | mk objs l =>
    simp only [er1, Heap.update, Heap.get?, Array.getElem?_modify, if_true]
    cases objs[a]? with
    | none => rfl
    | some o => rfl
theorem er1_other (h : Heap) {a b : Addr} (hb : b ≠ a) : (er1 h a).get? b = h.get? b := by
  cases h with
  | mk objs l =>
    simp only [er1, Heap.update, Heap.get?, Array.getElem?_modify]
    rw [if_neg (Ne.symm hb)]
theorem er_size (h : Heap) : ∀ as, (er h as).objs.size = h.objs.size
  | [] => rfl
  | a :: r => by rw [er, er1_size, er_size h r]
theorem er_none (h : Heap) {b : Addr} : ∀ {as : List Addr}, b ∈ as → (er h as).get? b = none
  | [], hb => by cases hb
  | a :: r, hb => by
    by_cases e : b = a
    · subst e; exact er1_self _ _
    · rw [er, er1_other _ e]
      rcases List.mem_cons.mp hb with rfl | hb
      · exact absurd rfl e
      · exact er_none h hb
theorem er_other (h : Heap) {b : Addr} : ∀ {as : List Addr}, b ∉ as → (er h as).get? b = h.get? b
  | [], _ => rfl
  | a :: r, hb => by
    have e : b ≠ a := fun e => hb (by rw [e]; exact List.mem_cons_self)
    rw [er, er1_other _ e, er_other h fun m => hb (List.mem_cons_of_mem _ m)]
theorem er_keeps (h : Heap) {as : List Addr} {b : Addr} {o : Obj} (e : (er h as).get? b = some o) : h.get? b = some o ∧ b ∉ as := by
  by_cases m : b ∈ as
  · rw [er_none h m] at e; cases e
  · rw [er_other h m] at e; exact ⟨e, m⟩

abbrev adrs (ps : List (Addr × Obj)) : List Addr := ps.map (·.1)

section
variable {w : World} {dp un : Nat} {fr : Option (List Env)} {gd : Option (List Code)} {s : Shared} {K : Frag} {Q E : Value → Shared → Prop} {p : Program} {loose : List Str} {mean : ExcName → Option Value} {mg mb : Str → Option Value}
  {name qual : Str} {params : Arguments} {body : List Stmt} {scope : Scope} {dV kV doc pm cdv ct oc : Value} {an od : Option Addr} {osl : Array (Option Value)} {f : Addr} {vs : List Value} {binds : List (Str × Value)} {H h₀ : Heap}
  {L : Addr} {m : Str → Option Value} {ps : List (Addr × Obj)}

theorem enterE (X : K.In H) (T : Top p loose mean mg mb H) (hH : H.StaysIn h₀) (F : Fr h₀ L s.heap m) (N : News h₀ L s.heap ps)
    (ho : K.lookup f = some ⟨oc, od, .func (fnOf name qual params body scope dV kV doc pm an cdv ct), osl⟩) (hcd : codeIn K cdv qual = true) (hroom : dp < recursionLimit)
    (hbind : BindsTo s (fnOf name qual params body scope dV kV doc pm an cdv ct) ⟨vs, []⟩ binds) (hloc : ∀ y ∈ binds, scope.names.lookup y.1 = some .local)
    (h : ∀ L' h₁ tk g fr' gd', g = er s.heap (adrs ps) → H.StaysIn g → Fr g L' h₁ (fun y => binds.reverse.lookup y) → News g L' h₁ ps → (∀ p ∈ ps, p.1 ≠ L') → K.In g → Top p loose mean mg mb g →
      wpAny (model PySem.Challenge.rw_nu0043_01.row.prog w) (AA (dp + 1) fr' gd' (un + 3)) (execs body (envOf qual scope L' f cdv)) (fun fl s' => Q (retv fl) s') NoE { s with heap := h₁, toks := tk })
    (hco : scope.isCoroutine = false) (hgen : scope.isGenerator = false) (hk : scope.kind = .function)
    (hcell : ∀ x ∈ scope.names, x.2 ≠ .cell) : wpAny (model PySem.Challenge.rw_nu0043_01.row.prog w) (AA dp fr gd un) (call (.ref f) vs) Q E s := by
  have hHs : H.StaysIn s.heap := fun b o e => F.keep b o (hH b o e)
  have hHg : H.StaysIn (er s.heap (adrs ps)) := fun b o e => by
    rw [er_other]
    · exact hHs b o e
    · intro hm
      obtain ⟨q, hq, rfl⟩ := List.mem_map.mp hm
      have := (N q hq).2.2
      rw [hH _ _ e] at this; cases this
  refine enterP1 X T hHs ho hcd hroom hbind hloc (fun L' h₁ tk fr' gd' F' N' X' T' => ?_) hco hgen hk hcell
  have hlt : ∀ q ∈ ps, q.1 ≠ L' := fun q hq => Nat.ne_of_lt (Nat.lt_of_lt_of_le (Heap.lt_size (N q hq).1) F'.above)
  refine h L' h₁ tk _ fr' gd' rfl hHg ⟨F'.ns, fun b o e => F'.keep b o (er_keeps _ e).1, by rw [er_size]; exact F'.above⟩ (fun q hq => ⟨F'.keep _ _ (N q hq).1, hlt q hq, er_none _ (List.mem_map.mpr ⟨q, hq, rfl⟩)⟩) hlt (X.keeps hHg) (T.keeps hHg)

theorem enterEC (X : K.In H) (T : Top p loose mean mg mb H) (hH : H.StaysIn h₀) (F : Fr h₀ L s.heap m) (N : News h₀ L s.heap ps)
    (ho : K.lookup f = some ⟨oc, od, .func (fnOf name qual params body scope dV kV doc pm an cdv ct), osl⟩) (hcd : codeIn K cdv qual = true) (hroom : dp < recursionLimit)
    (hbind : BindsTo s (fnOf name qual params body scope dV kV doc pm an cdv ct) ⟨vs, []⟩ binds) (hkind : (binds.all fun y => scope.names.lookup y.1 == some .local || scope.names.lookup y.1 == some .cell) = true)
    (hnd : ((cellsFrom 0 scope.names []).map (·.1)).Nodup)
    (h : ∀ L' h₁ tk cells g fr' gd', g = er s.heap (adrs ps) → H.StaysIn g → Fr g L' h₁ (bindL (envOfC qual scope L' f cdv).kindOf binds fun _ => none) → News g L' h₁ (cells ++ ps) → (∀ p ∈ ps, p.1 < L') → CellsAre (bindC (envOfC qual scope L' f cdv).kindOf binds fun _ => none) (cellsFrom (L' + 1) scope.names []) cells → K.In g → Top p loose mean mg mb g →
      wpAny (model PySem.Challenge.rw_nu0043_01.row.prog w) (AA (dp + 1) fr' gd' (un + 3)) (execs body (envOfC qual scope L' f cdv)) (fun fl s' => Q (retv fl) s') NoE { s with heap := h₁, toks := tk })
    (hco : scope.isCoroutine = false) (hgen : scope.isGenerator = false) (hk : scope.kind = .function) : wpAny (model PySem.Challenge.rw_nu0043_01.row.prog w) (AA dp fr gd un) (call (.ref f) vs) Q E s := by
  have hHs : H.StaysIn s.heap := fun b o e => F.keep b o (hH b o e)
  have hHg : H.StaysIn (er s.heap (adrs ps)) := fun b o e => by
    rw [er_other]
    · exact hHs b o e
    · intro hm
      obtain ⟨q, hq, rfl⟩ := List.mem_map.mp hm
      have := (N q hq).2.2
      rw [hH _ _ e] at this; cases this
  refine enterC1 X T hHs ho hcd hroom hbind hkind hnd (fun L' h₁ tk cells fr' gd' F' N' Y' X' T' => ?_) hco hgen hk
  have hlt : ∀ q ∈ ps, q.1 < L' := fun q hq => Nat.lt_of_lt_of_le (Heap.lt_size (N q hq).1) F'.above
  refine h L' h₁ tk cells _ fr' gd' rfl hHg ⟨F'.ns, fun b o e => F'.keep b o (er_keeps _ e).1, by rw [er_size]; exact F'.above⟩ (fun q hq => ?_) hlt Y' (X.keeps hHg) (T.keeps hHg)
  rcases List.mem_append.mp hq with hq | hq
  · refine ⟨(N' q hq).1, (N' q hq).2.1, ?_⟩
    cases e : (er s.heap (adrs ps)).get? q.1 with
    | none => rfl
    | some o => have := (er_keeps _ e).1; rw [(N' q hq).2.2] at this; cases this
  · exact ⟨F'.keep _ _ (N q hq).1, Nat.ne_of_lt (hlt q hq), er_none _ (List.mem_map.mpr ⟨q, hq, rfl⟩)⟩
end

theorem backE {h₀ hs h' g : Heap} {L L' : Addr} {m m' : Str → Option Value} {ps ps' news tl : List (Addr × Obj)} (hg : g = er hs (adrs ps)) (F : Fr h₀ L hs m) (N : News h₀ L hs (ps ++ news)) (hoff : ∀ q ∈ news, q.1 ∉ adrs ps)
    (F' : Fr g L' h' m') (N' : News g L' h' (ps' ++ tl)) (hps : adrs ps' = adrs ps) (htl : ∀ p ∈ tl, p.1 ∉ adrs ps) :
    Fr h₀ L h' m ∧ News h₀ L h' (ps' ++ (news ++ tl)) ∧ (∀ q ∈ ps' ++ news, ∀ p ∈ tl, p.1 ≠ q.1) ∧ (∀ b o, b ∉ adrs ps → hs.get? b = some o → h'.get? b = some o) := by
  subst hg
  have keep : ∀ b o, b ∉ adrs ps → hs.get? b = some o → h'.get? b = some o := fun b o hb e => F'.keep b o (by rw [er_other _ hb]; exact e)
  have inps : ∀ {b}, b ∈ adrs ps → ∃ q ∈ ps ++ news, q.1 = b := fun hb => by
    obtain ⟨q, hq, e⟩ := List.mem_map.mp hb
    exact ⟨q, List.mem_append_left _ hq, e⟩
  have hL : L ∉ adrs ps := fun hb => by
    obtain ⟨q, hq, e⟩ := inps hb
    exact (N q hq).2.1 e
  have hfresh : ∀ b, h₀.get? b ≠ none → b ∉ adrs ps := fun b hb hm => by
    obtain ⟨q, hq, e⟩ := inps hm
    exact hb (e ▸ (N q hq).2.2)
  have tlnone : ∀ p ∈ tl, hs.get? p.1 = none := fun p hp => by
    have := (N' p (List.mem_append_right _ hp)).2.2
    rw [er_other _ (htl p hp)] at this
    exact this
  refine ⟨⟨F.ns.at' fun o e => keep L o hL e, fun b o e => keep b o (hfresh b (by rw [e]; simp)) (F.keep b o e), F.above⟩, fun p hp => ?_, fun q hq p hp e => ?_, keep⟩
  · rcases List.mem_append.mp hp with hp | hp
    · have : p.1 ∈ adrs ps := hps ▸ List.mem_map.mpr ⟨p, hp, rfl⟩
      obtain ⟨q, hq, e⟩ := inps this
      exact ⟨(N' p (List.mem_append_left _ hp)).1, e ▸ (N q hq).2.1, e ▸ (N q hq).2.2⟩
    · rcases List.mem_append.mp hp with hp | hp
      · have z := N p (List.mem_append_right _ hp)
        exact ⟨keep _ _ (hoff p hp) z.1, z.2⟩
      · refine ⟨(N' p (List.mem_append_right _ hp)).1, fun e => ?_, ?_⟩
        · obtain ⟨oL, _, _, hL', _⟩ := F.ns
          have := tlnone p hp
          rw [e, hL'] at this; cases this
        · cases e : h₀.get? p.1 with
          | none => rfl
          | some o => have := F.keep _ _ e; rw [tlnone p hp] at this; cases this
  · rcases List.mem_append.mp hq with hq | hq
    · exact htl p hp (e ▸ hps ▸ List.mem_map.mpr ⟨q, hq, rfl⟩)
    · have := tlnone p hp
      rw [e, (N q (List.mem_append_right _ hq)).1] at this; cases this

/-! ## a comprehension over a range -/
section
variable {prog : Program} {w : World} {A : Around} {E : Value → Shared → Prop} {s : Shared} {h₀ h : Heap} {L : Addr} {m : Str → Option Value} {env : Env} {news : List (Addr × Obj)} {ifs : List Expr}
noncomputable def CSrcR (prog : Program) (w : World) (A : Around) (h₀ : Heap) (L : Addr) (m : Str → Option Value) (env : Env) (x : Str) (scope : Scope) (cl : List (Str × Addr)) (ifs : List Expr) (emit : Env → Value → Sem PUnit) (Fn : Addr → Shared → List Value → List (Addr × Obj) → Prop) (xv : Value) (s₁ : Shared) : Prop :=
  ∃ r a b t u v n news, xv = .ref r ∧ A.handled = none ∧ Fr h₀ L s₁.heap m ∧ News h₀ L s₁.heap news ∧ IsRange s₁.heap r a b 1 t u v ∧ Builtin.Range.small a b 1 = true ∧ Builtin.Range.rangeSize a b 1 = ((n : Nat) : Int) ∧
      ∀ I C D s₂, (∃ hh tt, s₂ = { s₁ with heap := hh, toks := tt }) → I ≠ C → I ≠ D → C ≠ D → Off3 I C D news →
        CRest prog w A h₀ L m (compEnvC scope cl C env) ifs (emit (compEnvC scope cl C env) (.ref D)) I C D s₂ (fun _ => True) (fun i v => ∃ t, v = .int (a + (i : Int)) t) (fun v mC => mC x = some v) (Fn D s₂) n 0 [] news

theorem CSrcR.intro {x : Str} {scope : Scope} {cl : List (Str × Addr)} {emit : Env → Value → Sem PUnit} {Fn : Addr → Shared → List Value → List (Addr × Obj) → Prop} {r : Addr} {a b : Int} {t u v : Tok} {n : Nat}
    (hh : A.handled = none) (F : Fr h₀ L s.heap m) (N : News h₀ L s.heap news) (hr : IsRange s.heap r a b 1 t u v) (hsm : Builtin.Range.small a b 1 = true) (hn : Builtin.Range.rangeSize a b 1 = ((n : Nat) : Int))
    (R : ∀ I C D s₂, (∃ hh tt, s₂ = { s with heap := hh, toks := tt }) → I ≠ C → I ≠ D → C ≠ D → Off3 I C D news →
        CRest prog w A h₀ L m (compEnvC scope cl C env) ifs (emit (compEnvC scope cl C env) (.ref D)) I C D s₂ (fun _ => True) (fun i v => ∃ t, v = .int (a + (i : Int)) t) (fun v mC => mC x = some v) (Fn D s₂) n 0 [] news) :
    CSrcR prog w A h₀ L m env x scope cl ifs emit Fn (.ref r) s := ⟨r, a, b, t, u, v, n, news, rfl, hh, F, N, hr, hsm, hn, R⟩

theorem comp_evalR {elt iter : Expr} {x : Str} {px : Pos} {rest : List Comprehension} {scope : Scope} {cl : List (Str × Addr)} {pos : Pos} {Q : Value → Shared → Prop} (_F : Fr h₀ L s.heap m) (emit : Env → Value → Sem PUnit)
    (hturn : ∀ I D cenv, compTurn (.ListComp elt (⟨.Name x px, iter, ifs, 0⟩ :: rest) scope pos) 0 (.ref I) (.ref D) cenv = turnOf (.Name x px) ifs (.ref I) cenv iter.pos (emit cenv (.ref D)) (.compLoop (.ListComp elt (⟨.Name x px, iter, ifs, 0⟩ :: rest) scope pos) 0 (.ref I) (.ref D) cenv))
    (hclos : closureFor scope env = pure cl) (hcell : ∀ y ∈ scope.names, y.2 ≠ .cell) (hkind : scope.kind = .function)
    (hnames : ∀ y ∈ scope.names, y.2 = .local → scope.names.lookup y.1 = some .local) (hx : scope.names.lookup x = some .local)
    (h : wpAny (model prog w) A (eval iter env) (CSrcR prog w A h₀ L m env x scope cl ifs emit (fun D s₂ => FinE h₀ L m D s₂ Q)) E s)
    (hs : ∀ x, foldedSetIterable iter env x = pure x := by intro _; rfl) :
    wpAny (model prog w) A (eval (.ListComp elt (⟨.Name x px, iter, ifs, 0⟩ :: rest) scope pos) env) Q E s := by
  rw [eval_ListComp]
  refine wpAny_comprehension_free (use := none) rfl hs hclos hkind hnames (wpAny_mono h (fun xv s₁ h₁ => ?_) fun _ _ e => e)
  obtain ⟨r, a, b, t, u, v, n, news, rfl, hh, F, N, hr, hsm, hn, R⟩ := h₁
  refine wpAny_pyIter_range hr hsm ?_
  refine block_C (Fin := fun D ys nw => FinE h₀ L m D { s₁ with heap := s₁.heap.push _ } Q ys nw) (S := fun _ => True) (Bd := fun v mC => mC x = some v) emit (hturn _) (LCg.range_walks hh a n) (fun i h st => ⟨_, st⟩) LCg.range_st (fun C i v mC s Q E hi st k hn h => bind_name hkind hx hn h) hcell hkind
    (by show IsRangeIter _ _ _ _ _; rw [hn]; simpa using Heap.get?_push_size _ rfl) (fun b hb => ?_)
    (F.keeps fun _ _ e => Heap.get?_push_of_some _ e) (N.grown fun _ _ e => Heap.get?_push_of_some _ e) (Ne.symm (Nat.ne_of_lt F.ns.lt)) (next_is_new F) (fun p hp => Nat.ne_of_lt (Heap.lt_size (N p hp).1)) trivial (fun C D hIC hID hCD off => R _ C D _ ⟨_, s₁.toks, rfl⟩ hIC hID hCD off) ?_
  · rw [List.mem_singleton.mp hb, Heap.size_push]; exact Nat.lt_succ_self _
  · intro D C h tk m' ys news' F' N' off' hn hC₀ hD₀ hCL hDL hCD _ fin
    refine ⟨m', hn, fun h'' hs'' => fin h'' tk (F'.change hs'' hCL hC₀) (fun p hp => ?_) fun p hp => (off'.mem p hp).2.2⟩
    refine ⟨hs''.extBut _ _ ?_ (N' p hp).1, (N' p hp).2⟩
    rcases List.mem_cons.mp hp with rfl | hp
    · exact Ne.symm hCD
    · exact (off'.mem p hp).2.1
end
theorem rot2 {h₀ h : Heap} {L : Addr} {a b : Addr × Obj} {r : List (Addr × Obj)} (N : News h₀ L h (a :: b :: r)) : News h₀ L h (b :: a :: r) := fun p hp => N p (by
  simp only [List.mem_cons] at hp ⊢; rcases hp with hp | hp | hp <;> simp only [*, true_or, or_true])
theorem rot3 {h₀ h : Heap} {L : Addr} {a b c : Addr × Obj} {r : List (Addr × Obj)} (N : News h₀ L h (a :: b :: c :: r)) : News h₀ L h (c :: a :: b :: r) := fun p hp => N p (by
  simp only [List.mem_cons] at hp ⊢; rcases hp with hp | hp | hp | hp <;> simp only [*, true_or, or_true])
theorem rot4 {h₀ h : Heap} {L : Addr} {a b c d : Addr × Obj} {r : List (Addr × Obj)} (N : News h₀ L h (a :: b :: c :: d :: r)) : News h₀ L h (d :: a :: b :: c :: r) := fun p hp => N p (by
  simp only [List.mem_cons] at hp ⊢; rcases hp with hp | hp | hp | hp | hp <;> simp only [*, true_or, or_true])
theorem rot5 {h₀ h : Heap} {L : Addr} {a b c d e : Addr × Obj} {r : List (Addr × Obj)} (N : News h₀ L h (a :: b :: c :: d :: e :: r)) : News h₀ L h (e :: a :: b :: c :: d :: r) := fun p hp => N p (by
  simp only [List.mem_cons] at hp ⊢; rcases hp with hp | hp | hp | hp | hp | hp <;> simp only [*, true_or, or_true])
theorem rot6 {h₀ h : Heap} {L : Addr} {a b c d e f : Addr × Obj} {r : List (Addr × Obj)} (N : News h₀ L h (a :: b :: c :: d :: e :: f :: r)) : News h₀ L h (f :: a :: b :: c :: d :: e :: r) := fun p hp => N p (by
  simp only [List.mem_cons] at hp ⊢; rcases hp with hp | hp | hp | hp | hp | hp | hp <;> simp only [*, true_or, or_true])
theorem rot7 {h₀ h : Heap} {L : Addr} {a b c d e f g : Addr × Obj} {r : List (Addr × Obj)} (N : News h₀ L h (a :: b :: c :: d :: e :: f :: g :: r)) : News h₀ L h (g :: a :: b :: c :: d :: e :: f :: r) := fun p hp => N p (by
  simp only [List.mem_cons] at hp ⊢; rcases hp with hp | hp | hp | hp | hp | hp | hp | hp <;> simp only [*, true_or, or_true])
theorem rot8 {h₀ h : Heap} {L : Addr} {a b c d e f g i : Addr × Obj} {r : List (Addr × Obj)} (N : News h₀ L h (a :: b :: c :: d :: e :: f :: g :: i :: r)) : News h₀ L h (i :: a :: b :: c :: d :: e :: f :: g :: r) := fun p hp => N p (by
  simp only [List.mem_cons] at hp ⊢; rcases hp with hp | hp | hp | hp | hp | hp | hp | hp | hp <;> simp only [*, true_or, or_true])
theorem rot9 {h₀ h : Heap} {L : Addr} {a b c d e f g i j : Addr × Obj} {r : List (Addr × Obj)} (N : News h₀ L h (a :: b :: c :: d :: e :: f :: g :: i :: j :: r)) : News h₀ L h (j :: a :: b :: c :: d :: e :: f :: g :: i :: r) := fun p hp => N p (by
  simp only [List.mem_cons] at hp ⊢; rcases hp with hp | hp | hp | hp | hp | hp | hp | hp | hp | hp <;> simp only [*, true_or, or_true])
theorem backE1 {h₀ hs h' g : Heap} {L L' ls : Addr} {o o' : Obj} {m m' : Str → Option Value} {news tl : List (Addr × Obj)} (hg : g = er hs (adrs [(ls, o)])) (F : Fr h₀ L hs m) (N : News h₀ L hs ((ls, o) :: news)) (hoff : ∀ q ∈ news, q.1 ≠ ls)
    (F' : Fr g L' h' m') (N' : News g L' h' ((ls, o') :: tl)) (htl : ∀ p ∈ tl, p.1 ≠ ls) :
    Fr h₀ L h' m ∧ News h₀ L h' ((ls, o') :: (news ++ tl)) ∧ (∀ q ∈ (ls, o') :: news, ∀ p ∈ tl, p.1 ≠ q.1) := by
  have z := backE (ps := [(ls, o)]) (ps' := [(ls, o')]) hg F N (fun q hq hm => hoff q hq (List.mem_singleton.mp hm)) F' N' rfl (fun q hq hm => htl q hq (List.mem_singleton.mp hm))
  exact ⟨z.1, z.2.1, z.2.2.1⟩
theorem sub_nil {r : List (Addr × Obj)} : ∀ p ∈ ([] : List (Addr × Obj)), p ∈ r := fun _ h => nomatch h
theorem sub_cons {a : Addr × Obj} {l r : List (Addr × Obj)} (h1 : a ∈ r) (h2 : ∀ p ∈ l, p ∈ r) : ∀ p ∈ a :: l, p ∈ r := List.forall_mem_cons.mpr ⟨h1, h2⟩
theorem sub_app {l l' r : List (Addr × Obj)} (h1 : ∀ p ∈ l, p ∈ r) (h2 : ∀ p ∈ l', p ∈ r) : ∀ p ∈ l ++ l', p ∈ r := List.forall_mem_append.mpr ⟨h1, h2⟩
theorem sub_id {l : List (Addr × Obj)} : ∀ p ∈ l, p ∈ l := fun _ h => h
theorem sub_tl {a : Addr × Obj} {l r : List (Addr × Obj)} (h : ∀ p ∈ l, p ∈ r) : ∀ p ∈ l, p ∈ a :: r := fun p hp => .tail _ (h p hp)
theorem sub_l {l r r' : List (Addr × Obj)} (h : ∀ p ∈ l, p ∈ r) : ∀ p ∈ l, p ∈ r ++ r' := fun p hp => List.mem_append_left _ (h p hp)
theorem sub_r {l r r' : List (Addr × Obj)} (h : ∀ p ∈ l, p ∈ r') : ∀ p ∈ l, p ∈ r ++ r' := fun p hp => List.mem_append_right _ (h p hp)
theorem in_hd {a : Addr × Obj} {r : List (Addr × Obj)} : a ∈ a :: r := .head _
theorem in_tl {a b : Addr × Obj} {r : List (Addr × Obj)} (h : a ∈ r) : a ∈ b :: r := .tail _ h
theorem in_l {a : Addr × Obj} {r r' : List (Addr × Obj)} (h : a ∈ r) : a ∈ r ++ r' := List.mem_append_left _ h
theorem in_r {a : Addr × Obj} {r r' : List (Addr × Obj)} (h : a ∈ r') : a ∈ r ++ r' := List.mem_append_right _ h
end Mine
namespace Mine
open LCg (NsObj ns_obj lst lst_snoc Off3)

/-! ## the places: lists of ints -/
def ded (ns : List Int) (ms : List Int) : List Int := ms.foldl (fun acc x => if acc.any (· == x) then acc else acc ++ [x]) ns
def addAll (ns ms : List Int) : List Int := (ded ns ms).mergeSort (fun a b => decide (a ≤ b))

theorem addAll_perm (ns ms : List Int) : (addAll ns ms).Perm (ded ns ms) := List.mergeSort_perm _ _
theorem addAll_sorted (ns ms : List Int) : (addAll ns ms).Pairwise (· ≤ ·) := by
  have := List.pairwise_mergeSort (le := fun (a b : Int) => decide (a ≤ b)) (fun a b c h1 h2 => by simp at *; omega) (fun a b => by simp; omega) (ded ns ms)
  exact this.imp fun h => by simpa using h
theorem ded_len (ns : List Int) : ∀ ms, (ded ns ms).length ≤ ns.length + ms.length := by
  intro ms
  induction ms generalizing ns with
  | nil => simp [ded]
  | cons x ms ih =>
    have := ih (if ns.any (· == x) then ns else ns ++ [x])
    rw [ded, List.foldl_cons, ← ded]
    refine Nat.le_trans this ?_
    split <;> simp <;> omega
theorem ded_snoc (ns ms : List Int) (x : Int) : ded ns (ms ++ [x]) = if (ded ns ms).any (· == x) then ded ns ms else ded ns ms ++ [x] := by
  rw [ded, List.foldl_append]; rfl

section
variable {prog : Program} {w : World} {A : Around} {E : Value → Shared → Prop} {s : Shared} {h₀ : Heap} {L : Addr} {m : Str → Option Value} {rest : List (Addr × Obj)}

theorem change1 {h h' : Heap} {l : Addr} {o o' : Obj} (F : Fr h₀ L h m) (N : News h₀ L h ((l, o) :: rest)) (off : ∀ p ∈ rest, p.1 ≠ l) (hs : Heap.SameBut l h h') (ho : h'.get? l = some o') :
    Fr h₀ L h' m ∧ News h₀ L h' ((l, o') :: rest) := by
  have z := N (l, o) (.head _)
  refine ⟨F.change hs z.2.1 z.2.2, fun p hp => ?_⟩
  rcases List.mem_cons.mp hp with rfl | hp
  · exact ⟨ho, z.2⟩
  · exact ⟨hs.extBut _ _ (off p hp) (N p (.tail _ hp)).1, (N p (.tail _ hp)).2⟩

theorem append_L {l : Addr} {vs : List Value} {n : Nat} {x : Value} {Q : Value → Shared → Prop} (F : Fr h₀ L s.heap m) (N : News h₀ L s.heap ((l, lstO vs n) :: rest)) (off : ∀ p ∈ rest, p.1 ≠ l) (hz : vs.length ≤ 1000)
    (h : ∀ h', Fr h₀ L h' m → News h₀ L h' ((l, lstO (vs ++ [x]) (n + 1)) :: rest) → Q .none { s with heap := h' }) : wpAny (model prog w) A (call (.builtin "list.append") [.ref l, x]) Q E s := by
  refine append_at (hsz := by rw [List.size_toArray, sizeLine_eq]; omega) (N (l, lstO vs n) (.head _)).1 fun h' hs hD => ?_
  obtain ⟨F', N'⟩ := change1 F N off hs hD
  refine h h' F' ?_
  have e : vs.toArray.push x = (vs ++ [x]).toArray := by simp
  rw [e] at N'
  exact N'

theorem sort_L {l : Addr} {vs : List Value} {ns : List Int} {n : Nat} {Q : Value → Shared → Prop} (F : Fr h₀ L s.heap m) (N : News h₀ L s.heap ((l, lstO vs n) :: rest)) (off : ∀ p ∈ rest, p.1 ≠ l) (hI : IntsAre vs ns) (h64 : vs.length < 64)
    (h : ∀ vs' ns' n' h', IntsAre vs' ns' → ns'.Perm ns → ns'.Pairwise (· ≤ ·) → Fr h₀ L h' m → News h₀ L h' ((l, lstO vs' n') :: rest) → Q .none { s with heap := h' }) : wpAny (model prog w) A (call (.builtin "list.sort") [.ref l]) Q E s := by
  have z := N (l, lstO vs n) (.head _)
  refine wpAny_call_entry PyProof.Rows.slot_list_sort ⟨_, z.1, rfl⟩ PyProof.Rows.entry_list_sort (list_sort_tree (n := n) (vs := vs) z.1 hI h64 fun out ns' hI' hp hP => ⟨.none, rfl, ?_⟩) (PyProof.Rows.args_list_sort _)
  have s1 : Heap.SameBut l s.heap (s.heap.update l (Obj.mapSeq fun _ => (#[] : Array Value))) := Heap.SameBut.update ..
  obtain ⟨F1, N1⟩ := change1 F N off s1 (get?_update_seq z.1 _)
  have F2 := F1.push (seqObj "tuple" vs.toArray 0)
  have N2 := News.grown N1 fun _ _ e => Heap.get?_push_of_some (seqObj "tuple" vs.toArray 0) e
  have F3 := F2.push (seqObj "list" #[] 0)
  have N3 := News.grown N2 fun _ _ e => Heap.get?_push_of_some (seqObj "list" #[] 0) e
  obtain ⟨F4, N4⟩ := change1 F3 N3 off (Heap.SameBut.update _ _ _) (get?_update_seq (N3 _ (.head _)).1 fun _ => out)
  have eo : ∀ k, seqObj "list" out k = lstO out.toList k := fun k => by simp [lstO, seqObj]
  rw [eo] at N4
  exact h out.toList ns' _ _ hI' hp hP F4 N4

theorem notin_L {l : Addr} {vs : List Value} {ns : List Int} {n : Nat} {k : Int} {t : Tok} {Q : Value → Shared → Prop} {news : List (Addr × Obj)} (N : News h₀ L s.heap news) (hl : (l, lstO vs n) ∈ news) (hi : IntsAre vs ns)
    (h : Q (.bool (!(ns.any (· == k)))) s) : wpAny (model prog w) A (compareOp .NotIn (.int k t) (.ref l)) Q E s := notin_list_ints (isList_of N hl) hi h
end

theorem sort_uniq {a b : List Int} (p : a.Perm b) (ha : a.Pairwise (· ≤ ·)) (hb : b.Pairwise (· ≤ ·)) : a = b := lks_uniq p ha hb
theorem ints_snoc {vs : List Value} {ns : List Int} (h : IntsAre vs ns) (x : Int) (t : Tok) : IntsAre (vs ++ [.int x t]) (ns ++ [x]) := by
  induction h with
  | nil => exact .cons _ _ .nil
  | cons n u _ ih => exact .cons _ _ ih
theorem ints_get {vs : List Value} {ns : List Int} (h : IntsAre vs ns) : ∀ {i : Nat} {v : Value}, vs[i]? = some v → ∃ x t, v = .int x t ∧ ns[i]? = some x ∧ ns.take (i + 1) = ns.take i ++ [x] := by
  induction h with
  | nil => intro i v hv; simp at hv
  | cons n u _ ih =>
    intro i v hv
    cases i with
    | zero => simp at hv; exact ⟨n, u, hv.symm, rfl, rfl⟩
    | succ i =>
      simp at hv
      obtain ⟨x, t, e1, e2, e3⟩ := ih hv
      exact ⟨x, t, e1, by simpa using e2, by rw [List.take_succ_cons, e3]; rfl⟩
end Mine
namespace Mine
open LCg (NsObj ns_obj lst lst_snoc Off3)

/-! ## what the automaton's reader computes -/
structure St where
  names : List Nm
  fol : List (List Int)
abbrev Fd := Bool × List Int × List Int

def joinF (fs : List (List Int)) (ends begins : List Int) : List (List Int) := ends.foldl (fun f e => f.modify (e.toNat - 1) fun l => addAll l begins) fs
noncomputable def markF (mk : Mk) (r : Fd × St) : Fd × St := ((r.1.1 || mk.nul, r.1.2.1, r.1.2.2), ⟨r.2.names, if mk.rep then joinF r.2.fol r.1.2.2 r.1.2.1 else r.2.fol⟩)
def rowStep (a r : Fd) : Fd := (a.1 && r.1, if a.1 then addAll a.2.1 r.2.1 else a.2.1, addAll (if r.1 then a.2.2 else []) r.2.2)
def chStep (a r : Fd) : Fd := (a.1 || r.1, addAll a.2.1 r.2.1, addAll a.2.2 r.2.2)
mutual
noncomputable def readF : Pt Nm → St → Fd × St
  | .name x mk, st => markF mk ((false, [(st.names.length : Int) + 1], [(st.names.length : Int) + 1]), ⟨st.names ++ [x], st.fol ++ [[]]⟩)
  | .node sq ps mk, st => markF mk (if sq then rowF ps (true, [], []) st else chF ps (false, [], []) st)
noncomputable def rowF : List (Pt Nm) → Fd → St → Fd × St
  | [], a, st => (a, st)
  | p :: ps, a, st => rowF ps (rowStep a (readF p st).1) ⟨(readF p st).2.names, joinF (readF p st).2.fol a.2.2 (readF p st).1.2.1⟩
noncomputable def chF : List (Pt Nm) → Fd → St → Fd × St
  | [], a, st => (a, st)
  | p :: ps, a, st => chF ps (chStep a (readF p st).1) (readF p st).2
end
theorem rowF_snoc (p : Pt Nm) : ∀ (l : List (Pt Nm)) (a : Fd) (st : St), rowF (l ++ [p]) a st = (rowStep (rowF l a st).1 (readF p (rowF l a st).2).1, ⟨(readF p (rowF l a st).2).2.names, joinF (readF p (rowF l a st).2).2.fol (rowF l a st).1.2.2 (readF p (rowF l a st).2).1.2.1⟩)
  | [], a, st => by simp [rowF]
  | q :: l, a, st => by rw [List.cons_append, rowF, rowF_snoc p l, rowF]
theorem chF_snoc (p : Pt Nm) : ∀ (l : List (Pt Nm)) (a : Fd) (st : St), chF (l ++ [p]) a st = (chStep (chF l a st).1 (readF p (chF l a st).2).1, (readF p (chF l a st).2).2)
  | [], a, st => by simp [chF]
  | q :: l, a, st => by rw [List.cons_append, chF, chF_snoc p l, chF]

/-! ## strictly rising lists of places up to K -/
def OKs (K : Nat) (l : List Int) : Prop := l.Pairwise (· < ·) ∧ ∀ x ∈ l, 1 ≤ x ∧ x ≤ (K : Int)
theorem OKs.nil {K : Nat} : OKs K [] := ⟨.nil, fun _ h => by cases h⟩
theorem OKs.mono {K K' : Nat} {l : List Int} (h : OKs K l) (hk : K ≤ K') : OKs K' l := ⟨h.1, fun x hx => by have := h.2 x hx; omega⟩
theorem OKs.one {K : Nat} {x : Int} (h1 : 1 ≤ x) (h2 : x ≤ (K : Int)) : OKs K [x] := ⟨by simp, fun y hy => by rw [List.mem_singleton.mp hy]; exact ⟨h1, h2⟩⟩
theorem ded_mem (ns ms : List Int) (x : Int) : x ∈ ded ns ms ↔ x ∈ ns ∨ x ∈ ms := by
  induction ms generalizing ns with
  | nil => simp [ded]
  | cons y ms ih =>
    rw [ded, List.foldl_cons, ← ded, ih]
    split
    · rename_i h
      simp only [List.any_eq_true, beq_iff_eq] at h
      obtain ⟨z, hz, rfl⟩ := h
      simp only [List.mem_cons]
      constructor
      · rintro (h | h) <;> simp [h]
      · rintro (h | rfl | h) <;> simp [*]
    · simp only [List.mem_append, List.mem_cons, List.not_mem_nil, or_false]
      constructor
      · rintro ((h | h) | h) <;> simp [h]
      · rintro (h | h | h) <;> simp [h]
theorem ded_nodup (ns ms : List Int) (h : ns.Nodup) : (ded ns ms).Nodup := by
  induction ms generalizing ns with
  | nil => simpa [ded] using h
  | cons y ms ih =>
    rw [ded, List.foldl_cons, ← ded]
    refine ih _ ?_
    split
    · exact h
    · rename_i e
      simp only [List.any_eq_true, beq_iff_eq, not_exists, not_and] at e
      rw [List.nodup_append]
      refine ⟨h, by simp, fun a ha b hb => ?_⟩
      rw [List.mem_singleton.mp hb]
      exact e a ha
theorem mem_addAll {ns ms : List Int} {x : Int} : x ∈ addAll ns ms ↔ x ∈ ns ∨ x ∈ ms := by rw [(addAll_perm ns ms).mem_iff, ded_mem]
theorem lt_nodup {l : List Int} (h : l.Pairwise (· < ·)) : l.Nodup := h.imp fun h => by omega
theorem addAll_lt {ns ms : List Int} (h : ns.Pairwise (· < ·)) : (addAll ns ms).Pairwise (· < ·) := by
  have h1 := addAll_sorted ns ms
  have h2 : (addAll ns ms).Nodup := (addAll_perm ns ms).nodup_iff.mpr (ded_nodup ns ms (lt_nodup h))
  have := List.pairwise_and_iff.mpr ⟨h1, h2⟩
  exact this.imp fun h => by obtain ⟨a, b⟩ := h; omega
theorem OKs.add {K : Nat} {a b : List Int} (ha : OKs K a) (hb : OKs K b) : OKs K (addAll a b) := ⟨addAll_lt ha.1, fun x hx => by
  rcases mem_addAll.mp hx with h | h
  · exact ha.2 x h
  · exact hb.2 x h⟩
theorem OKs.len {K : Nat} {l : List Int} (h : OKs K l) : l.length ≤ K := by
  have key : ∀ (l : List Int) (a : Int), l.Pairwise (· < ·) → (∀ x ∈ l, a < x ∧ x ≤ (K : Int)) → (l.length : Int) ≤ max 0 (K - a) := by
    intro l
    induction l with
    | nil => intro a _ _; simp; omega
    | cons x l ih =>
      intro a hp hx
      have h1 := hx x (by simp)
      have := ih x (List.pairwise_cons.mp hp).2 fun y hy => ⟨(List.pairwise_cons.mp hp).1 y hy, (hx y (by simp [hy])).2⟩
      rw [List.length_cons]
      omega
  have := key l 0 h.1 fun x hx => by have := h.2 x hx; omega
  omega

def Inv (st : St) : Prop := st.fol.length = st.names.length ∧ ∀ f ∈ st.fol, OKs st.names.length f
theorem modify_mem {α : Type} {f : α → α} {l : List α} {i : Nat} {y : α} (h : y ∈ l.modify i f) : y ∈ l ∨ ∃ x ∈ l, y = f x := by
  induction l generalizing i with
  | nil => simp at h
  | cons a l ih =>
    cases i with
    | zero =>
      simp only [List.modify_zero_cons, List.mem_cons] at h
      rcases h with rfl | h
      · exact .inr ⟨a, by simp, rfl⟩
      · exact .inl (by simp [h])
    | succ i =>
      simp only [List.modify_succ_cons, List.mem_cons] at h
      rcases h with rfl | h
      · exact .inl (by simp)
      · rcases ih h with h | ⟨x, hx, rfl⟩
        · exact .inl (by simp [h])
        · exact .inr ⟨x, by simp [hx], rfl⟩
theorem joinF_len (begins : List Int) : ∀ (ends : List Int) (fs : List (List Int)), (joinF fs ends begins).length = fs.length
  | [], _ => rfl
  | e :: ends, fs => by rw [joinF, List.foldl_cons, ← joinF, joinF_len begins ends, List.length_modify]
theorem joinF_ok {K : Nat} {begins : List Int} (hb : OKs K begins) : ∀ (ends : List Int) {fs : List (List Int)}, (∀ f ∈ fs, OKs K f) → ∀ f ∈ joinF fs ends begins, OKs K f
  | [], _, h => h
  | e :: ends, fs, h => by
    rw [joinF, List.foldl_cons, ← joinF]
    refine joinF_ok hb ends fun f hf => ?_
    rcases modify_mem hf with hf | ⟨x, hx, rfl⟩
    · exact h f hf
    · exact (h x hx).add hb
theorem joinF_inv {st : St} (h : Inv st) {ends begins : List Int} (hb : OKs st.names.length begins) : Inv ⟨st.names, joinF st.fol ends begins⟩ :=
  ⟨by show (joinF st.fol ends begins).length = _; rw [joinF_len, h.1], joinF_ok hb ends h.2⟩
def Rok (k : Nat) (r : Fd × St) : Prop := r.2.names.length = k ∧ Inv r.2 ∧ OKs k r.1.2.1 ∧ OKs k r.1.2.2
theorem markF_ok {k : Nat} {mk : Mk} {r : Fd × St} (h : Rok k r) : Rok k (markF mk r) := by
  obtain ⟨h1, h2, h3, h4⟩ := h
  refine ⟨h1, ?_, h3, h4⟩
  rw [markF]
  dsimp only
  split
  · exact joinF_inv h2 (h1 ▸ h3)
  · exact h2
theorem Inv.mono {st : St} (h : Inv st) (x : Nm) : Inv ⟨st.names ++ [x], st.fol ++ [[]]⟩ := by
  refine ⟨by simp [h.1], fun f hf => ?_⟩
  rcases List.mem_append.mp hf with hf | hf
  · exact (h.2 f hf).mono (by simp)
  · rw [List.mem_singleton.mp hf]; exact OKs.nil
noncomputable def leavesOf (ps : List (Pt Nm)) : Nat := (ps.map Pt.leaves).sum
mutual
theorem readF_ok : ∀ (p : Pt Nm) (st : St), Inv st → Rok (st.names.length + p.leaves) (readF p st)
  | .name x mk, st, h => by
    rw [readF, Pt.leaves]
    refine markF_ok ⟨by simp, h.mono x, ?_, ?_⟩
    · exact OKs.one (by omega) (by omega)
    · exact OKs.one (by omega) (by omega)
  | .node sq ps mk, st, h => by
    rw [readF, Pt.leaves]
    refine markF_ok ?_
    cases sq with
    | true => exact rowF_ok ps (true, [], []) st h OKs.nil OKs.nil
    | false => exact chF_ok ps (false, [], []) st h OKs.nil OKs.nil
theorem rowF_ok : ∀ (ps : List (Pt Nm)) (a : Fd) (st : St), Inv st → OKs st.names.length a.2.1 → OKs st.names.length a.2.2 → Rok (st.names.length + (ps.map Pt.leaves).sum) (rowF ps a st)
  | [], a, st, h, h1, h2 => by rw [rowF]; exact ⟨by simp, h, by simpa using h1, by simpa using h2⟩
  | p :: ps, a, st, h, h1, h2 => by
    rw [rowF]
    obtain ⟨e1, e2, e3, e4⟩ := readF_ok p st h
    have hle : st.names.length ≤ (readF p st).2.names.length := by omega
    rw [← e1] at e3 e4
    have := rowF_ok ps (rowStep a (readF p st).1) ⟨(readF p st).2.names, joinF (readF p st).2.fol a.2.2 (readF p st).1.2.1⟩ (joinF_inv e2 e3) (by
      rw [rowStep]; dsimp only
      split
      · exact (h1.mono hle).add e3
      · exact h1.mono hle) (by
      rw [rowStep]; dsimp only
      refine OKs.add ?_ e4
      split
      · exact h2.mono hle
      · exact OKs.nil)
    dsimp only at this
    rw [e1] at this
    rw [List.map_cons, List.sum_cons, ← Nat.add_assoc]
    exact this
theorem chF_ok : ∀ (ps : List (Pt Nm)) (a : Fd) (st : St), Inv st → OKs st.names.length a.2.1 → OKs st.names.length a.2.2 → Rok (st.names.length + (ps.map Pt.leaves).sum) (chF ps a st)
  | [], a, st, h, h1, h2 => by rw [chF]; exact ⟨by simp, h, by simpa using h1, by simpa using h2⟩
  | p :: ps, a, st, h, h1, h2 => by
    rw [chF]
    obtain ⟨e1, e2, e3, e4⟩ := readF_ok p st h
    have hle : st.names.length ≤ (readF p st).2.names.length := by omega
    rw [← e1] at e3 e4
    have := chF_ok ps (chStep a (readF p st).1) (readF p st).2 e2 ((h1.mono hle).add e3) ((h2.mono hle).add e4)
    rw [e1] at this
    rw [List.map_cons, List.sum_cons, ← Nat.add_assoc]
    exact this
end

/-! ## the automaton in the heap -/
noncomputable abbrev sdO (w : World) (t1 t2 : Tok) (ln df : Addr) : Obj :=
  dictOf [{ hash := PyData.keyHash w.params (Str.ofString "names"), key := .str (Str.ofString "names") t1, val := .ref ln }, { hash := PyData.keyHash w.params (Str.ofString "follow"), key := .str (Str.ofString "follow") t2, val := .ref df }] 2
def kvsFrom : Nat → List (Addr × Obj) → List (Int × Value)
  | _, [] => []
  | i, p :: r => ((i : Int), .ref p.1) :: kvsFrom (i + 1) r
inductive FlRel : List (Addr × Obj) → List (List Int) → Prop
  | nil : FlRel [] []
  | cons {a : Addr} {vs : List Value} {n : Nat} {ns : List Int} {fl : List (Addr × Obj)} {fs : List (List Int)} : IntsAre vs ns → FlRel fl fs → FlRel ((a, lstO vs n) :: fl) (ns :: fs)
theorem FlRel.length {fl : List (Addr × Obj)} {fs : List (List Int)} (h : FlRel fl fs) : fl.length = fs.length := by
  induction h with
  | nil => rfl
  | cons _ _ ih => simp [ih]
theorem FlRel.get {fl : List (Addr × Obj)} {fs : List (List Int)} (h : FlRel fl fs) : ∀ {i : Nat}, i < fl.length → ∃ a vs n ns, fl[i]? = some (a, lstO vs n) ∧ fs[i]? = some ns ∧ IntsAre vs ns := by
  induction h with
  | nil => intro i hi; simp at hi
  | cons hI _ ih =>
    intro i hi
    cases i with
    | zero => exact ⟨_, _, _, _, rfl, rfl, hI⟩
    | succ i =>
      obtain ⟨a, vs, n, ns, e1, e2, e3⟩ := ih (i := i) (by simpa using hi)
      exact ⟨a, vs, n, ns, by simpa using e1, by simpa using e2, e3⟩
theorem FlRel.set {fl : List (Addr × Obj)} {fs : List (List Int)} (h : FlRel fl fs) : ∀ {i : Nat} {a : Addr} {vs : List Value} {n : Nat} {f : List Int → List Int} {ns : List Int}, fs[i]? = some ns → IntsAre vs (f ns) → FlRel (fl.set i (a, lstO vs n)) (fs.modify i f) := by
  induction h with
  | nil => intro i a vs n f ns e _; simp at e
  | cons hI h ih =>
    intro i a vs n f ns e hn
    cases i with
    | zero => simp at e; subst e; exact .cons hn h
    | succ i => exact .cons hI (ih (by simpa using e) hn)
theorem FlRel.snoc {fl : List (Addr × Obj)} {fs : List (List Int)} (h : FlRel fl fs) {a : Addr} {n : Nat} : FlRel (fl ++ [(a, lstO [] n)]) (fs ++ [[]]) := by
  induction h with
  | nil => exact .cons .nil .nil
  | cons hI _ ih => exact .cons hI ih
theorem adrs_set {fl : List (Addr × Obj)} : ∀ {i : Nat} {a : Addr} {o o' : Obj}, fl[i]? = some (a, o) → adrs (fl.set i (a, o')) = adrs fl := by
  induction fl with
  | nil => intro i a o o' h; simp at h
  | cons p fl ih =>
    intro i a o o' h
    cases i with
    | zero => simp at h; subst h; rfl
    | succ i => simp at h; simp only [List.set_cons_succ, adrs, List.map_cons, List.cons.injEq, true_and]; exact ih h
theorem kvsFrom_set {fl : List (Addr × Obj)} : ∀ {i k : Nat} {a : Addr} {o o' : Obj}, fl[i]? = some (a, o) → kvsFrom k (fl.set i (a, o')) = kvsFrom k fl := by
  induction fl with
  | nil => intro i k a o o' h; simp at h
  | cons p fl ih =>
    intro i k a o o' h
    cases i with
    | zero => simp at h; subst h; rfl
    | succ i => simp at h; simp only [List.set_cons_succ, kvsFrom, List.cons.injEq, true_and]; exact ih h
theorem kvsFrom_at {fl : List (Addr × Obj)} : ∀ {i k : Nat} {a : Addr} {o : Obj}, fl[i]? = some (a, o) → valueAt (kvsFrom k fl) (((k + i : Nat) : Int)) = some (.ref a) := by
  induction fl with
  | nil => intro i k a o h; simp at h
  | cons p fl ih =>
    intro i k a o h
    cases i with
    | zero => simp at h; subst h; simp [valueAt, kvsFrom]
    | succ i =>
      simp at h
      have := ih (k := k + 1) h
      rw [show k + 1 + i = k + (i + 1) by omega] at this
      rw [kvsFrom, valueAt, List.find?_cons]
      have e : ¬ ((k : Int) = ((k + (i + 1) : Nat) : Int)) := by omega
      simp only [e, decide_false]
      exact this
theorem kvsFrom_snoc {a : Addr} {o : Obj} (v : Value) : ∀ (fl : List (Addr × Obj)) (k : Nat), stored (kvsFrom k fl) (((k + fl.length : Nat) : Int)) (.ref a) = kvsFrom k (fl ++ [(a, o)]) := by
  have key : ∀ (fl : List (Addr × Obj)) (k : Nat), kvsFrom k fl ++ [(((k + fl.length : Nat) : Int), Value.ref a)] = kvsFrom k (fl ++ [(a, o)]) := by
    intro fl
    induction fl with
    | nil => intro k; rfl
    | cons p fl ih =>
      intro k
      rw [List.cons_append, kvsFrom, kvsFrom, List.cons_append, ← ih (k + 1), List.length_cons, show k + 1 + fl.length = k + (fl.length + 1) by omega]
  have lt : ∀ (fl : List (Addr × Obj)) (k : Nat), ∀ q ∈ kvsFrom k fl, q.1 < ((k + fl.length : Nat) : Int) := by
    intro fl
    induction fl with
    | nil => intro k q hq; cases hq
    | cons p fl ih =>
      intro k q hq
      rw [kvsFrom] at hq
      rcases List.mem_cons.mp hq with rfl | hq
      · simp only [List.length_cons]; omega
      · have := ih (k + 1) q hq
        simp only [List.length_cons]
        omega
  intro fl k
  rw [stored, if_neg, key]
  simp only [List.any_eq_true, decide_eq_true_eq, not_exists, not_and]
  intro q hq e
  have := lt fl k q hq
  omega
end Mine
namespace Mine
open LCg (NsObj ns_obj lst lst_snoc Off3)
theorem pick_mem {fl : List (Addr × Obj)} {j : Nat} {x : Addr × Obj} (h : fl[j]? = some x) : ∀ p ∈ x :: fl.eraseIdx j, p ∈ fl := by
  intro p hp
  rcases List.mem_cons.mp hp with rfl | hp
  · exact List.mem_of_getElem? h
  · exact List.mem_of_mem_eraseIdx hp
theorem pick_set {fl : List (Addr × Obj)} {j : Nat} {y : Addr × Obj} : ∀ p ∈ fl.set j y, p ∈ y :: fl.eraseIdx j := by
  intro p hp
  obtain ⟨i, hi⟩ := List.mem_iff_getElem?.mp hp
  rw [List.getElem?_set] at hi
  split at hi
  · split at hi
    · cases hi; exact .head _
    · cases hi
  · rename_i hne
    exact List.mem_cons_of_mem _ (List.mem_eraseIdx_iff_getElem?.mpr ⟨i, Ne.symm hne, hi⟩)
theorem pick_ne {fl : List (Addr × Obj)} {j : Nat} {a : Addr} {o : Obj} (h : fl[j]? = some (a, o)) (hnd : (adrs fl).Nodup) : ∀ p ∈ fl.eraseIdx j, p.1 ≠ a := by
  intro p hp e
  obtain ⟨i, hi, hq⟩ := List.mem_eraseIdx_iff_getElem?.mp hp
  have h1 : (adrs fl)[i]? = some p.1 := by rw [List.getElem?_map, hq]; rfl
  have h2 : (adrs fl)[j]? = some a := by rw [List.getElem?_map, h]; rfl
  rw [e] at h1
  obtain ⟨hi', h1⟩ := List.getElem?_eq_some_iff.mp h1
  obtain ⟨hj', h2⟩ := List.getElem?_eq_some_iff.mp h2
  rcases Nat.lt_trichotomy i j with hlt | rfl | hlt
  · exact List.pairwise_iff_getElem.mp hnd i j hi' hj' hlt (h1.trans h2.symm)
  · exact hi rfl
  · exact List.pairwise_iff_getElem.mp hnd j i hj' hi' hlt (h2.trans h1.symm)

/-- the automaton's part of the ledger -/
noncomputable abbrev AutL (w : World) (sa sd ln df : Addr) (t1 t2 : Tok) (nvs : List Value) (nn : Nat) (dfO : Obj) (fl : List (Addr × Obj)) : List (Addr × Obj) :=
  (sa, instObj 129 sd) :: (sd, sdO w t1 t2 ln df) :: (ln, lstO nvs nn) :: (df, dfO) :: fl
abbrev autA (sa sd ln df : Addr) (fl : List (Addr × Obj)) : List Addr := sa :: sd :: ln :: df :: adrs fl
theorem joinF_snoc (fs : List (List Int)) (ends begins : List Int) (x : Int) : joinF fs (ends ++ [x]) begins = (joinF fs ends begins).modify (x.toNat - 1) fun l => addAll l begins := by
  rw [joinF, List.foldl_append]; rfl
theorem joinF_getok {K : Nat} {fs : List (List Int)} {j : Nat} {ns : List Int} (h : ∀ f ∈ fs, OKs K f) (e : fs[j]? = some ns) : OKs K ns := h _ (List.mem_of_getElem? e)

/-- a triple that a reader gives back -/
def FoundD (D : Addr → Obj → Prop) (r : Value) (f : Fd) : Prop :=
  ∃ rt a1 a2 v1 v2 n1 n2 nt, r = .ref rt ∧ D rt (tupO [.bool f.1, .ref a1, .ref a2] nt) ∧ D a1 (lstO v1 n1) ∧ D a2 (lstO v2 n2) ∧ IntsAre v1 f.2.1 ∧ IntsAre v2 f.2.2 ∧ a1 ≠ a2
theorem FoundD.mono {D D' : Addr → Obj → Prop} {r : Value} {f : Fd} (h : FoundD D r f) (hs : ∀ b o, D b o → D' b o) : FoundD D' r f := by
  obtain ⟨rt, a1, a2, v1, v2, n1, n2, nt, e, h1, h2, h3, r⟩ := h
  exact ⟨rt, a1, a2, v1, v2, n1, n2, nt, e, hs _ _ h1, hs _ _ h2, hs _ _ h3, r⟩
theorem mkRep2 {mk : Mk} : ([Str.ofString "*", Str.ofString "+"].any fun x => x == mk.str) = mk.rep := by cases mk <;> decide
theorem mkNul2 {mk : Mk} : ([Str.ofString "?", Str.ofString "*"].any fun x => x == mk.str) = mk.nul := by cases mk <;> decide
theorem notIn_of {sa sd ln df d : Addr} {fl : List (Addr × Obj)} (h1 : @Ne Nat d sa) (h2 : @Ne Nat d sd) (h3 : @Ne Nat d ln) (h4 : @Ne Nat d df) (h5 : AllLt d fl) : d ∉ autA sa sd ln df fl := by
  intro h
  simp only [autA, List.mem_cons] at h
  rcases h with h | h | h | h | h
  · exact h1 h
  · exact h2 h
  · exact h3 h
  · exact h4 h
  · obtain ⟨q, hq, e⟩ := List.mem_map.mp h
    exact Nat.ne_of_lt (tb_ltOf h5 q hq) e
theorem notIn_of2 {w : World} {sa sd ln df d : Addr} {t1 t2 : Tok} {nvs : List Value} {nn : Nat} {dfO : Obj} {fl x : List (Addr × Obj)} (h : AllLt d (AutL w sa sd ln df t1 t2 nvs nn dfO fl ++ x)) : d ∉ autA sa sd ln df fl := by
  intro hm
  obtain ⟨q, hq, e⟩ := List.mem_map.mp (show d ∈ adrs (AutL w sa sd ln df t1 t2 nvs nn dfO fl) from hm)
  exact Nat.ne_of_lt (tb_ltOf h q (List.mem_append_left _ hq)) e
theorem notIn_c {sa sd ln df d : Addr} {fl : List (Addr × Obj)} (h : @LT.lt Nat _ sa d ∧ @LT.lt Nat _ sd d ∧ @LT.lt Nat _ ln d ∧ @LT.lt Nat _ df d ∧ AllLt d fl) : d ∉ autA sa sd ln df fl :=
  notIn_of (by omega) (by omega) (by omega) (by omega) h.2.2.2.2
theorem notIn_l {w : World} {sa sd ln df d : Addr} {t1 t2 : Tok} {nvs : List Value} {nn : Nat} {dfO : Obj} {fl nw : List (Addr × Obj)} (h : ∀ q ∈ nw, @LT.lt Nat _ q.1 d) (hs : ∀ p ∈ AutL w sa sd ln df t1 t2 nvs nn dfO fl, p ∈ nw) : d ∉ autA sa sd ln df fl := by
  intro hm
  obtain ⟨q, hq, e⟩ := List.mem_map.mp (show d ∈ adrs (AutL w sa sd ln df t1 t2 nvs nn dfO fl) from hm)
  exact Nat.ne_of_lt (h q (hs q hq)) e
theorem autA_eq {sa sd ln df : Addr} {fl fl' : List (Addr × Obj)} (h : adrs fl' = adrs fl) : autA sa sd ln df fl' = autA sa sd ln df fl := by rw [autA, h]
end Mine
namespace Mine
open LCg (NsObj ns_obj lst lst_snoc Off3)

theorem autA_append {sa sd ln df : Addr} {fl fl' : List (Addr × Obj)} {x : List Addr} (h : adrs fl' = adrs fl ++ x) : autA sa sd ln df fl' = autA sa sd ln df fl ++ x := by rw [autA, h]; rfl
theorem autA_mem {sa sd ln df b : Addr} {fl fl' : List (Addr × Obj)} {x : List Addr} (h : adrs fl' = adrs fl ++ x) (hb : b ∉ autA sa sd ln df fl') : b ∉ autA sa sd ln df fl := fun hm => hb (by rw [autA_append h]; exact List.mem_append_left _ hm)

theorem backA {w : World} {h₀ hs h' g : Heap} {L L' : Addr} {m m' : Str → Option Value} {sa sd ln df : Addr} {t1 t2 : Tok} {nvs nvs' : List Value} {nn nn' : Nat} {dfO dfO' : Obj} {fl fl' news tl : List (Addr × Obj)} {x : List Addr}
    (hg : g = er hs (adrs (AutL w sa sd ln df t1 t2 nvs nn dfO fl))) (F : Fr h₀ L hs m) (N : News h₀ L hs (AutL w sa sd ln df t1 t2 nvs nn dfO fl ++ news)) (hoff : ∀ q ∈ news, q.1 ∉ autA sa sd ln df fl)
    (F' : Fr g L' h' m') (N' : News g L' h' (AutL w sa sd ln df t1 t2 nvs' nn' dfO' fl' ++ tl)) (hx : adrs fl' = adrs fl ++ x) (hnd : (autA sa sd ln df fl').Nodup) (htl : ∀ p ∈ tl, p.1 ∉ autA sa sd ln df fl') :
    Fr h₀ L h' m ∧ News h₀ L h' (AutL w sa sd ln df t1 t2 nvs' nn' dfO' fl' ++ (news ++ tl)) ∧ (∀ q ∈ AutL w sa sd ln df t1 t2 nvs' nn' dfO' fl' ++ news, ∀ p ∈ tl, p.1 ≠ q.1) ∧ (∀ q ∈ news, q.1 ∉ autA sa sd ln df fl') := by
  have hlen : (adrs fl).length = fl.length := List.length_map ..
  have htake : adrs (fl'.take fl.length) = adrs fl := by
    rw [adrs, List.map_take, show fl'.map (·.1) = adrs fl ++ x from hx, ← hlen, List.take_left]
  have hdrop : adrs (fl'.drop fl.length) = x := by
    rw [adrs, List.map_drop, show fl'.map (·.1) = adrs fl ++ x from hx, ← hlen, List.drop_left]
  have hnd2 : ∀ b ∈ x, b ∉ autA sa sd ln df fl := by
    rw [autA_append hx, List.nodup_append] at hnd
    exact fun b hb hm => hnd.2.2 b hm b hb rfl
  have N1 : News g L' h' (AutL w sa sd ln df t1 t2 nvs' nn' dfO' (fl'.take fl.length) ++ (fl'.drop fl.length ++ tl)) := subN N' fun p hp => by
    rw [← List.take_append_drop fl.length fl']
    simp only [AutL, List.cons_append, List.append_assoc] at hp ⊢
    exact hp
  have hps : adrs (AutL w sa sd ln df t1 t2 nvs' nn' dfO' (fl'.take fl.length)) = adrs (AutL w sa sd ln df t1 t2 nvs nn dfO fl) := by
    simp only [adrs, List.map_cons] at htake ⊢; rw [htake]
  obtain ⟨F2, N2, ne2, -⟩ := backE hg F N hoff F' N1 hps (fun p hp => by
    rcases List.mem_append.mp hp with hp | hp
    · exact hnd2 _ (hdrop ▸ List.mem_map.mpr ⟨p, hp, rfl⟩)
    · exact autA_mem hx (htl p hp))
  have hall : ∀ q ∈ AutL w sa sd ln df t1 t2 nvs' nn' dfO' fl' ++ news, q ∈ AutL w sa sd ln df t1 t2 nvs' nn' dfO' (fl'.take fl.length) ++ news ∨ q ∈ fl'.drop fl.length := by
    intro q hq
    rw [← List.take_append_drop fl.length fl'] at hq
    simp only [AutL, List.cons_append, List.append_assoc, List.mem_cons, List.mem_append] at hq ⊢
    rcases hq with h | h | h | h | h | h | h
    · exact .inl (.inl h)
    · exact .inl (.inr (.inl h))
    · exact .inl (.inr (.inr (.inl h)))
    · exact .inl (.inr (.inr (.inr (.inl h))))
    · exact .inl (.inr (.inr (.inr (.inr (.inl h)))))
    · exact .inr h
    · exact .inl (.inr (.inr (.inr (.inr (.inr h)))))
  refine ⟨F2, subN N2 fun p hp => ?_, fun q hq p hp => ?_, fun q hq hm => ?_⟩
  · rcases List.mem_append.mp hp with hp | hp
    · rcases hall p (List.mem_append_left _ hp) with h | h
      · rcases List.mem_append.mp h with h | h
        · exact List.mem_append_left _ h
        · exact List.mem_append_right _ (List.mem_append_left _ h)
      · exact List.mem_append_right _ (List.mem_append_right _ (List.mem_append_left _ h))
    · rcases List.mem_append.mp hp with hp | hp
      · exact List.mem_append_right _ (List.mem_append_left _ hp)
      · exact List.mem_append_right _ (List.mem_append_right _ (List.mem_append_right _ hp))
  · rcases hall q hq with h | h
    · exact ne2 q h p (List.mem_append_right _ hp)
    · intro e
      refine htl p hp ?_
      rw [e, autA_append hx]
      exact List.mem_append_right _ (hdrop ▸ List.mem_map.mpr ⟨q, h, rfl⟩)
  · rw [autA_append hx] at hm
    rcases List.mem_append.mp hm with hm | hm
    · exact hoff q hq hm
    · rw [← hdrop] at hm
      obtain ⟨p, hp, e⟩ := List.mem_map.mp hm
      exact ne2 q (List.mem_append_right _ hq) p (List.mem_append_left _ hp) e

section
variable {prog : Program} {w : World} {A : Around} {E : Value → Shared → Prop} {s : Shared} {h₀ : Heap} {L : Addr} {m : Str → Option Value} {rest : List (Addr × Obj)}
theorem set_L {d : Addr} {o : Obj} {kvs : List (Int × Value)} {k : Int} {t : Tok} {v : Value} {Q : Unit → Shared → Prop} (F : Fr h₀ L s.heap m) (N : News h₀ L s.heap ((d, o) :: rest)) (off : ∀ p ∈ rest, p.1 ≠ d) (hd : o.IsDictOf (PySem.intKind prog w) kvs) (hsz : kvs.length ≤ 1000)
    (h : ∀ h' o', Fr h₀ L h' m → News h₀ L h' ((d, o') :: rest) → o'.IsDictOf (PySem.intKind prog w) (stored kvs k v) → Q () { s with heap := h', toks := s.toks + 1 }) : wpAny (model prog w) A (setItem (.ref d) (.int k t) v) Q E s := by
  have z := N (d, o) (.head _)
  refine wpAny_setItem_pairs (hsz := by rw [sizeLine_eq]; omega) (intKind_is prog w k t) (Heap.dictOf_iff.mpr ⟨o, z.1, hd⟩) fun h' hmm hs => ?_
  obtain ⟨o', ho', hd'⟩ := Heap.dictOf_iff.mp hmm
  obtain ⟨F', N'⟩ := change1 F N off hs ho'
  exact h h' o' F' N' hd'
end
theorem kvsFrom_len : ∀ (fl : List (Addr × Obj)) (k : Nat), (kvsFrom k fl).length = fl.length
  | [], _ => rfl
  | _ :: fl, k => by rw [kvsFrom, List.length_cons, List.length_cons, kvsFrom_len fl]

/-- what holds of the automaton's part -/
structure AutS (w : World) (sa sd ln df : Addr) (nvs : List Value) (dfO : Obj) (fl : List (Addr × Obj)) (st : St) : Prop where
  nd : (autA sa sd ln df fl).Nodup
  dict : dfO.IsDictOf (PySem.intKind PySem.Challenge.rw_nu0043_01.row.prog w) (kvsFrom 1 fl)
  fl : FlRel fl st.fol
  nms : RdAll (fun _ _ => False) nvs (st.names.map enc1)
  inv : Inv st
structure AutH (w : World) (h₀ : Heap) (L : Addr) (h : Heap) (sa sd ln df : Addr) (t1 t2 : Tok) (nvs : List Value) (nn : Nat) (dfO : Obj) (fl : List (Addr × Obj)) (st : St) (rest : List (Addr × Obj)) : Prop where
  N : News h₀ L h (AutL w sa sd ln df t1 t2 nvs nn dfO fl ++ rest)
  off : ∀ p ∈ rest, p.1 ∉ autA sa sd ln df fl
  S : AutS w sa sd ln df nvs dfO fl st
theorem offA {w : World} {sa sd ln df d : Addr} {t1 t2 : Tok} {nvs : List Value} {nn : Nat} {dfO : Obj} {fl l : List (Addr × Obj)} (h : d ∉ autA sa sd ln df fl) (hl : ∀ p ∈ l, p.1 ≠ d) : ∀ p ∈ AutL w sa sd ln df t1 t2 nvs nn dfO fl ++ l, p.1 ≠ d := by
  intro p hp e
  rcases List.mem_append.mp hp with hp | hp
  · exact h (e ▸ (show p.1 ∈ adrs (AutL w sa sd ln df t1 t2 nvs nn dfO fl) from List.mem_map.mpr ⟨p, hp, rfl⟩))
  · exact hl p hp e
theorem notGround {w : World} {g h : Heap} {L b : Addr} {sa sd ln df : Addr} {t1 t2 : Tok} {nvs : List Value} {nn : Nat} {dfO o : Obj} {fl rest : List (Addr × Obj)} (N : News g L h (AutL w sa sd ln df t1 t2 nvs nn dfO fl ++ rest)) (hb : g.get? b = some o) : b ∉ autA sa sd ln df fl := by
  intro hm
  obtain ⟨q, hq, e⟩ := List.mem_map.mp (show b ∈ adrs (AutL w sa sd ln df t1 t2 nvs nn dfO fl) from hm)
  have := (N q (List.mem_append_left _ hq)).2.2
  rw [e, hb] at this; cases this
section
variable {M : Model} {A : Around} {E : Value → Shared → Prop} {s : Shared} {h₀ : Heap} {L : Addr} {m : Str → Option Value} {news : List (Addr × Obj)}
theorem newList_L {vs : List Value} {Q : Value → Shared → Prop} (F : Fr h₀ L s.heap m) (N : News h₀ L s.heap news)
    (h : ∀ D h', (∀ p ∈ news, @LT.lt Nat _ p.1 D) → Fr h₀ L h' m → News h₀ L h' ((D, lstO vs 0) :: news) → Q (.ref D) { s with heap := h' }) (hsz : vs.length ≤ 100) :
    wpAny M A (newList vs) Q E s := newList_N F N (fun h' F' N' => h _ h' (fun p hp => Heap.lt_size (N p hp).1) F' N') (by rw [sizeLine_eq]; omega)
end
theorem news6 {base l3 tl : List (Addr × Obj)} {x y z : Addr × Obj} (hx : x ∈ tl) (hy : y ∈ tl) (hz : z ∈ tl) : ∀ p ∈ base ++ (l3 ++ [x, y, z]), p ∈ base ++ (l3 ++ tl) := by
  intro p hp
  simp only [List.mem_append, List.mem_cons, List.not_mem_nil, or_false] at hp ⊢
  rcases hp with h | h | h | h | h
  · exact .inl h
  · exact .inr (.inl h)
  · exact .inr (.inr (h ▸ hx))
  · exact .inr (.inr (h ▸ hy))
  · exact .inr (.inr (h ▸ hz))
theorem notIn_off {w : World} {sa sd ln df d : Addr} {t1 t2 : Tok} {nvs : List Value} {nn : Nat} {dfO : Obj} {fl l : List (Addr × Obj)} (h : ∀ p ∈ AutL w sa sd ln df t1 t2 nvs nn dfO fl ++ l, p.1 ≠ d) : d ∉ autA sa sd ln df fl := by
  intro hm
  obtain ⟨q, hq, e⟩ := List.mem_map.mp (show d ∈ adrs (AutL w sa sd ln df t1 t2 nvs nn dfO fl) from hm)
  exact h q (List.mem_append_left _ hq) e
theorem rowF_take {ps : List (Pt Nm)} {i : Nat} {q : Pt Nm} (h : ps[i]? = some q) : ps.take (i + 1) = ps.take i ++ [q] := by
  rw [List.take_add_one, h]; rfl
theorem leaves_take {ps : List (Pt Nm)} {i : Nat} {q : Pt Nm} (h : ps[i]? = some q) : ((ps.take i).map Pt.leaves).sum + q.leaves ≤ (ps.map Pt.leaves).sum := by
  have h1 := rowF_take h
  have h2 : (ps.map Pt.leaves).sum = ((ps.take (i + 1)).map Pt.leaves).sum + ((ps.drop (i + 1)).map Pt.leaves).sum := by
    rw [← List.sum_append_nat, ← List.map_append, List.take_append_drop]
  rw [h2, h1, List.map_append, List.sum_append_nat]
  simp

noncomputable def RowC (w : World) (H : Heap) (fn : Addr) (rank : Nat) (d : PyData) (need : Nat) (f : St → Fd × St) : Prop :=
  ∀ (dp un : Nat) (fr : Option (List Env)) (gd : Option (List Code)) (h₀ : Heap) (L : Addr) (m : Str → Option Value) (s : Shared) (sa sd ln df : Addr) (t1 t2 : Tok) (nvs : List Value) (nn : Nat) (dfO : Obj) (fl news : List (Addr × Obj)) (st : St) (D : Addr → Obj → Prop) (v : Value) (Q E : Value → Shared → Prop),
    dp + 40 * rank < 900 → un + 600 * rank < 9000 → H.StaysIn h₀ → Fr h₀ L s.heap m → AutH w h₀ L s.heap sa sd ln df t1 t2 nvs nn dfO fl st news → st.names.length + need ≤ 9 → (∀ b o, D b o → s.heap.get? b = some o ∧ b ∉ autA sa sd ln df fl) → Rd D v d →
    (∀ r nvs' nn' dfO' fl' x tl h' tk', adrs fl' = adrs fl ++ x → FoundD (fun b o => (b, o) ∈ tl) r (f st).1 → Fr h₀ L h' m → AutH w h₀ L h' sa sd ln df t1 t2 nvs' nn' dfO' fl' (f st).2 (news ++ tl) →
      (∀ q ∈ AutL w sa sd ln df t1 t2 nvs' nn' dfO' fl' ++ news, ∀ p ∈ tl, p.1 ≠ q.1) → Q r { s with heap := h', toks := tk' }) →
    wpAny (model PySem.Challenge.rw_nu0043_01.row.prog w) (AA dp fr gd un) (call (.ref fn) [.ref sa, v]) Q E s
theorem rowC_more {w : World} {H : Heap} {fn : Addr} {r r' : Nat} {d : PyData} {need : Nat} {f : St → Fd × St} (C : RowC w H fn r d need f) (h : r ≤ r') : RowC w H fn r' d need f :=
  fun dp un fr gd h₀ L m s sa sd ln df t1 t2 nvs nn dfO fl news st D v Q E hdp hun => C dp un fr gd h₀ L m s sa sd ln df t1 t2 nvs nn dfO fl news st D v Q E (by omega) (by omega)
theorem height_kids {α : Type} {sq : Bool} {ps : List (Pt α)} {mk : Mk} : ∃ k, (Pt.node sq ps mk).height = k + 1 ∧ ∀ q ∈ ps, q.height ≤ k := by
  refine ⟨(ps.map Pt.height).foldr max 0, by rw [Pt.height], fun q hq => ?_⟩
  have := Pt.height_kid hq (sq := sq) (mk := mk)
  rw [Pt.height] at this
  omega
end Mine
namespace Mine
open LCg (NsObj ns_obj lst lst_snoc Off3)
noncomputable abbrev sd5 (w : World) (t1 t2 t3 t4 t5 : Tok) (ln df : Addr) (b : Bool) (a1 a2 : Addr) : Obj :=
  dictOf [{ hash := PyData.keyHash w.params (Str.ofString "names"), key := .str (Str.ofString "names") t1, val := .ref ln }, { hash := PyData.keyHash w.params (Str.ofString "follow"), key := .str (Str.ofString "follow") t2, val := .ref df },
    { hash := PyData.keyHash w.params (Str.ofString "is_nullable"), key := .str (Str.ofString "is_nullable") t3, val := .bool b }, { hash := PyData.keyHash w.params (Str.ofString "first"), key := .str (Str.ofString "first") t4, val := .ref a1 },
    { hash := PyData.keyHash w.params (Str.ofString "last"), key := .str (Str.ofString "last") t5, val := .ref a2 }] 5
noncomputable abbrev Aut5 (w : World) (sa sd ln df : Addr) (t1 t2 t3 t4 t5 : Tok) (b : Bool) (a1 a2 : Addr) (nvs : List Value) (nn : Nat) (dfO : Obj) (v1 : List Value) (n1 : Nat) (fl : List (Addr × Obj)) : List (Addr × Obj) :=
  (sa, instObj 129 sd) :: (sd, sd5 w t1 t2 t3 t4 t5 ln df b a1 a2) :: (ln, lstO nvs nn) :: (df, dfO) :: (a1, lstO v1 n1) :: fl
section
variable {w : World} {dp un : Nat} {fr : Option (List Env)} {gd : Option (List Code)} {s : Shared} {K : Frag} {R : Result → Shared → Prop} {p : Program} {loose : List Str} {mean : ExcName → Option Value} {mg mb : Str → Option Value}
  {name qual : Str} {params : Arguments} {body : List Stmt} {scope : Scope} {dV kV doc pm cdv ct oc : Value} {an od : Option Addr} {osl : Array (Option Value)} {f : Addr} {vs : List Value} {binds : List (Str × Value)} {H h₀ : Heap}
  {L : Addr} {m : Str → Option Value} {ps : List (Addr × Obj)}
/-- as enterE, of the code itself -/
theorem enterEc (X : K.In H) (T : Top p loose mean mg mb H) (hH : H.StaysIn h₀) (F : Fr h₀ L s.heap m) (N : News h₀ L s.heap ps)
    (ho : K.lookup f = some ⟨oc, od, .func (fnOf name qual params body scope dV kV doc pm an cdv ct), osl⟩) (hcd : codeIn K cdv qual = true) (hroom : dp < recursionLimit)
    (hbind : BindsTo s (fnOf name qual params body scope dV kV doc pm an cdv ct) ⟨vs, []⟩ binds) (hloc : ∀ y ∈ binds, scope.names.lookup y.1 = some .local)
    (h : ∀ L' h₁ tk g fr' gd', g = er s.heap (adrs ps) → H.StaysIn g → Fr g L' h₁ (fun y => binds.reverse.lookup y) → News g L' h₁ ps → (∀ p ∈ ps, p.1 ≠ L') → K.In g → Top p loose mean mg mb g →
      wpAny (model PySem.Challenge.rw_nu0043_01.row.prog w) (AA (dp + 1) fr' gd' (un + 3)) (execs body (envOf qual scope L' f cdv)) (fun fl s' => R (.ok (.ret (retv fl))) s') NoE { s with heap := h₁, toks := tk })
    (hco : scope.isCoroutine = false) (hgen : scope.isGenerator = false) (hk : scope.kind = .function)
    (hcell : ∀ x ∈ scope.names, x.2 ≠ .cell) : codeAny (model PySem.Challenge.rw_nu0043_01.row.prog w) (AA dp fr gd un) (.call (.ref f) ⟨vs, []⟩) R s := by
  have hHs : H.StaysIn s.heap := fun b o e => F.keep b o (hH b o e)
  have hHg : H.StaysIn (er s.heap (adrs ps)) := fun b o e => by
    rw [er_other]
    · exact hHs b o e
    · intro hm
      obtain ⟨q, hq, rfl⟩ := List.mem_map.mp hm
      have := (N q hq).2.2
      rw [hH _ _ e] at this; cases this
  refine enterP0 X T hHs ho hcd hroom hbind hloc (fun L' h₁ tk F' N' X' T' => wpAny_mono (h L' h₁ tk _ _ _ rfl hHg ⟨F'.ns, fun b o e => F'.keep b o (er_keeps _ e).1, by rw [er_size]; exact F'.above⟩ ?_ ?_ (X.keeps hHg) (T.keeps hHg)) (fun fl s' q => by cases fl <;> exact q) fun _ _ e => e.elim) hco hgen hk hcell
  · have hlt : ∀ q ∈ ps, q.1 ≠ L' := fun q hq => Nat.ne_of_lt (Nat.lt_of_lt_of_le (Heap.lt_size (N q hq).1) F'.above)
    exact fun q hq => ⟨F'.keep _ _ (N q hq).1, hlt q hq, er_none _ (List.mem_map.mpr ⟨q, hq, rfl⟩)⟩
  · exact fun q hq => Nat.ne_of_lt (Nat.lt_of_lt_of_le (Heap.lt_size (N q hq).1) F'.above)
end
end Mine
namespace Mine
open LCg (NsObj ns_obj lst lst_snoc Off3)
/-! ## what clash computes -/
def clashRow (nmAt : Int → Nm) : List Int → List (Nm × Int) → Option (Nm × Int × Int)
  | [], _ => none
  | o :: l, sn => match sn.lookup (nmAt o) with
    | some x => some (nmAt o, x, o)
    | none => clashRow nmAt l (sn ++ [(nmAt o, o)])
def clashAll (nmAt : Int → Nm) : List (List Int) → Option (Nm × Int × Int)
  | [] => none
  | l :: ls => match clashRow nmAt l [] with
    | some r => some r
    | none => clashAll nmAt ls
noncomputable def nmOf (names : List Nm) (x : Int) : Nm := names.getD (x.toNat - 1) .a
inductive SeenR : List (Str × Value) → List (Nm × Int) → Prop
  | nil : SeenR [] []
  | cons {n : Nm} {x : Int} {t : Tok} {kvs : List (Str × Value)} {sn : List (Nm × Int)} : SeenR kvs sn → SeenR ((n.str, .int x t) :: kvs) ((n, x) :: sn)
theorem nm_inj {x y : Nm} (h : x.str = y.str) : x = y := by
  cases x <;> cases y <;> first | rfl | (exact absurd h (by decide))
theorem SeenR.some {kvs : List (Str × Value)} {sn : List (Nm × Int)} (h : SeenR kvs sn) {n : Nm} {x : Int} (e : sn.lookup n = some x) : ∃ t, valueAt kvs n.str = some (.int x t) := by
  induction h with
  | nil => simp at e
  | @cons m y t kvs sn h ih =>
    by_cases q : n = m
    · subst q
      simp at e
      subst e
      exact ⟨t, by simp [valueAt]⟩
    · have q' : ¬ m.str = n.str := fun h => q (nm_inj h).symm
      have q2 : (n == m) = false := by simpa using q
      rw [List.lookup_cons, q2] at e
      obtain ⟨t', e'⟩ := ih e
      refine ⟨t', ?_⟩
      rw [valueAt, List.find?_cons]
      simp only [q', decide_false]
      exact e'
theorem SeenR.none {kvs : List (Str × Value)} {sn : List (Nm × Int)} (h : SeenR kvs sn) {n : Nm} (e : sn.lookup n = none) : valueAt kvs n.str = none := by
  induction h with
  | nil => rfl
  | @cons m y t kvs sn h ih =>
    by_cases q : n = m
    · subst q; simp at e
    · have q' : ¬ m.str = n.str := fun h => q (nm_inj h).symm
      have q2 : (n == m) = false := by simpa using q
      rw [List.lookup_cons, q2] at e
      rw [valueAt, List.find?_cons]
      simp only [q', decide_false]
      exact ih e
theorem SeenR.snoc {kvs : List (Str × Value)} {sn : List (Nm × Int)} (h : SeenR kvs sn) {n : Nm} {x : Int} {t : Tok} : SeenR (kvs ++ [(n.str, .int x t)]) (sn ++ [(n, x)]) := by
  induction h with
  | nil => exact .cons .nil
  | cons h ih => exact .cons ih
theorem stored_new {kvs : List (Str × Value)} {k : Str} {v : Value} (h : valueAt kvs k = none) : stored kvs k v = kvs ++ [(k, v)] := by
  rw [stored, if_neg]
  intro hm
  simp only [List.any_eq_true, decide_eq_true_eq] at hm
  obtain ⟨q, hq, e⟩ := hm
  rw [valueAt, Option.map_eq_none_iff, List.find?_eq_none] at h
  exact h q hq (by simpa using e)
theorem SeenR.length {kvs : List (Str × Value)} {sn : List (Nm × Int)} (h : SeenR kvs sn) : kvs.length = sn.length := by
  induction h with
  | nil => rfl
  | cons _ ih => simp [ih]
section
variable {prog : Program} {w : World} {A : Around} {E : Value → Shared → Prop} {s : Shared} {h₀ : Heap} {L : Addr} {m : Str → Option Value} {rest news : List (Addr × Obj)}
theorem setS_L {d : Addr} {o : Obj} {kvs : List (Str × Value)} {k : Str} {t : Tok} {v : Value} {Q : Unit → Shared → Prop} (F : Fr h₀ L s.heap m) (N : News h₀ L s.heap ((d, o) :: rest)) (off : ∀ p ∈ rest, p.1 ≠ d) (hd : o.IsDictOf (PySem.strKind prog w) kvs) (hsz : kvs.length ≤ 1000)
    (h : ∀ h' o', Fr h₀ L h' m → News h₀ L h' ((d, o') :: rest) → o'.IsDictOf (PySem.strKind prog w) (stored kvs k v) → Q () { s with heap := h', toks := s.toks + 1 }) : wpAny (model prog w) A (setItem (.ref d) (.str k t) v) Q E s := by
  have z := N (d, o) (.head _)
  refine wpAny_setItem_pairs (hsz := by rw [sizeLine_eq]; omega) (strKind_is prog w k t) (Heap.dictOf_iff.mpr ⟨o, z.1, hd⟩) fun h' hmm hs => ?_
  obtain ⟨o', ho', hd'⟩ := Heap.dictOf_iff.mp hmm
  obtain ⟨F', N'⟩ := change1 F N off hs ho'
  exact h h' o' F' N' hd'
end
end Mine
namespace Mine
open LCg (NsObj ns_obj lst lst_snoc Off3)
mutual
theorem number_ok : ∀ (p : Pt Nm) (k : Nat), p.ok → (p.number k).1.ok
  | .name x mk, k, _ => by rw [Pt.number, Pt.ok]; trivial
  | .node sq ps mk, k, h => by
    rw [Pt.ok] at h
    rw [Pt.number, Pt.ok]
    exact ⟨by rw [numbers_len]; exact h.1, numbers_ok ps k h.2⟩
theorem numbers_ok : ∀ (ps : List (Pt Nm)) (k : Nat), (∀ p ∈ ps, p.ok) → ∀ q ∈ (numbers ps k).1, q.ok
  | [], k, _ => by rw [numbers]; intro q hq; cases hq
  | p :: ps, k, h => by
    rw [numbers]
    intro q hq
    rcases List.mem_cons.mp hq with rfl | hq
    · exact number_ok p k (h p (by simp))
    · exact numbers_ok ps _ (fun p hp => h p (by simp [hp])) q hq
theorem numbers_len : ∀ (ps : List (Pt Nm)) (k : Nat), (numbers ps k).1.length = ps.length
  | [], k => by rw [numbers]; rfl
  | p :: ps, k => by rw [numbers, List.length_cons, List.length_cons, numbers_len ps]
end
mutual
theorem number_height : ∀ (p : Pt Nm) (k : Nat), (p.number k).1.height = p.height
  | .name x mk, k => by rw [Pt.number, Pt.height, Pt.height]
  | .node sq ps mk, k => by rw [Pt.number, Pt.height, Pt.height, numbers_height ps k]
theorem numbers_height : ∀ (ps : List (Pt Nm)) (k : Nat), ((numbers ps k).1.map Pt.height) = ps.map Pt.height
  | [], k => by rw [numbers]; rfl
  | p :: ps, k => by rw [numbers, List.map_cons, List.map_cons, number_height p, numbers_height ps]
end
mutual
theorem number_leaves : ∀ (p : Pt Nm) (k : Nat), (p.number k).1.leaves = p.leaves
  | .name x mk, k => by rw [Pt.number, Pt.leaves, Pt.leaves]
  | .node sq ps mk, k => by rw [Pt.number, Pt.leaves, Pt.leaves, numbers_leaves ps k]
theorem numbers_leaves : ∀ (ps : List (Pt Nm)) (k : Nat), ((numbers ps k).1.map Pt.leaves) = ps.map Pt.leaves
  | [], k => by rw [numbers]; rfl
  | p :: ps, k => by rw [numbers, List.map_cons, List.map_cons, number_leaves p, numbers_leaves ps]
end
theorem leaves_le {α : Type} : ∀ n, ∀ p : Pt α, p.height ≤ n + 1 → p.ok → p.leaves ≤ 3 ^ n := by
  intro n
  induction n with
  | zero =>
    intro p h pok
    cases p with
    | name x mk => rw [Pt.leaves]; decide
    | node sq ps mk =>
      rw [Pt.ok] at pok
      obtain ⟨q, hq⟩ : ∃ q, q ∈ ps := by
        cases ps with
        | nil => simp at pok
        | cons q _ => exact ⟨q, by simp⟩
      have h1 := Pt.height_kid hq (sq := sq) (mk := mk)
      have h2 : 1 ≤ q.height := by cases q <;> rw [Pt.height] <;> omega
      omega
  | succ n ih =>
    intro p h pok
    cases p with
    | name x mk => rw [Pt.leaves]; exact Nat.one_le_pow _ _ (by decide)
    | node sq ps mk =>
      rw [Pt.ok] at pok
      rw [Pt.leaves]
      have h1 : (ps.map Pt.leaves).sum ≤ (ps.map fun _ => 3 ^ n).sum := sum_le_map fun q hq => ih q (by have := Pt.height_kid hq (sq := sq) (mk := mk); omega) (pok.2 q hq)
      have h2 : (ps.map fun _ => 3 ^ n).sum = ps.length * 3 ^ n := by
        clear h1 h pok
        induction ps with
        | nil => simp
        | cons q ps ihp => rw [List.map_cons, List.sum_cons, ihp, List.length_cons, Nat.add_mul, Nat.one_mul, Nat.add_comm]
      have h3 : ps.length ≤ 3 := by rcases pok.1 with h | h <;> omega
      have h4 : ps.length * 3 ^ n ≤ 3 * 3 ^ n := Nat.mul_le_mul_right _ h3
      rw [Nat.pow_succ]
      omega
theorem toT {T tl : List (Addr × Obj)} {vs : List Value} {ds : List PyData} (h : RdAll (AndL (fun b o => (b, o) ∈ T) tl) vs ds) : RdAll (fun b o => (b, o) ∈ T ++ tl) vs ds :=
  h.mono fun _ _ h => h.elim (List.mem_append_left _) (List.mem_append_right _)

section
variable {prog : Program} {w : World} {A : Around} {E : Value → Shared → Prop} {s : Shared}
theorem tuple_at {h : Heap} {t : Addr} {vs : List Value} {n : Nat} (e : h.get? t = some (tupO vs n)) : IsTup h t vs.toArray := ⟨_, e, rfl, n, rfl⟩
theorem rc_pair {t t' : Addr} {x x' : Str} {k k' : Int} {u1 u2 u3 u4 : Tok} {n n' : Nat} (h1 : s.heap.get? t = some (tupO [.str x u1, .int k u2] n)) (h2 : s.heap.get? t' = some (tupO [.str x' u3, .int k' u4] n')) (hu : A.units < cLine) :
    SeqAt.RcAt A s (.ref t) (.ref t') ((x == x') && (k == k')) := by
  have z := SeqAt.RcAt.tuples (A := A) (s := s) (e := fun j => match j with | 0 => x == x' | _ => k == k') (tuple_at h1) (tuple_at h2) hu (fun j hj hj' => by
    match j, hj with
    | 0, _ => exact SeqAt.EqAt.str_str x u1 x' u3
    | 1, _ => exact (MeetsSeq.EqGives.int k k' u2 u4).at _ _
    | j + 2, hj => exact absurd hj (by simp))
  have e : ((List.range (min [Value.str x u1, .int k u2].toArray.size [Value.str x' u3, .int k' u4].toArray.size)).all (fun j => match j with | 0 => x == x' | _ => k == k') && [Value.str x u1, .int k u2].toArray.size == [Value.str x' u3, .int k' u4].toArray.size) = ((x == x') && (k == k')) := by
    simp [List.range, List.range.loop]
  rw [e] at z
  exact z
theorem eq_pairT {t t' : Addr} {x x' : Str} {k k' : Int} {u1 u2 u3 u4 : Tok} {n n' : Nat} {Q : Value → Shared → Prop} (h1 : s.heap.get? t = some (tupO [.str x u1, .int k u2] n)) (h2 : s.heap.get? t' = some (tupO [.str x' u3, .int k' u4] n')) (hu : A.units < cLine)
    (h : Q (.bool ((x == x') && (k == k'))) s) : wpAny (model prog w) A (compareOp .Eq (.ref t) (.ref t')) Q E s := rc_pair h1 h2 hu prog w E Q h
theorem eqAt_trip {t t' : Addr} {x x' : Str} {k k' l l' : Int} {u1 u2 u3 u4 u5 u6 : Tok} {n n' : Nat} (hne : t ≠ t') (h1 : s.heap.get? t = some (tupO [.str x u1, .int k u2, .int l u5] n)) (h2 : s.heap.get? t' = some (tupO [.str x' u3, .int k' u4, .int l' u6] n')) (hu : A.units < cLine) :
    SeqAt.EqAt A s (.ref t) (.ref t') ((x == x') && (k == k') && (l == l')) := by
  refine SeqAt.EqAt.of_refs hne ?_
  have z := SeqAt.RcAt.tuples (A := A) (s := s) (e := fun j => match j with | 0 => x == x' | 1 => k == k' | _ => l == l') (tuple_at h1) (tuple_at h2) hu (fun j hj hj' => by
    match j, hj with
    | 0, _ => exact SeqAt.EqAt.str_str x u1 x' u3
    | 1, _ => exact (MeetsSeq.EqGives.int k k' u2 u4).at _ _
    | 2, _ => exact (MeetsSeq.EqGives.int l l' u5 u6).at _ _
    | j + 3, hj => exact absurd hj (by simp))
  have e : ((List.range (min [Value.str x u1, .int k u2, .int l u5].toArray.size [Value.str x' u3, .int k' u4, .int l' u6].toArray.size)).all (fun j => match j with | 0 => x == x' | 1 => k == k' | _ => l == l') && [Value.str x u1, .int k u2, .int l u5].toArray.size == [Value.str x' u3, .int k' u4, .int l' u6].toArray.size) = ((x == x') && (k == k') && (l == l')) := by
    simp [List.range, List.range.loop, Bool.and_assoc]
  rw [e] at z
  exact z
end
section
variable {prog : Program} {w : World} {A : Around} {E : Value → Shared → Prop} {s : Shared}
theorem eq_pairC {t t' : Addr} {x x' : Str} {k k' : Int} {u1 u2 u3 u4 : Tok} {n n' : Nat} {c : Bool} {Q : Value → Shared → Prop} (h1 : s.heap.get? t = some (tupO [.str x u1, .int k u2] n)) (h2 : s.heap.get? t' = some (tupO [.str x' u3, .int k' u4] n')) (hu : A.units < cLine)
    (hc : ((x == x') && (k == k')) = c) (h : Q (.bool c) s) : wpAny (model prog w) A (compareOp .Eq (.ref t) (.ref t')) Q E s := by subst hc; exact eq_pairT h1 h2 hu h
end
theorem Rd.enc2_inv {D : Addr → Obj → Prop} {v : Value} {x : Nm × Nat} (h : Rd D v (enc2 x)) : ∃ t u1 u2 n, v = .ref t ∧ D t (tupO [.str x.1.str u1, .int x.2 u2] n) := by
  obtain ⟨t, vs, n, rfl, h1, h2⟩ := h.tuple_inv
  obtain ⟨v1, v2, rfl, h3, h4⟩ := h2.two
  obtain ⟨u1, rfl⟩ := h3.str_inv
  obtain ⟨u2, rfl⟩ := h4.int_inv
  exact ⟨t, u1, u2, n, rfl, h1⟩
theorem Rd.encP_inv {D : Addr → Obj → Prop} {v : Value} {x : (Nm × Nat) × (Nm × Nat)} (h : Rd D v (encP enc2 x)) : ∃ t v1 v2 n, v = .ref t ∧ D t (tupO [v1, v2] n) ∧ Rd D v1 (enc2 x.1) ∧ Rd D v2 (enc2 x.2) := by
  obtain ⟨t, vs, n, rfl, h1, h2⟩ := h.tuple_inv
  obtain ⟨v1, v2, rfl, h3, h4⟩ := h2.two
  exact ⟨t, v1, v2, n, rfl, h1, h3, h4⟩
end Mine
namespace Mine
open LCg (NsObj ns_obj lst lst_snoc Off3)
theorem Rd.enc3_inv {D : Addr → Obj → Prop} {v : Value} {x : Nm × Nat × Nat} (h : Rd D v (.tuple [.str x.1.str, .int x.2.1, .int x.2.2])) : ∃ t u1 u2 u3 n, v = .ref t ∧ D t (tupO [.str x.1.str u1, .int x.2.1 u2, .int x.2.2 u3] n) := by
  obtain ⟨t, vs, n, rfl, h1, h2⟩ := h.tuple_inv
  obtain ⟨v1, v2, v3, rfl, h3, h4, h5⟩ := h2.three
  obtain ⟨u1, rfl⟩ := h3.str_inv
  obtain ⟨u2, rfl⟩ := h4.int_inv
  obtain ⟨u3, rfl⟩ := h5.int_inv
  exact ⟨t, u1, u2, u3, n, rfl, h1⟩
theorem RdAll.memv {D : Addr → Obj → Prop} {vs : List Value} {ds : List PyData} (h : RdAll D vs ds) {v : Value} (hv : v ∈ vs) : ∃ d ∈ ds, Rd D v d := by
  obtain ⟨i, hi⟩ := List.mem_iff_getElem?.mp hv
  obtain ⟨d, hd, r⟩ := h.get hi
  exact ⟨d, List.mem_of_getElem? hd, r⟩
theorem RdAll.memd {D : Addr → Obj → Prop} : ∀ {vs : List Value} {ds : List PyData}, RdAll D vs ds → ∀ {d : PyData}, d ∈ ds → ∃ v ∈ vs, Rd D v d
  | _, _, .nil, _, hd => by cases hd
  | _, _, .cons r h, d, hd => by
    rcases List.mem_cons.mp hd with rfl | hd
    · exact ⟨_, List.mem_cons_self, r⟩
    · obtain ⟨v, hv, r'⟩ := RdAll.memd h hd
      exact ⟨v, List.mem_cons_of_mem _ hv, r'⟩
theorem trip_inj {h : Heap} {t : Addr} {x x' : Str} {k k' l l' : Int} {u1 u2 u3 u4 u5 u6 : Tok} {n n' : Nat} (h1 : h.get? t = some (tupO [.str x u1, .int k u2, .int l u3] n)) (h2 : h.get? t = some (tupO [.str x' u4, .int k' u5, .int l' u6] n')) : x = x' ∧ k = k' ∧ l = l' := by
  rw [h1] at h2
  have := congrArg Obj.data (Option.some.inj h2)
  simp only [tupO, Data.seq.injEq] at this
  have := congrArg Array.toList this.1
  simp at this
  exact ⟨this.1.1, this.2.1.1, this.2.2.1⟩
section
variable {prog : Program} {w : World} {A : Around} {E : Value → Shared → Prop} {s : Shared}
open Classical in
theorem in_trips {D : Addr → Obj → Prop} {l rt : Addr} {vc : List Value} {cs : List (Nm × Nat × Nat)} {nm : Nm} {j k : Nat} {u1 u2 u3 : Tok} {n nc : Nat} {Q : Value → Shared → Prop} (hv : RdAll D vc (cs.map fun x => .tuple [.str x.1.str, .int x.2.1, .int x.2.2])) (hD : ∀ b o, D b o → s.heap.get? b = some o) (hl : s.heap.get? l = some (lstO vc nc))
    (hrt : s.heap.get? rt = some (tupO [.str nm.str u1, .int j u2, .int k u3] n)) (hne : ∀ b o, D b o → b ≠ rt) (hm : (nm, j, k) ∈ cs) (hu : A.units + 1 < cLine) (h : Q (.bool true) s) : wpAny (model prog w) A (compareOp .In (.ref rt) (.ref l)) Q E s := by
  refine SeqAt.in_listAt (items := vc.toArray) (fun y => decide (∃ t v1 v2 v3 n', y = .ref t ∧ s.heap.get? t = some (tupO [.str nm.str v1, .int j v2, .int k v3] n'))) ⟨_, hl, rfl, nc, rfl⟩ (fun y hy => ?_) ?_
  · obtain ⟨d, hd, hr⟩ := hv.memv (by simpa using hy)
    obtain ⟨⟨n2, j2, k2⟩, hq, rfl⟩ := List.mem_map.mp hd
    obtain ⟨t, w1, w2, w3, n3, rfl, ht⟩ := Rd.enc3_inv (x := (n2, j2, k2)) hr
    have z := eqAt_trip (A := A.in1) (hne _ _ ht) (hD _ _ ht) hrt hu
    have e : ((n2.str == nm.str) && ((j2 : Int) == (j : Int)) && ((k2 : Int) == (k : Int))) = decide (∃ t' v1 v2 v3 n', Value.ref t = .ref t' ∧ s.heap.get? t' = some (tupO [.str nm.str v1, .int j v2, .int k v3] n')) := by
      rw [Bool.eq_iff_iff, decide_eq_true_eq]
      constructor
      · intro hb
        simp only [Bool.and_eq_true, beq_iff_eq] at hb
        obtain ⟨⟨e1, e2⟩, e3⟩ := hb
        have := hD _ _ ht
        dsimp only at this
        rw [e1, e2, e3] at this
        exact ⟨t, _, _, _, _, rfl, this⟩
      · rintro ⟨t', v1, v2, v3, n', e, h'⟩
        cases e
        obtain ⟨e1, e2, e3⟩ := trip_inj (hD _ _ ht) h'
        dsimp only at e1 e2 e3
        rw [e1, e2, e3]
        simp
    rw [← e]
    exact z
  · have : vc.toArray.any (fun y => decide (∃ t v1 v2 v3 n', y = .ref t ∧ s.heap.get? t = some (tupO [.str nm.str v1, .int j v2, .int k v3] n'))) = true := by
      obtain ⟨y, hy, hr⟩ := hv.memd (List.mem_map.mpr ⟨_, hm, rfl⟩)
      obtain ⟨t, w1, w2, w3, n3, rfl, ht⟩ := Rd.enc3_inv (x := (nm, j, k)) hr
      rw [List.any_toArray, List.any_eq_true]
      exact ⟨_, hy, by rw [decide_eq_true_eq]; exact ⟨t, _, _, _, _, rfl, hD _ _ ht⟩⟩
    rw [this]
    exact h
end
end Mine
namespace Mine
theorem pairs_step {α : Type} {sq : Bool} {ps : List (Pt α)} {mk : Mk} : (Pt.node sq ps mk).pairs.length ≤ (ps.map fun q => q.pairs.length).sum + 2 * ((Pt.node sq ps mk).leaves * (Pt.node sq ps mk).leaves) := by
  have el : ∀ b, (Pt.edge b (.node sq ps mk)).length ≤ (Pt.node sq ps mk).leaves := fun b => Pt.edge_len b _ _ (Nat.lt_succ_self _)
  have ek : ∀ b, ∀ q ∈ ps, (q.edge b).length ≤ q.leaves := fun b q _ => Pt.edge_len b _ q (Nat.lt_succ_self _)
  have hL : (Pt.node sq ps mk).leaves = (ps.map Pt.leaves).sum := by rw [Pt.leaves]
  have h2 : (prod (Pt.edge false (.node sq ps mk)) (Pt.edge true (.node sq ps mk))).length ≤ (Pt.node sq ps mk).leaves * (Pt.node sq ps mk).leaves := by
    rw [prod_len]; exact Nat.mul_le_mul (el _) (el _)
  rw [Pt.pairs, List.length_append]
  have h3 := rowPairs_len sq (ps.map fun p => (p.pairs, p.edge false, p.edge true, p.nothing))
  simp only [List.map_map, Function.comp_def] at h3
  have h4 : (ps.map fun p => (p.edge false).length).sum ≤ (Pt.node sq ps mk).leaves := by rw [hL]; exact sum_le_map fun q hq => ek false q hq
  have h5 : (ps.map fun p => (p.edge true).length).sum ≤ (Pt.node sq ps mk).leaves := by rw [hL]; exact sum_le_map fun q hq => ek true q hq
  have h7 := Nat.mul_le_mul h4 h5
  generalize (Pt.node sq ps mk).leaves * (Pt.node sq ps mk).leaves = M at *
  have h9 : (if mk.rep = true then prod (Pt.edge false (.node sq ps mk)) (Pt.edge true (.node sq ps mk)) else []).length ≤ M := by
    split
    · exact h2
    · simp
  omega
theorem pairs_name {α : Type} {x : α} {mk : Mk} : (Pt.name x mk).pairs.length ≤ 1 := by rw [Pt.pairs]; split <;> simp
theorem height_pos {α : Type} (q : Pt α) : 1 ≤ q.height := by cases q <;> rw [Pt.height] <;> omega
theorem sum_mul7 {α : Type} (l : List (Pt α)) : (l.map fun q => 7 * q.leaves).sum = 7 * (l.map Pt.leaves).sum := by
  induction l with
  | nil => rfl
  | cons a l ih => rw [List.map_cons, List.sum_cons, ih, List.map_cons, List.sum_cons]; omega
theorem pairs_two {α : Type} (q : Pt α) (hok : q.ok) (hh : q.height ≤ 2) : q.pairs.length ≤ 7 * q.leaves := by
  cases q with
  | name x mk => have := pairs_name (x := x) (mk := mk); rw [Pt.leaves]; omega
  | node sq ps mk =>
    have h1 := pairs_step (sq := sq) (ps := ps) (mk := mk)
    have hl : (Pt.node sq ps mk).leaves ≤ 3 ^ 1 := leaves_le 1 _ hh hok
    have h2 : (ps.map fun q => q.pairs.length).sum ≤ (ps.map Pt.leaves).sum := sum_le_map fun q hq => by
      have h3 := Pt.height_kid hq (sq := sq) (mk := mk)
      cases q with
      | name x mk' => rw [Pt.leaves]; exact pairs_name
      | node sq' ps' mk' =>
        rw [Pt.ok] at hok
        have h4 := hok.2 _ hq
        rw [Pt.ok] at h4
        obtain ⟨r, hr⟩ : ∃ r, r ∈ ps' := by
          cases ps' with
          | nil => simp at h4
          | cons r _ => exact ⟨r, by simp⟩
        have h5 := Pt.height_kid hr (sq := sq') (mk := mk')
        have := height_pos r
        omega
    have h6 : (Pt.node sq ps mk).leaves = (ps.map Pt.leaves).sum := by rw [Pt.leaves]
    rw [← h6] at h2
    generalize (Pt.node sq ps mk).leaves = l at *
    have : l * l ≤ 3 * l := Nat.mul_le_mul_right _ hl
    omega
theorem pairs_225 {α : Type} (np : Pt α) (hok : np.ok) (hh : np.height ≤ 3) (hl : np.leaves ≤ 9) : np.pairs.length ≤ 225 := by
  cases np with
  | name x mk => have := pairs_name (x := x) (mk := mk); omega
  | node sq ps mk =>
    have h1 := pairs_step (sq := sq) (ps := ps) (mk := mk)
    have h2 : (ps.map fun q => q.pairs.length).sum ≤ (ps.map fun q => 7 * q.leaves).sum := sum_le_map fun q hq => by
      rw [Pt.ok] at hok
      have h3 := Pt.height_kid hq (sq := sq) (mk := mk)
      exact pairs_two q (hok.2 q hq) (by omega)
    rw [sum_mul7] at h2
    have h6 : (Pt.node sq ps mk).leaves = (ps.map Pt.leaves).sum := by rw [Pt.leaves]
    rw [← h6] at h2
    generalize (Pt.node sq ps mk).leaves = l at *
    have : l * l ≤ 9 * 9 := Nat.mul_le_mul hl hl
    omega
end Mine
namespace Mine
/-! ## the plain law: what the reader computes is what the law tells pair by pair -/
def G (fol : List (List Int)) (i : Nat) (x : Int) : Prop := ∃ l, fol[i]? = some l ∧ x ∈ l
theorem G_join (begins : List Int) : ∀ (ends : List Int) (fs : List (List Int)), (∀ e ∈ ends, 1 ≤ e ∧ e ≤ (fs.length : Int)) → ∀ i x, G (joinF fs ends begins) i x ↔ G fs i x ∨ (((i : Int) + 1) ∈ ends ∧ x ∈ begins)
  | [], fs, _, i, x => by simp [joinF]
  | e :: ends, fs, h, i, x => by
    have he := h e (by simp)
    rw [joinF, List.foldl_cons, ← joinF, G_join begins ends _ (fun e' h' => by rw [List.length_modify]; exact h e' (by simp [h']))]
    have key : G (fs.modify (e.toNat - 1) fun l => addAll l begins) i x ↔ G fs i x ∨ ((i : Int) + 1 = e ∧ x ∈ begins) := by
      rw [G, List.getElem?_modify]
      by_cases hi : e.toNat - 1 = i
      · have hie : (i : Int) + 1 = e := by omega
        simp only [hi, if_true, hie, true_and]
        obtain ⟨l, hl⟩ : ∃ l, fs[i]? = some l := ⟨_, List.getElem?_eq_getElem (by omega)⟩
        rw [G, hl]
        simp [mem_addAll]
      · have hie : ¬ (i : Int) + 1 = e := by omega
        simp only [hi, if_false, hie, false_and, or_false]
        rw [G]
        simp
    rw [key, List.mem_cons]
    constructor
    · rintro ((h | h) | h)
      · exact .inl h
      · exact .inr ⟨.inl h.1, h.2⟩
      · exact .inr ⟨.inr h.1, h.2⟩
    · rintro (h | ⟨h | h, h'⟩)
      · exact .inl (.inl h)
      · exact .inl (.inr ⟨h, h'⟩)
      · exact .inr ⟨h, h'⟩
theorem G_snoc {fs : List (List Int)} {i : Nat} {x : Int} : G (fs ++ [[]]) i x ↔ G fs i x := by
  rw [G, G]
  constructor
  · rintro ⟨l, hl, hx⟩
    rw [List.getElem?_append] at hl
    split at hl
    · exact ⟨l, hl, hx⟩
    · cases hk : i - fs.length with
      | zero => rw [hk] at hl; simp at hl; subst hl; cases hx
      | succ k => rw [hk] at hl; simp at hl
  · rintro ⟨l, hl, hx⟩
    obtain ⟨h, e⟩ := List.getElem?_eq_some_iff.mp hl
    exact ⟨l, by rw [List.getElem?_append_left h]; exact hl, hx⟩

abbrev NP := Pt (Nm × Nat)
def Ev (es : List (Nm × Nat)) (x : Int) : Prop := ∃ q ∈ es, x = ((q.2 : Nat) : Int)
def Pv (ps : List ((Nm × Nat) × (Nm × Nat))) (i : Nat) (x : Int) : Prop := ∃ ab ∈ ps, ab.1.2 = i + 1 ∧ x = ((ab.2.2 : Nat) : Int)
theorem Ev_nil {x : Int} : Ev [] x ↔ False := by simp [Ev]
theorem Ev_append {a b : List (Nm × Nat)} {x : Int} : Ev (a ++ b) x ↔ Ev a x ∨ Ev b x := by
  simp only [Ev, List.mem_append]
  constructor
  · rintro ⟨q, h | h, e⟩
    · exact .inl ⟨q, h, e⟩
    · exact .inr ⟨q, h, e⟩
  · rintro (⟨q, h, e⟩ | ⟨q, h, e⟩)
    · exact ⟨q, .inl h, e⟩
    · exact ⟨q, .inr h, e⟩
theorem Pv_nil {i : Nat} {x : Int} : Pv [] i x ↔ False := by simp [Pv]
theorem Pv_append {a b : List ((Nm × Nat) × (Nm × Nat))} {i : Nat} {x : Int} : Pv (a ++ b) i x ↔ Pv a i x ∨ Pv b i x := by
  simp only [Pv, List.mem_append]
  constructor
  · rintro ⟨q, h | h, e⟩
    · exact .inl ⟨q, h, e⟩
    · exact .inr ⟨q, h, e⟩
  · rintro (⟨q, h, e⟩ | ⟨q, h, e⟩)
    · exact ⟨q, .inl h, e⟩
    · exact ⟨q, .inr h, e⟩
theorem Pv_prod {a b : List (Nm × Nat)} {i : Nat} {x : Int} : Pv (prod a b) i x ↔ Ev a ((i : Int) + 1) ∧ Ev b x := by
  simp only [Pv, Ev, prod, List.mem_flatMap, List.mem_map]
  constructor
  · rintro ⟨ab, ⟨q, hq, r, hr, rfl⟩, e1, e2⟩
    exact ⟨⟨q, hq, by dsimp only at e1; omega⟩, ⟨r, hr, e2⟩⟩
  · rintro ⟨⟨q, hq, e1⟩, ⟨r, hr, e2⟩⟩
    exact ⟨(q, r), ⟨q, hq, r, hr, rfl⟩, by dsimp only; omega, e2⟩
theorem Ev_row {es : List (Nm × Nat)} {nul : Bool} {r : List (List (Nm × Nat) × Bool)} {x : Int} : Ev (edgeRow true ((es, nul) :: r)) x ↔ Ev es x ∨ (nul = true ∧ Ev (edgeRow true r) x) := by
  rw [edgeRow, Ev_append]
  cases nul with
  | true => simp
  | false => simp [Ev_nil]
theorem Ev_rowF {es : List (Nm × Nat)} {nul : Bool} {r : List (List (Nm × Nat) × Bool)} {x : Int} : Ev (edgeRow false ((es, nul) :: r)) x ↔ Ev es x ∨ Ev (edgeRow false r) x := by
  rw [edgeRow, Ev_append]
  simp
theorem Ev_rowA (es : List (Nm × Nat)) (nul : Bool) {x : Int} : ∀ r : List (List (Nm × Nat) × Bool), Ev (edgeRow true (r ++ [(es, nul)])) x ↔ Ev (edgeRow true r) x ∨ ((r.all fun q => q.2) = true ∧ Ev es x)
  | [] => by rw [List.nil_append, Ev_row]; simp [edgeRow, Ev_nil]
  | (fs, b) :: r => by
    rw [List.cons_append, Ev_row, Ev_rowA es nul r, Ev_row, List.all_cons]
    cases b with
    | true => simp only [true_and, Bool.true_and]; exact (or_assoc).symm
    | false => simp
theorem Ev_rowFA (es : List (Nm × Nat)) (nul : Bool) {x : Int} : ∀ r : List (List (Nm × Nat) × Bool), Ev (edgeRow false (r ++ [(es, nul)])) x ↔ Ev (edgeRow false r) x ∨ Ev es x
  | [] => by rw [List.nil_append, Ev_rowF]; simp [edgeRow, Ev_nil]
  | (fs, b) :: r => by rw [List.cons_append, Ev_rowF, Ev_rowFA es nul r, Ev_rowF]; exact (or_assoc).symm
theorem Pv_late (e : List (Nm × Nat)) {i : Nat} {x : Int} : ∀ r : List (List (Nm × Nat) × Bool), Pv (latePairs e r) i x ↔ Ev e ((i : Int) + 1) ∧ Ev (edgeRow true r) x
  | [] => by simp [latePairs, edgeRow, Pv_nil, Ev_nil]
  | (b, nul) :: r => by
    rw [latePairs, Pv_append, Pv_prod, Ev_row]
    cases nul with
    | true => rw [if_pos rfl, Pv_late e r]; constructor
              · rintro (⟨h1, h2⟩ | ⟨h1, h2⟩)
                · exact ⟨h1, .inl h2⟩
                · exact ⟨h1, .inr ⟨rfl, h2⟩⟩
              · rintro ⟨h1, h2 | ⟨-, h2⟩⟩
                · exact .inl ⟨h1, h2⟩
                · exact .inr ⟨h1, h2⟩
    | false => simp [Pv_nil]

noncomputable def bt (np : NP) : List (Nm × Nat) × Bool := (np.edge true, np.nothing)
noncomputable def bf (np : NP) : List (Nm × Nat) × Bool := (np.edge false, np.nothing)
noncomputable def pq (np : NP) : List ((Nm × Nat) × (Nm × Nat)) × List (Nm × Nat) × List (Nm × Nat) × Bool := (np.pairs, np.edge false, np.edge true, np.nothing)
structure Spec (st : St) (r : Fd × St) (nul : Bool) (E1 E0 : List (Nm × Nat)) (P : List ((Nm × Nat) × (Nm × Nat))) : Prop where
  nul : r.1.1 = nul
  fst : ∀ x, x ∈ r.1.2.1 ↔ Ev E1 x
  lst : ∀ x, x ∈ r.1.2.2 ↔ Ev E0 x
  fol : ∀ i x, G r.2.fol i x ↔ G st.fol i x ∨ Pv P i x
mutual
theorem number_nothing : ∀ (p : Pt Nm) (k : Nat), (p.number k).1.nothing = p.nothing
  | .name x mk, k => by rw [Pt.number, Pt.nothing, Pt.nothing]
  | .node sq ps mk, k => by rw [Pt.number, Pt.nothing, Pt.nothing, numbers_nothing ps k]
theorem numbers_nothing : ∀ (ps : List (Pt Nm)) (k : Nat), ((numbers ps k).1.map Pt.nothing) = ps.map Pt.nothing
  | [], k => by rw [numbers]; rfl
  | p :: ps, k => by rw [numbers, List.map_cons, List.map_cons, number_nothing p, numbers_nothing ps]
end
mutual
theorem number_next : ∀ (p : Pt Nm) (k : Nat), (p.number k).2 = k + p.leaves
  | .name x mk, k => by rw [Pt.number, Pt.leaves]
  | .node sq ps mk, k => by rw [Pt.number, Pt.leaves]; exact numbers_next ps k
theorem numbers_next : ∀ (ps : List (Pt Nm)) (k : Nat), (numbers ps k).2 = k + (ps.map Pt.leaves).sum
  | [], k => by rw [numbers]; simp
  | p :: ps, k => by rw [numbers, List.map_cons, List.sum_cons]; dsimp only; rw [number_next p k, numbers_next ps, Nat.add_assoc]
end
theorem mark_spec {st : St} {r : Fd × St} {nul : Bool} {E1 E0 : List (Nm × Nat)} {P : List ((Nm × Nat) × (Nm × Nat))} {mk : Mk} (h : Spec st r nul E1 E0 P) (hb : ∀ e ∈ r.1.2.2, 1 ≤ e ∧ e ≤ (r.2.fol.length : Int)) :
    Spec st (markF mk r) (nul || mk.nul) E1 E0 (P ++ if mk.rep then prod E0 E1 else []) := by
  refine ⟨by rw [markF]; dsimp only; rw [h.nul], h.fst, h.lst, fun i x => ?_⟩
  rw [markF]
  dsimp only
  rw [Pv_append]
  cases mk.rep with
  | true =>
    rw [if_pos rfl, if_pos rfl, G_join _ _ _ hb, h.fol, Pv_prod, h.lst, h.fst]
    exact or_assoc
  | false =>
    rw [if_neg (by decide), if_neg (by decide), h.fol, Pv_nil, or_false]
end Mine
namespace Mine
structure RowS (a : Fd) (st : St) (r : Fd × St) (nps : List NP) : Prop where
  nul : r.1.1 = (a.1 && (nps.map Pt.nothing).all id)
  fst : ∀ x, x ∈ r.1.2.1 ↔ x ∈ a.2.1 ∨ (a.1 = true ∧ Ev (edgeRow true (nps.map bt)) x)
  lst : ∀ x, x ∈ r.1.2.2 ↔ ((nps.map Pt.nothing).all id = true ∧ x ∈ a.2.2) ∨ Ev (edgeRow true (nps.map bf).reverse) x
  fol : ∀ i x, G r.2.fol i x ↔ G st.fol i x ∨ (((i : Int) + 1) ∈ a.2.2 ∧ Ev (edgeRow true (nps.map bt)) x) ∨ Pv (rowPairs true (nps.map pq)) i x
structure ChS (a : Fd) (st : St) (r : Fd × St) (nps : List NP) : Prop where
  nul : r.1.1 = (a.1 || (nps.map Pt.nothing).any id)
  fst : ∀ x, x ∈ r.1.2.1 ↔ x ∈ a.2.1 ∨ Ev (edgeRow false (nps.map bt)) x
  lst : ∀ x, x ∈ r.1.2.2 ↔ x ∈ a.2.2 ∨ Ev (edgeRow false (nps.map bf).reverse) x
  fol : ∀ i x, G r.2.fol i x ↔ G st.fol i x ∨ Pv (rowPairs false (nps.map pq)) i x
theorem bnd {K : Nat} {l : List Int} (h : OKs K l) {n : Nat} (hn : K ≤ n) : ∀ e ∈ l, 1 ≤ e ∧ e ≤ (n : Int) := fun e he => by have := h.2 e he; omega
theorem all_map_nothing (nps : List NP) : ((nps.map bf).all fun q => q.2) = (nps.map Pt.nothing).all id := by
  induction nps with
  | nil => rfl
  | cons p r ih => rw [List.map_cons, List.all_cons, ih, List.map_cons, List.all_cons]; rfl
theorem late_map (e : List (Nm × Nat)) (nps : List NP) : latePairs e ((nps.map pq).map fun q => (q.2.2.1, q.2.2.2)) = latePairs e (nps.map bt) := by
  rw [List.map_map]; rfl
mutual
theorem readF_spec : ∀ (p : Pt Nm) (st : St), Inv st → Spec st (readF p st) p.nothing (((p.number (st.names.length + 1)).1).edge true) (((p.number (st.names.length + 1)).1).edge false) ((p.number (st.names.length + 1)).1).pairs
  | .name x mk, st, h => by
    rw [readF, Pt.number, Pt.edge, Pt.edge, Pt.pairs, Pt.nothing]
    have z : Spec st ((false, [(st.names.length : Int) + 1], [(st.names.length : Int) + 1]), (⟨st.names ++ [x], st.fol ++ [[]]⟩ : St)) false [(x, st.names.length + 1)] [(x, st.names.length + 1)] [] := by
      refine ⟨rfl, fun y => ?_, fun y => ?_, fun i y => ?_⟩
      · simp [Ev]
      · simp [Ev]
      · rw [Pv_nil, or_false]; exact G_snoc
    have := mark_spec (mk := mk) z (by
      intro e he
      dsimp only at he ⊢
      rw [List.mem_singleton.mp he, List.length_append, List.length_singleton, h.1]
      omega)
    rw [Bool.false_or, List.nil_append] at this
    exact this
  | .node sq ps mk, st, h => by
    rw [readF, Pt.number, Pt.pairs, Pt.nothing]
    dsimp only
    cases sq with
    | true =>
      have z := rowF_spec ps (true, [], []) st h OKs.nil
      have ok := rowF_ok ps (true, [], []) st h OKs.nil OKs.nil
      have w : Spec st (rowF ps (true, [], []) st) ((ps.map Pt.nothing).all id) (edgeRow true ((numbers ps (st.names.length + 1)).1.map bt)) (edgeRow true ((numbers ps (st.names.length + 1)).1.map bf).reverse) (rowPairs true ((numbers ps (st.names.length + 1)).1.map pq)) := by
        refine ⟨?_, fun x => ?_, fun x => ?_, fun i x => ?_⟩
        · rw [z.nul, numbers_nothing]; simp
        · rw [z.fst]; simp
        · rw [z.lst]; simp
        · rw [z.fol]; simp
      have := mark_spec (mk := mk) w (bnd ok.2.2.2 (by rw [ok.2.1.1, ok.1]; exact Nat.le_refl _))
      rw [Bool.or_comm] at this
      rw [Pt.edge, Pt.edge]
      exact this
    | false =>
      have z := chF_spec ps (false, [], []) st h OKs.nil
      have ok := chF_ok ps (false, [], []) st h OKs.nil OKs.nil
      have w : Spec st (chF ps (false, [], []) st) ((ps.map Pt.nothing).any id) (edgeRow false ((numbers ps (st.names.length + 1)).1.map bt)) (edgeRow false ((numbers ps (st.names.length + 1)).1.map bf).reverse) (rowPairs false ((numbers ps (st.names.length + 1)).1.map pq)) := by
        refine ⟨?_, fun x => ?_, fun x => ?_, fun i x => ?_⟩
        · rw [z.nul, numbers_nothing]; simp
        · rw [z.fst]; simp
        · rw [z.lst]; simp
        · rw [z.fol]
      have := mark_spec (mk := mk) w (bnd ok.2.2.2 (by rw [ok.2.1.1, ok.1]; exact Nat.le_refl _))
      rw [Bool.or_comm] at this
      rw [Pt.edge, Pt.edge]
      exact this
theorem rowF_spec : ∀ (ps : List (Pt Nm)) (a : Fd) (st : St), Inv st → OKs st.names.length a.2.2 → RowS a st (rowF ps a st) (numbers ps (st.names.length + 1)).1
  | [], a, st, h, h2 => by
    rw [rowF, numbers]
    refine ⟨by simp, fun x => ?_, fun x => ?_, fun i x => ?_⟩
    · simp [edgeRow, Ev_nil]
    · simp [edgeRow, Ev_nil]
    · simp [edgeRow, rowPairs, Ev_nil, Pv_nil]
  | p :: ps, a, st, h, h2 => by
    have z1 := readF_spec p st h
    obtain ⟨e1, e2, e3, e4⟩ := readF_ok p st h
    have hle : st.names.length ≤ (readF p st).2.names.length := by omega
    have e3' : OKs (readF p st).2.names.length (readF p st).1.2.1 := e1.symm ▸ e3
    have e4' : OKs (readF p st).2.names.length (readF p st).1.2.2 := e1.symm ▸ e4
    have z2 := rowF_spec ps (rowStep a (readF p st).1) ⟨(readF p st).2.names, joinF (readF p st).2.fol a.2.2 (readF p st).1.2.1⟩ (joinF_inv e2 e3') (by
      rw [rowStep]; dsimp only
      refine OKs.add ?_ e4'
      split
      · exact h2.mono hle
      · exact OKs.nil)
    rw [rowF, numbers]
    dsimp only at z2
    rw [e1, show st.names.length + p.leaves + 1 = st.names.length + 1 + p.leaves by omega, ← number_next p (st.names.length + 1)] at z2
    have hn := number_nothing p (st.names.length + 1)
    generalize (p.number (st.names.length + 1)).1 = np at *
    generalize (numbers ps (p.number (st.names.length + 1)).2).1 = nps at *
    have hj := G_join (readF p st).1.2.1 a.2.2 (readF p st).2.fol (bnd h2 (by rw [e2.1]; exact hle))
    have hc : (readF p st).1.1 = np.nothing := z1.nul.trans hn.symm
    show RowS a st _ (np :: nps)
    refine ⟨?_, fun x => ?_, fun x => ?_, fun i x => ?_⟩
    · rw [z2.nul, rowStep]
      dsimp only
      rw [hc, List.map_cons, List.all_cons, Bool.and_assoc]
      rfl
    · rw [z2.fst, rowStep, List.map_cons, bt, Ev_row]
      dsimp only
      rw [hc]
      cases a.1 with
      | true => simp only [if_true, mem_addAll, z1.fst, Bool.true_and, true_and]; exact or_assoc
      | false => simp
    · rw [z2.lst, rowStep, List.map_cons, List.map_cons, List.reverse_cons, bf, Ev_rowA, mem_addAll, z1.lst, List.all_cons, List.all_reverse, all_map_nothing]
      rw [hc]
      cases np.nothing with
      | true =>
        simp only [if_true, id, Bool.true_and]
        constructor
        · rintro (⟨h1, h3 | h3⟩ | h3)
          · exact .inl ⟨h1, h3⟩
          · exact .inr (.inr ⟨h1, h3⟩)
          · exact .inr (.inl h3)
        · rintro (⟨h1, h3⟩ | h3 | ⟨h1, h3⟩)
          · exact .inl ⟨h1, .inl h3⟩
          · exact .inr h3
          · exact .inl ⟨h1, .inr h3⟩
      | false =>
        simp only [Bool.false_eq_true, if_false, id, Bool.false_and, false_and, false_or, List.not_mem_nil]
        constructor
        · rintro (⟨h1, h3⟩ | h3)
          · exact .inr ⟨h1, h3⟩
          · exact .inl h3
        · rintro (h3 | ⟨h1, h3⟩)
          · exact .inr h3
          · exact .inl ⟨h1, h3⟩
    · rw [z2.fol, rowStep]
      dsimp only
      rw [hj, z1.fol, List.map_cons, bt, Ev_row, List.map_cons, pq, rowPairs, Pv_append, Pv_append, if_pos rfl, late_map, Pv_late, mem_addAll, z1.lst, z1.fst, hc]
      cases np.nothing with
      | true =>
        simp only [if_true, true_and]
        constructor
        · rintro (((h1 | h1) | ⟨h1, h3⟩) | ⟨h1 | h1, h3⟩ | h1)
          · exact .inl h1
          · exact .inr (.inr (.inl (.inl h1)))
          · exact .inr (.inl ⟨h1, .inl h3⟩)
          · exact .inr (.inl ⟨h1, .inr h3⟩)
          · exact .inr (.inr (.inl (.inr ⟨h1, h3⟩)))
          · exact .inr (.inr (.inr h1))
        · rintro (h1 | ⟨h1, h3 | h3⟩ | (h1 | ⟨h1, h3⟩) | h1)
          · exact .inl (.inl (.inl h1))
          · exact .inl (.inr ⟨h1, h3⟩)
          · exact .inr (.inl ⟨.inl h1, h3⟩)
          · exact .inl (.inl (.inr h1))
          · exact .inr (.inl ⟨.inr h1, h3⟩)
          · exact .inr (.inr h1)
      | false =>
        simp only [Bool.false_eq_true, if_false, false_and, or_false, List.not_mem_nil, false_or]
        constructor
        · rintro (((h1 | h1) | ⟨h1, h3⟩) | ⟨h1, h3⟩ | h1)
          · exact .inl h1
          · exact .inr (.inr (.inl (.inl h1)))
          · exact .inr (.inl ⟨h1, h3⟩)
          · exact .inr (.inr (.inl (.inr ⟨h1, h3⟩)))
          · exact .inr (.inr (.inr h1))
        · rintro (h1 | ⟨h1, h3⟩ | (h1 | ⟨h1, h3⟩) | h1)
          · exact .inl (.inl (.inl h1))
          · exact .inl (.inr ⟨h1, h3⟩)
          · exact .inl (.inl (.inr h1))
          · exact .inr (.inl ⟨h1, h3⟩)
          · exact .inr (.inr h1)
theorem chF_spec : ∀ (ps : List (Pt Nm)) (a : Fd) (st : St), Inv st → OKs st.names.length a.2.2 → ChS a st (chF ps a st) (numbers ps (st.names.length + 1)).1
  | [], a, st, h, h2 => by
    rw [chF, numbers]
    refine ⟨by simp, fun x => ?_, fun x => ?_, fun i x => ?_⟩
    · simp [edgeRow, Ev_nil]
    · simp [edgeRow, Ev_nil]
    · simp [rowPairs, Pv_nil]
  | p :: ps, a, st, h, h2 => by
    have z1 := readF_spec p st h
    obtain ⟨e1, e2, e3, e4⟩ := readF_ok p st h
    have hle : st.names.length ≤ (readF p st).2.names.length := by omega
    have e4' : OKs (readF p st).2.names.length (readF p st).1.2.2 := e1.symm ▸ e4
    have z2 := chF_spec ps (chStep a (readF p st).1) (readF p st).2 e2 ((h2.mono hle).add e4')
    rw [chF, numbers]
    rw [e1, show st.names.length + p.leaves + 1 = st.names.length + 1 + p.leaves by omega, ← number_next p (st.names.length + 1)] at z2
    have hn := number_nothing p (st.names.length + 1)
    generalize (p.number (st.names.length + 1)).1 = np at *
    generalize (numbers ps (p.number (st.names.length + 1)).2).1 = nps at *
    have hc : (readF p st).1.1 = np.nothing := z1.nul.trans hn.symm
    show ChS a st _ (np :: nps)
    refine ⟨?_, fun x => ?_, fun x => ?_, fun i x => ?_⟩
    · rw [z2.nul, chStep]
      dsimp only
      rw [hc, List.map_cons, List.any_cons, Bool.or_assoc]
      rfl
    · rw [z2.fst, chStep, List.map_cons, bt, Ev_rowF]
      dsimp only
      rw [mem_addAll, z1.fst]; exact or_assoc
    · rw [z2.lst, chStep, List.map_cons, List.reverse_cons, bf, Ev_rowFA]
      dsimp only
      rw [mem_addAll, z1.lst]
      constructor
      · rintro ((h1 | h1) | h1)
        · exact .inl h1
        · exact .inr (.inr h1)
        · exact .inr (.inl h1)
      · rintro (h1 | h1 | h1)
        · exact .inl (.inl h1)
        · exact .inr h1
        · exact .inl (.inr h1)
    · rw [z2.fol, z1.fol, List.map_cons, pq, rowPairs, Pv_append, Pv_append, if_neg (by decide), Pv_nil, or_false]
      exact or_assoc
end
end Mine
namespace Mine
noncomputable def Pt.places {α : Type} : Pt α → List α
  | .name x _ => [x]
  | .node _ ps _ => (ps.map Pt.places).flatten
theorem edgeRow_mem {β : Type} {sq : Bool} {x : β} : ∀ {l : List (List β × Bool)}, x ∈ edgeRow sq l → ∃ e ∈ l, x ∈ e.1
  | [], h => by simp [edgeRow] at h
  | (es, nul) :: r, h => by
    rw [edgeRow] at h
    rcases List.mem_append.mp h with h | h
    · exact ⟨_, List.mem_cons_self, h⟩
    · split at h
      · cases h
      · obtain ⟨e, he, hx⟩ := edgeRow_mem h
        exact ⟨e, List.mem_cons_of_mem _ he, hx⟩
theorem edge_places {α : Type} (b : Bool) : ∀ n, ∀ p : Pt α, p.height < n → ∀ x ∈ p.edge b, x ∈ p.places := by
  intro n
  induction n with
  | zero => intro p h; exact absurd h (Nat.not_lt_zero _)
  | succ n ih =>
    intro p hp x hx
    cases p with
    | name y mk => rw [Pt.edge] at hx; rw [Pt.places]; exact hx
    | node sq ps mk =>
      rw [Pt.edge] at hx
      rw [Pt.places, List.mem_flatten]
      obtain ⟨e, he, hx⟩ := edgeRow_mem hx
      have : e ∈ ps.map (fun p => (p.edge b, p.nothing)) := by
        split at he
        · exact he
        · exact List.mem_reverse.mp he
      obtain ⟨q, hq, rfl⟩ := List.mem_map.mp this
      exact ⟨q.places, List.mem_map.mpr ⟨q, hq, rfl⟩, ih q (by have := Pt.height_kid hq (sq := sq) (mk := mk); omega) x hx⟩
theorem late_mem {β : Type} {e : List β} {ab : β × β} : ∀ {l : List (List β × Bool)}, ab ∈ latePairs e l → ab.1 ∈ e ∧ ∃ q ∈ l, ab.2 ∈ q.1
  | [], h => by simp [latePairs] at h
  | (b, nul) :: r, h => by
    rw [latePairs] at h
    rcases List.mem_append.mp h with h | h
    · simp only [prod, List.mem_flatMap, List.mem_map] at h
      obtain ⟨x, hx, y, hy, rfl⟩ := h
      exact ⟨hx, _, List.mem_cons_self, hy⟩
    · split at h
      · obtain ⟨h1, q, hq, h2⟩ := late_mem h
        exact ⟨h1, q, List.mem_cons_of_mem _ hq, h2⟩
      · cases h
theorem rowPairs_mem {β : Type} {sq : Bool} {ab : β × β} : ∀ {l : List (List (β × β) × List β × List β × Bool)}, ab ∈ rowPairs sq l → (∃ q ∈ l, ab ∈ q.1) ∨ ((∃ q ∈ l, ab.1 ∈ q.2.1) ∧ ∃ q ∈ l, ab.2 ∈ q.2.2.1)
  | [], h => by simp [rowPairs] at h
  | (own, e, f, nul) :: r, h => by
    rw [rowPairs] at h
    rcases List.mem_append.mp h with h | h
    · rcases List.mem_append.mp h with h | h
      · exact .inl ⟨_, List.mem_cons_self, h⟩
      · split at h
        · obtain ⟨h1, q, hq, h2⟩ := late_mem h
          obtain ⟨q', hq', rfl⟩ := List.mem_map.mp hq
          exact .inr ⟨⟨_, List.mem_cons_self, h1⟩, q', List.mem_cons_of_mem _ hq', h2⟩
        · cases h
    · rcases rowPairs_mem h with ⟨q, hq, h⟩ | ⟨⟨q, hq, h1⟩, q', hq', h2⟩
      · exact .inl ⟨q, List.mem_cons_of_mem _ hq, h⟩
      · exact .inr ⟨⟨q, List.mem_cons_of_mem _ hq, h1⟩, q', List.mem_cons_of_mem _ hq', h2⟩
theorem pairs_places {α : Type} : ∀ n, ∀ p : Pt α, p.height < n → ∀ ab ∈ p.pairs, ab.1 ∈ p.places ∧ ab.2 ∈ p.places := by
  intro n
  induction n with
  | zero => intro p h; exact absurd h (Nat.not_lt_zero _)
  | succ n ih =>
    intro p hp ab hab
    cases p with
    | name y mk =>
      rw [Pt.pairs] at hab
      rw [Pt.places]
      split at hab
      · rw [List.mem_singleton.mp hab]; exact ⟨List.mem_singleton.mpr rfl, List.mem_singleton.mpr rfl⟩
      · cases hab
    | node sq ps mk =>
      have hk : ∀ q ∈ ps, q.height < n := fun q hq => by have := Pt.height_kid hq (sq := sq) (mk := mk); omega
      have up : ∀ q ∈ ps, ∀ x ∈ q.places, x ∈ (Pt.node sq ps mk).places := fun q hq x hx => by
        rw [Pt.places, List.mem_flatten]; exact ⟨_, List.mem_map.mpr ⟨q, hq, rfl⟩, hx⟩
      rw [Pt.pairs] at hab
      rcases List.mem_append.mp hab with hab | hab
      · rcases rowPairs_mem hab with ⟨q, hq, h⟩ | ⟨⟨q, hq, h1⟩, q', hq', h2⟩
        · obtain ⟨r, hr, rfl⟩ := List.mem_map.mp hq
          obtain ⟨h1, h2⟩ := ih r (hk r hr) ab h
          exact ⟨up r hr _ h1, up r hr _ h2⟩
        · obtain ⟨r, hr, rfl⟩ := List.mem_map.mp hq
          obtain ⟨r', hr', rfl⟩ := List.mem_map.mp hq'
          exact ⟨up r hr _ (edge_places false _ r (Nat.lt_succ_self _) _ h1), up r' hr' _ (edge_places true _ r' (Nat.lt_succ_self _) _ h2)⟩
      · split at hab
        · simp only [prod, List.mem_flatMap, List.mem_map] at hab
          obtain ⟨x, hx, y, hy, rfl⟩ := hab
          exact ⟨edge_places false _ _ (Nat.lt_succ_self _) _ hx, edge_places true _ _ (Nat.lt_succ_self _) _ hy⟩
        · cases hab
mutual
theorem readF_names : ∀ (p : Pt Nm) (st : St), (readF p st).2.names = st.names ++ p.places
  | .name x mk, st => by rw [readF, markF, Pt.places]
  | .node sq ps mk, st => by
    rw [readF, markF, Pt.places]
    dsimp only
    cases sq with
    | true => exact rowF_names ps _ st
    | false => exact chF_names ps _ st
theorem rowF_names : ∀ (ps : List (Pt Nm)) (a : Fd) (st : St), (rowF ps a st).2.names = st.names ++ (ps.map Pt.places).flatten
  | [], a, st => by rw [rowF]; simp
  | p :: ps, a, st => by
    rw [rowF, rowF_names ps, List.map_cons, List.flatten_cons]
    dsimp only
    rw [readF_names p, List.append_assoc]
theorem chF_names : ∀ (ps : List (Pt Nm)) (a : Fd) (st : St), (chF ps a st).2.names = st.names ++ (ps.map Pt.places).flatten
  | [], a, st => by rw [chF]; simp
  | p :: ps, a, st => by
    rw [chF, chF_names ps, List.map_cons, List.flatten_cons, readF_names p, List.append_assoc]
end
mutual
theorem places_len : ∀ (p : Pt Nm), p.places.length = p.leaves
  | .name x mk => by rw [Pt.places, Pt.leaves]; rfl
  | .node sq ps mk => by rw [Pt.places, Pt.leaves]; exact placesL_len ps
theorem placesL_len : ∀ (ps : List (Pt Nm)), (ps.map Pt.places).flatten.length = (ps.map Pt.leaves).sum
  | [] => rfl
  | p :: ps => by rw [List.map_cons, List.flatten_cons, List.length_append, places_len p, placesL_len ps, List.map_cons, List.sum_cons]
end
mutual
theorem number_places : ∀ (p : Pt Nm) (k : Nat), ∀ q ∈ (p.number k).1.places, k ≤ q.2 ∧ p.places[q.2 - k]? = some q.1
  | .name x mk, k, q, hq => by
    rw [Pt.number, Pt.places] at hq
    rw [List.mem_singleton.mp hq, Pt.places]
    simp
  | .node sq ps mk, k, q, hq => by
    rw [Pt.number, Pt.places] at hq
    rw [Pt.places]
    exact numbers_places ps k q hq
theorem numbers_places : ∀ (ps : List (Pt Nm)) (k : Nat), ∀ q ∈ ((numbers ps k).1.map Pt.places).flatten, k ≤ q.2 ∧ ((ps.map Pt.places).flatten)[q.2 - k]? = some q.1
  | [], k, q, hq => by rw [numbers] at hq; simp at hq
  | p :: ps, k, q, hq => by
    rw [numbers, List.map_cons, List.flatten_cons] at hq
    rw [List.map_cons, List.flatten_cons]
    rcases List.mem_append.mp hq with h | h
    · obtain ⟨h1, h2⟩ := number_places p k q h
      obtain ⟨h3, -⟩ := List.getElem?_eq_some_iff.mp h2
      exact ⟨h1, by rw [List.getElem?_append_left h3]; exact h2⟩
    · obtain ⟨h1, h2⟩ := numbers_places ps (p.number k).2 q h
      rw [number_next] at h1 h2
      refine ⟨by omega, ?_⟩
      rw [List.getElem?_append_right (by rw [places_len]; omega), places_len, show q.2 - k - p.leaves = q.2 - (k + p.leaves) by omega]
      exact h2
end
theorem nm_of_place (p : Pt Nm) {q : Nm × Nat} (hq : q ∈ (p.number 1).1.places) : 1 ≤ q.2 ∧ nmOf (readF p ⟨[], []⟩).2.names (q.2 : Int) = q.1 := by
  obtain ⟨h1, h2⟩ := number_places p 1 q hq
  refine ⟨h1, ?_⟩
  rw [readF_names, List.nil_append, nmOf, List.getD_eq_getElem?_getD, Int.toNat_natCast, h2]
  rfl

theorem lookup_none {n : Nm} : ∀ {sn : List (Nm × Int)}, sn.lookup n = none → ∀ e ∈ sn, e.1 ≠ n
  | [], _, _, he => by cases he
  | (m, y) :: sn, h, e, he => by
    rw [List.lookup_cons] at h
    cases hb : (n == m) with
    | true => rw [hb] at h; cases h
    | false =>
      rw [hb] at h
      rcases List.mem_cons.mp he with rfl | he
      · intro e'; dsimp only at e'; rw [e'] at hb; simp at hb
      · exact lookup_none h e he
theorem lookup_some {n : Nm} {x : Int} : ∀ {sn : List (Nm × Int)}, sn.lookup n = some x → (n, x) ∈ sn
  | [], h => by cases h
  | (m, y) :: sn, h => by
    rw [List.lookup_cons] at h
    cases hb : (n == m) with
    | true => rw [hb] at h; cases h; rw [eq_of_beq hb]; exact List.mem_cons_self
    | false => rw [hb] at h; exact List.mem_cons_of_mem _ (lookup_some h)
theorem clashRow_some (nmAt : Int → Nm) {n : Nm} {x y : Int} : ∀ (l : List Int) (sn : List (Nm × Int)), (∀ e ∈ sn, e.1 = nmAt e.2) → l.Pairwise (· < ·) → (∀ e ∈ sn, ∀ z ∈ l, e.2 < z) → clashRow nmAt l sn = some (n, x, y) → n = nmAt x ∧ n = nmAt y ∧ x < y ∧ y ∈ l ∧ (x ∈ l ∨ (n, x) ∈ sn)
  | [], sn, _, _, _, h => by rw [clashRow] at h; cases h
  | o :: l, sn, h1, h2, h3, h => by
    rw [clashRow] at h
    obtain ⟨h4, h5⟩ := List.pairwise_cons.mp h2
    cases hl : sn.lookup (nmAt o) with
    | some z =>
      rw [hl] at h
      simp only [Option.some.injEq, Prod.mk.injEq] at h
      obtain ⟨rfl, rfl, rfl⟩ := h
      have hm := lookup_some hl
      exact ⟨h1 _ hm, rfl, h3 _ hm _ (by simp), by simp, .inr hm⟩
    | none =>
      rw [hl] at h
      obtain ⟨k1, k2, k3, k4, k5⟩ := clashRow_some nmAt l (sn ++ [(nmAt o, o)]) (fun e he => by
        rcases List.mem_append.mp he with he | he
        · exact h1 e he
        · rw [List.mem_singleton.mp he]) h5 (fun e he z hz => by
        rcases List.mem_append.mp he with he | he
        · exact h3 e he z (by simp [hz])
        · rw [List.mem_singleton.mp he]; exact h4 z hz) h
      refine ⟨k1, k2, k3, by simp [k4], ?_⟩
      rcases k5 with k5 | k5
      · exact .inl (by simp [k5])
      · rcases List.mem_append.mp k5 with k5 | k5
        · exact .inr k5
        · have := List.mem_singleton.mp k5
          simp only [Prod.mk.injEq] at this
          exact .inl (by simp [this.2])
theorem clashRow_none (nmAt : Int → Nm) : ∀ (l : List Int) (sn : List (Nm × Int)), l.Pairwise (· < ·) → clashRow nmAt l sn = none → (∀ x ∈ l, ∀ y ∈ l, x < y → nmAt x ≠ nmAt y) ∧ ∀ e ∈ sn, ∀ y ∈ l, e.1 ≠ nmAt y
  | [], sn, _, _ => ⟨fun _ h => (by cases h), fun _ _ _ h => (by cases h)⟩
  | o :: l, sn, h2, h => by
    rw [clashRow] at h
    obtain ⟨h4, h5⟩ := List.pairwise_cons.mp h2
    cases hl : sn.lookup (nmAt o) with
    | some z => rw [hl] at h; cases h
    | none =>
      rw [hl] at h
      obtain ⟨k1, k2⟩ := clashRow_none nmAt l (sn ++ [(nmAt o, o)]) h5 h
      have k3 := lookup_none hl
      refine ⟨fun x hx y hy hxy => ?_, fun e he y hy => ?_⟩
      · rcases List.mem_cons.mp hx with hx1 | hx1
        · rcases List.mem_cons.mp hy with hy1 | hy1
          · omega
          · rw [hx1]; exact k2 (nmAt o, o) (by simp) y hy1
        · rcases List.mem_cons.mp hy with hy1 | hy1
          · have := h4 x hx1; omega
          · exact k1 x hx1 y hy1 hxy
      · rcases List.mem_cons.mp hy with hy1 | hy1
        · rw [hy1]; exact k3 e he
        · exact k2 e (by simp [he]) y hy1
theorem clashAll_someI {nmAt : Int → Nm} {r : Nm × Int × Int} : ∀ {ls : List (List Int)}, clashAll nmAt ls = some r → ∃ l ∈ ls, clashRow nmAt l [] = some r
  | [], h => by cases h
  | l :: ls, h => by
    rw [clashAll] at h
    cases hr : clashRow nmAt l [] with
    | some r' => rw [hr] at h; cases h; exact ⟨l, by simp, hr⟩
    | none =>
      rw [hr] at h
      obtain ⟨l', h1, h2⟩ := clashAll_someI h
      exact ⟨l', by simp [h1], h2⟩
theorem clashAll_noneI {nmAt : Int → Nm} : ∀ {ls : List (List Int)}, clashAll nmAt ls = none → ∀ l ∈ ls, clashRow nmAt l [] = none
  | [], _, _, hl => by cases hl
  | l :: ls, h, l', hl => by
    rw [clashAll] at h
    cases hr : clashRow nmAt l [] with
    | some r' => rw [hr] at h; cases h
    | none =>
      rw [hr] at h
      rcases List.mem_cons.mp hl with rfl | hl
      · exact hr
      · exact clashAll_noneI h l' hl
end Mine
namespace Mine
theorem fill_up (w : World) (H : Heap) : (KK w.params).In H → PySem.Challenge.rw_nu0043_01 = PySem.Challenge.rw_nu0043_01 := by
  k_fill
  intro _
  rfl
local macro_rules | `(tactic| walk_at $s:str) => `(tactic| k_extra $s)
local macro_rules | `(tactic| k_mem) => `(tactic| first | assumption | (refine List.mem_append.mpr (Or.inl ?_); k_mem) | (refine List.mem_append.mpr (Or.inr ?_); k_mem))
local macro_rules | `(tactic| k_all) => `(tactic| first | exact List.forall_mem_nil _ | assumption | exact Ap.all (by assumption) | ((refine List.forall_mem_cons.mpr ⟨?ka, ?kb⟩); (case ka => k_ne); (case kb => k_all)) | ((refine List.forall_mem_append.mpr ⟨?_, ?_⟩) <;> k_all) | exact fun p hp => Nat.ne_of_lt (ktn_ltOf (by assumption) p hp))
open LCg (NsObj ns_obj lst lst_snoc Off3)
theorem words_take : True := by
  w_top off
  k_with_none
  k_with "m_enter" => (
      refine wpAny_call ?_;
      k_dflt (refine' enterP0 ?q0k4 ?q0k5 ?q0kH ?q0k6 ?q0k7 ?q0k8 ?q0k9 ?q0kB ?_ ?q0c2 ?q0c3 ?q0c4 ?q0c5; (case q0kH => assumption); (case q0k4 => k_asm); (case q0k5 => k_asm); (case q0k6 => k_is); (case q0k7 => k_is); (case q0k8 => (simp only [recursionLimit]; omega)); (case q0k9 => exact BindsTo.of_eq rfl); (case q0c5 => decide); (case q0kB => exact locs rfl); (case q0c2 => exact rfl); (case q0c3 => exact rfl); (case q0c4 => exact rfl); k_whole);
      rename Frag.In _ _ => xX; rename Top _ _ _ _ _ _ => xT; clear xX xT;
      intro L' h' tk' F' N' X' T'; (try dsimp only); (try k_fold))
  k_with "m_enter0" => (
      refine wpAny_call ?_;
      k_dflt (refine' enterP0 ?q1k4 ?q1k5 ?q1kH ?q1k6 ?q1k7 ?q1k8 ?q1k9 ?q1kB ?_ ?q1c2 ?q1c3 ?q1c4 ?q1c5; (case q1kH => assumption); (case q1k4 => k_asm); (case q1k5 => k_asm); (case q1k6 => k_is); (case q1k7 => k_is); (case q1k8 => (simp only [recursionLimit]; omega)); (case q1k9 => exact BindsTo.of_eq rfl); (case q1c5 => decide); (case q1kB => exact locs rfl); (case q1c2 => exact rfl); (case q1c3 => exact rfl); (case q1c4 => exact rfl); k_whole);
      rename Frag.In _ _ => xX; rename Top _ _ _ _ _ _ => xT; clear xX xT)
  k_with "m_enterC" => (
      refine wpAny_call ?_;
      k_dflt (refine' enterC0 ?q2k4 ?q2k5 ?q2kH ?q2k6 ?q2k7 ?q2k8 ?q2k9 ?q2kB ?q2kD ?_ ?q2c2 ?q2c3 ?q2c4; (case q2kH => assumption); (case q2k4 => k_asm); (case q2k5 => k_asm); (case q2k6 => k_is); (case q2k7 => k_is); (case q2k8 => (simp only [recursionLimit]; omega)); (case q2k9 => exact BindsTo.of_eq rfl); (case q2kB => exact rfl); (case q2kD => decide +kernel); (case q2c2 => exact rfl); (case q2c3 => exact rfl); (case q2c4 => exact rfl); k_whole);
      rename Frag.In _ _ => xX; rename Top _ _ _ _ _ _ => xT; clear xX xT;
      intro L' h' tk' cells' F' N' Y' X' T'; k_cells Y'; (try simp only [List.cons_append, List.nil_append] at N'); (try dsimp only); (try k_fold))
  k_with "m_enterC0" => (
      refine wpAny_call ?_;
      k_dflt (refine' enterC0 ?q3k4 ?q3k5 ?q3kH ?q3k6 ?q3k7 ?q3k8 ?q3k9 ?q3kB ?q3kD ?_ ?q3c2 ?q3c3 ?q3c4; (case q3kH => assumption); (case q3k4 => k_asm); (case q3k5 => k_asm); (case q3k6 => k_is); (case q3k7 => k_is); (case q3k8 => (simp only [recursionLimit]; omega)); (case q3k9 => exact BindsTo.of_eq rfl); (case q3kB => exact rfl); (case q3kD => decide +kernel); (case q3c2 => exact rfl); (case q3c3 => exact rfl); (case q3c4 => exact rfl); k_whole);
      rename Frag.In _ _ => xX; rename Top _ _ _ _ _ _ => xT; clear xX xT)
  k_with "call ref" => k_dflt (k_extra "m_call")
  k_with "exec Assign cons ListComp" => (k_dflt (refine' comp_assign ?q5kF (emitOne _) ?q5k0 ?q5k1 ?q5k2 ?q5k3 ?q5k4 ?q5k5 ?q5k6 ?q5k7 ?q5k8 ?_; (case q5kF => k_asm); (case q5k0 => exact rfl); (case q5k1 => (intros; rfl)); (case q5k2 => exact rfl); (case q5k3 => with_unfolding_all rfl); (case q5k4 => decide); (case q5k5 => exact rfl); (case q5k6 => decide); (case q5k7 => exact rfl); (case q5k8 => exact rfl); k_whole))
  k_with "eval ListComp" => (k_dflt (refine' comp_eval ?q6kF (emitOne _) ?q6k1 ?q6k3 ?q6k4 ?q6k5 ?q6k6 ?_; (case q6kF => k_asm); (case q6k1 => (intros; rfl)); (case q6k3 => with_unfolding_all rfl); (case q6k4 => decide); (case q6k5 => exact rfl); (case q6k6 => decide); k_whole))
  k_with "exec For Name Subscript cons nil" => (k_dflt (refine' for_rule ?q7kF ?_; (case q7kF => k_asm); k_whole))
  k_with "exec For Name Name cons nil" => (k_dflt (refine' for_rule ?q8kF ?_; (case q8kF => k_asm); k_whole))
  k_with "exec For Name IfExp cons nil" => (k_dflt (refine' for_rule ?q9kF ?_; (case q9kF => k_asm); k_whole))
  k_with "exec For Name Call cons nil" => (k_dflt (refine' for_rule ?q10kF ?_; (case q10kF => k_asm); k_whole))
  k_with "exec For Name ListComp cons nil" => (k_dflt (refine' for_rule ?q11kF ?_; (case q11kF => k_asm); k_whole))
  k_with "exec For Tuple Name cons nil" => (k_dflt (refine' for_rule ?q12kF ?_; (case q12kF => k_asm); k_whole))
  k_with "FSrc" => k_dflt (k_extra "m_fsrc")
  k_with "FRest" => k_dflt (k_extra "m_frest")
  k_with "FEnd" => k_dflt (k_extra "m_fend")
  k_with "CSrc" => k_dflt (k_extra "m_src")
  k_with "CRest" => k_dflt (k_extra "m_rest")
  k_with "CEnd" => k_dflt (k_extra "m_cend")
  k_with "FinA" => (unfold FinA; intro h9 tk9 F9 N9 ne9; (try rw [lst_eq] at N9))
  k_with "FinE" => (unfold FinE; intro h9 tk9 F9 N9 ne9; (try rw [lst_eq] at N9))
  k_with "execs cons Assign cons" => refine wpAny_execs_cons ?_
  k_with "execs cons Assign nil" => refine wpAny_execs_cons ?_
  k_with "execs cons If cons" => refine wpAny_execs_cons ?_
  k_with "execs cons If nil" => refine wpAny_execs_cons ?_
  k_with "execs cons For cons" => refine wpAny_execs_cons ?_
  k_with "execs cons For nil" => refine wpAny_execs_cons ?_
  k_with "execs cons Return cons" => refine wpAny_execs_cons ?_
  k_with "execs cons Return nil" => refine wpAny_execs_cons ?_
  k_with "execs cons Expr cons" => refine wpAny_execs_cons ?_
  k_with "execs cons Expr nil" => refine wpAny_execs_cons ?_
  k_with "ite" => first | (rw [if_neg (by decide +kernel)]) | (rw [if_pos (by decide +kernel)])
  k_with "subscriptTail Name Constant ref int" => (k_dflt (refine' item_tupleT ?q32k1 ?q32k2 ?q32k3 ?q32k4 ?q32k5 ?_; (case q32k1 => exact Fr.tup (by k_asm) (by assumption)); (case q32k2 => decide); (case q32k3 => decide); (case q32k4 => rfl); (case q32k5 => rfl); k_whole))
  k_with "eval Name" => (k_dflt (refine' nameX_L ?q33k1 ?q33k2 ?_; (case q33k1 => k_asm); (case q33k2 => first | exact rfl | assumption); k_whole))
  k_with "binaryOp Add ref ref" => (k_dflt (refine' my_add ?q34F ?q34N ?q34a ?q34b ?q34z ?_; (case q34F => k_asm); (case q34N => k_asm); (case q34a => k_mem); (case q34b => k_mem); (case q34z => (rw [sizeLine_eq]; (try simp only [List.length_append, List.length_nil, List.length_cons]); omega)); k_whole; intro r9 h9 F9 N9 l9; (try k_lt l9)))
  k_with "subscriptTail Subscript" => (k_dflt (refine kba_turn (value' := PySem.Expr.Name (PySem.Str.ofString "_") ⟨0, 0, 0, 0⟩) (fun _ => rfl) ?_))
  k_with "subscriptTail Name Slice ref ref" => (k_dflt (refine' slice_tuple ?q36F ?q36N ?q36t ?q36pa ?q36pb ?q36pc ?q36h0 ?q36hno ?q36hz ?q36hsz ?_ ?q36hs ?q36hg; (case q36F => k_asm); (case q36N => k_asm); (case q36t => exact Fr.tup (by k_asm) (by assumption)); (case q36pa => first | exact IsPart.none | exact IsPart.int _ _); (case q36pb => first | exact IsPart.none | exact IsPart.int _ _); (case q36pc => first | exact IsPart.none | exact IsPart.int _ _); (case q36h0 => rfl); (case q36hno => rfl); (case q36hz => with_unfolding_all first | exact (rfl : _ = []) | exact (rfl : _ = [_]) | exact (rfl : _ = [_, _]) | exact (rfl : _ = [_, _, _])); (case q36hsz => (rw [sizeLine_eq]; exact Nat.le_of_ble_eq_true rfl)); (case q36hs => with_unfolding_all rfl); (case q36hg => (intro _; with_unfolding_all rfl)); k_whole; intro r9 h9 F9 N9 l9; (try k_lt l9)))
  k_with "m_sub" => (intro q9 h9; simp only [List.mem_cons, List.mem_append, h9, true_or, or_true])
  k_with "m_rdsub" => (intro b o h; first | exact h | exact Or.inl h | (refine Or.elim h Or.inl (fun h => Or.inr ?_); simp only [List.mem_cons, List.mem_append, h, true_or, or_true]))
  k_with "m_rd" => first
      | exact Rd.int _ _ | exact Rd.str _ _ | exact Rd.bool _ | assumption
      | (refine' Rd.mono ?q39hs ?q39hv; (case q39hv => assumption); (case q39hs => walk_at "m_rdsub"))
      | (refine Rd.tuple (Or.inr (by k_mem)) ?_; walk_at "m_rds")
  k_with "m_rds" => first
      | exact RdAll.nil
      | ((refine RdAll.cons ?_ ?_); (walk_at "m_rd"); (walk_at "m_rds"))
  k_with "call builtin:len" => (k_dflt (refine' len_tupK ?q41k1 ?q41k2 ?q41k3 ?_; (case q41k1 => exact Fr.tup (by k_asm) (by assumption)); (case q41k2 => assumption); (case q41k3 => omega); k_whole))
  k_with "call type:range" => (k_dflt (first | (refine' range1_rows ?q42k1 ?q42k2 ?_; (case q42k1 => k_asm); (case q42k2 => k_asm); k_whole; intro h9 tk9 t9 u9 v9 hr9 F9 N9 hk9) | (refine' range2_rows ?q42k1 ?q42k2 ?_; (case q42k1 => k_asm); (case q42k2 => k_asm); k_whole; intro h9 tk9 t9 u9 v9 hr9 F9 N9 hk9)))
  k_with "subscriptTail Name Name ref int" => (k_dflt (refine' item_sym ?q43k1 ?q43k2 ?q43k3 ?q43k4 ?_; (case q43k1 => exact Fr.tup (by k_asm) (by assumption)); (case q43k4 => assumption); (case q43k2 => omega); (case q43k3 => omega); k_whole))
  k_with "compareOp Eq ref ref" => (k_dflt (refine' list_eq_nil ?y1N ?y1a ?y1b ?y1u ?_; (case y1N => k_asm); (case y1a => k_mem); (case y1b => k_mem); (case y1u => (show _ < 9900; (try dsimp only); omega)); k_whole))
  k_with "m_enterD" => (
      k_dflt (refine' enterC1 ?z3k4 ?z3k5 ?z3kH ?z3k6 ?z3k7 ?z3k8 ?z3k9 ?z3kB ?z3kD ?_ ?z3c2 ?z3c3 ?z3c4; (case z3kH => assumption); (case z3k4 => k_asm); (case z3k5 => k_asm); (case z3k6 => k_is); (case z3k7 => k_is); (case z3k8 => (simp only [recursionLimit]; omega)); (case z3k9 => exact BindsTo.of_eq rfl); (case z3kB => exact rfl); (case z3kD => decide +kernel); (case z3c2 => exact rfl); (case z3c3 => exact rfl); (case z3c4 => exact rfl); k_whole);
      rename Frag.In _ _ => xX; rename Top _ _ _ _ _ _ => xT; clear xX xT)
  k_with "m_enterB" => (
      k_dflt (refine' enterP1 ?z4k4 ?z4k5 ?z4kH ?z4k6 ?z4k7 ?z4k8 ?z4k9 ?z4kB ?_ ?z4c2 ?z4c3 ?z4c4 ?z4c5; (case z4kH => assumption); (case z4k4 => k_asm); (case z4k5 => k_asm); (case z4k6 => k_is); (case z4k7 => k_is); (case z4k8 => (simp only [recursionLimit]; omega)); (case z4k9 => exact BindsTo.of_eq rfl); (case z4c5 => decide); (case z4kB => exact locs rfl); (case z4c2 => exact rfl); (case z4c3 => exact rfl); (case z4c4 => exact rfl); k_whole);
      rename Frag.In _ _ => xX; rename Top _ _ _ _ _ _ => xT; clear xX xT)
  k_with "m_enterG" => (
      k_dflt (refine' enterG ?z5k4 ?z5k5 ?z5kH ?z5F ?z5N ?z5k6 ?z5k7 ?z5k8 ?z5k9 ?z5kB ?_ ?z5c2 ?z5c3 ?z5c4 ?z5c5; (case z5kH => assumption); (case z5F => assumption); (case z5N => assumption); (case z5k4 => k_asm); (case z5k5 => k_asm); (case z5k6 => k_is); (case z5k7 => k_is); (case z5k8 => (simp only [recursionLimit]; omega)); (case z5k9 => exact BindsTo.of_eq rfl); (case z5c5 => decide); (case z5kB => exact locs rfl); (case z5c2 => exact rfl); (case z5c3 => exact rfl); (case z5c4 => exact rfl); k_whole))
  k_with "m_enterGC" => (
      k_dflt (refine' enterGC ?z6k4 ?z6k5 ?z6kH ?z6F ?z6N ?z6k6 ?z6k7 ?z6k8 ?z6k9 ?z6kB ?z6kD ?_ ?z6c2 ?z6c3 ?z6c4; (case z6kH => assumption); (case z6F => assumption); (case z6N => assumption); (case z6k4 => k_asm); (case z6k5 => k_asm); (case z6k6 => k_is); (case z6k7 => k_is); (case z6k8 => (simp only [recursionLimit]; omega)); (case z6k9 => exact BindsTo.of_eq rfl); (case z6kB => exact rfl); (case z6kD => decide +kernel); (case z6c2 => exact rfl); (case z6c3 => exact rfl); (case z6c4 => exact rfl); k_whole))
  k_with "m_enterE" => (
      k_dflt (refine' enterE ?z8k4 ?z8k5 ?z8kH ?z8F ?z8N ?z8k6 ?z8k7 ?z8k8 ?z8k9 ?z8kB ?_ ?z8c2 ?z8c3 ?z8c4 ?z8c5; (case z8kH => assumption); (case z8F => assumption); (case z8N => assumption); (case z8k4 => k_asm); (case z8k5 => k_asm); (case z8k6 => k_is); (case z8k7 => k_is); (case z8k8 => (simp only [recursionLimit]; omega)); (case z8k9 => exact BindsTo.of_eq rfl); (case z8c5 => decide); (case z8kB => exact locs rfl); (case z8c2 => exact rfl); (case z8c3 => exact rfl); (case z8c4 => exact rfl); k_whole))
  k_with "m_enterEC" => (
      k_dflt (refine' enterEC ?z9k4 ?z9k5 ?z9kH ?z9F ?z9N ?z9k6 ?z9k7 ?z9k8 ?z9k9 ?z9kB ?z9kD ?_ ?z9c2 ?z9c3 ?z9c4; (case z9kH => assumption); (case z9F => assumption); (case z9N => assumption); (case z9k4 => k_asm); (case z9k5 => k_asm); (case z9k6 => k_is); (case z9k7 => k_is); (case z9k8 => (simp only [recursionLimit]; omega)); (case z9k9 => exact BindsTo.of_eq rfl); (case z9kB => exact rfl); (case z9kD => decide +kernel); (case z9c2 => exact rfl); (case z9c3 => exact rfl); (case z9c4 => exact rfl); k_whole))
  k_with "m_in" => first
    | with_reducible apply in_hd
    | (with_reducible apply in_l; walk_at "m_in")
    | (with_reducible apply in_r; walk_at "m_in")
    | (with_reducible apply in_tl; walk_at "m_in")
    | apply in_hd
    | assumption
  k_with "m_sub3" => first
    | with_reducible apply sub_id
    | (with_reducible apply sub_l; walk_at "m_sub3")
    | (with_reducible apply sub_r; walk_at "m_sub3")
    | (with_reducible apply sub_tl; walk_at "m_sub3")
  k_with "m_perm2" => ((repeat' (first | with_reducible apply sub_nil | with_reducible apply sub_app | with_reducible apply sub_cons)); all_goals (first | walk_at "m_in" | walk_at "m_sub3"))
  k_with "m_perm" => (intro p hp; simp only [List.cons_append, List.nil_append, List.append_assoc, List.append_nil, List.mem_cons, List.mem_append, List.not_mem_nil, or_false, or_assoc] at hp ⊢; (repeat' (first | (cases hp with | inl hp => ?_ | inr hp => ?_) | fail)); all_goals (repeat (first | apply hp | apply Or.inl hp | apply Or.inr)))
  k_with "m_notin" => first | exact notIn_of2 (by assumption) | (refine notIn_of ?_ ?_ ?_ ?_ ?_ <;> first | omega | assumption)
  k_with "m_off" => (refine Ap.all ?_; simp only [Ap, and_true]; omega)
  k_with "m_front" => first
    | assumption
    | exact rot2 (by assumption)
    | exact rot3 (by assumption)
    | exact rot4 (by assumption)
    | exact rot5 (by assumption)
    | exact rot6 (by assumption)
    | exact rot7 (by assumption)
    | exact rot8 (by assumption)
    | exact rot9 (by assumption)
  k_with "call builtin:list.append" => (k_dflt (refine' append_L ?zaF ?zaN ?zao ?zaz ?_; (case zaF => k_asm); (case zaN => walk_at "m_front"); (case zao => first | k_all | walk_at "m_off"); (case zaz => omega); k_whole; intro h9 F9 N9))
  k_with "compareOp NotIn int ref" => (k_dflt (refine' notin_L ?zbN ?zbm ?zbI ?_; (case zbN => k_asm); (case zbm => k_mem); (case zbI => assumption); k_whole))
  k_with "call builtin:len" => (k_dflt (refine' len_listK ?z7N ?z7l ?z7z ?_; (case z7N => k_asm); (case z7l => k_mem); (case z7z => omega); k_whole))
  trivial
/-- the source of draws: two ints, none negative -/
def SrcSt (o : Obj) : Prop := ∃ x y tx ty n, o = lstO [.int x tx, .int y ty] n ∧ 0 ≤ x ∧ 0 ≤ y ∧ y < 2147483647

theorem take_ok {w : World} {mean : ExcName → Option Value} {mg mb : Str → Option Value} {H g : Heap} (RT : Root w mean mg mb H) (hH : H.StaysIn g) {dp un : Nat} {fr : Option (List Env)} {gd : Option (List Code)} (hdp : dp + 3 < 900) (hun : un + 30 < 9000)
    {L : Addr} {m : Str → Option Value} {s : Shared} {ls : Addr} {o : Obj} {rest : List (Addr × Obj)} (F : Fr g L s.heap m) (N : News g L s.heap ((ls, o) :: rest)) (S : SrcSt o) (hoff : ∀ p ∈ rest, p.1 ≠ ls) {top : Int} {tt : Tok} (ht : 1 ≤ top) (ht2 : top ≤ 100) {Q E : Value → Shared → Prop}
    (hret : ∀ r t o' h' tk', Fr g L h' m → News g L h' ((ls, o') :: rest) → SrcSt o' → 0 ≤ r → r < top → Q (.int r t) { s with heap := h', toks := tk' }) :
    wpAny (model PySem.Challenge.rw_nu0043_01.row.prog w) (AA dp fr gd un) (call (.ref 147) [.ref ls, .int top tt]) Q E s := by
  obtain ⟨X, T⟩ := RT
  obtain ⟨x, y, tx, ty, n, rfl, hx, hy, hy2⟩ := S
  walk_at "m_enterG"
  intro L' h1 tk1 oL fr1 gd1 F1 N1 hoL hne
  have X1 := X.keeps hH
  have T1 := T.keeps hH
  have ap := Ap.of hoff
  simp only [List.forall_mem_cons] at hne
  obtain ⟨hn1, hn2⟩ := hne
  replace hn1 : @Ne Nat ls L := hn1
  k_steps
  · rename Fr _ _ _ _ => FF
    rename News _ _ _ _ => NN
    rename (0 < _) => hpos
    obtain ⟨F2, N2⟩ := backG F hoL FF NN (List.forall_mem_cons.mpr ⟨hn1, hn2⟩)
    show Q _ _
    exact hret _ _ _ _ _ F2 N2 ⟨_, _, _, _, _, rfl, Int.fdiv_nonneg hx (by omega), hy, hy2⟩ (Int.fmod_nonneg_of_pos _ (by omega)) (Int.fmod_lt_of_pos _ (by omega))
  · rename Fr _ _ _ _ => FF
    rename News _ _ _ _ => NN
    obtain ⟨F2, N2⟩ := backG F hoL FF NN (List.forall_mem_cons.mpr ⟨hn1, hn2⟩)
    show Q _ _
    exact hret _ _ _ _ _ F2 N2 ⟨_, _, _, _, _, rfl, hx, Int.fmod_nonneg_of_pos _ (by decide), Int.fmod_lt_of_pos _ (by decide)⟩ (Int.fmod_nonneg_of_pos _ (by omega)) (Int.fmod_lt_of_pos _ (by omega))
theorem words_one : True := by
  w_top off
  k_with_none
  k_with "m_enter" => (
      refine wpAny_call ?_;
      k_dflt (refine' enterP0 ?q0k4 ?q0k5 ?q0kH ?q0k6 ?q0k7 ?q0k8 ?q0k9 ?q0kB ?_ ?q0c2 ?q0c3 ?q0c4 ?q0c5; (case q0kH => assumption); (case q0k4 => k_asm); (case q0k5 => k_asm); (case q0k6 => k_is); (case q0k7 => k_is); (case q0k8 => (simp only [recursionLimit]; omega)); (case q0k9 => exact BindsTo.of_eq rfl); (case q0c5 => decide); (case q0kB => exact locs rfl); (case q0c2 => exact rfl); (case q0c3 => exact rfl); (case q0c4 => exact rfl); k_whole);
      rename Frag.In _ _ => xX; rename Top _ _ _ _ _ _ => xT; clear xX xT;
      intro L' h' tk' F' N' X' T'; (try dsimp only); (try k_fold))
  k_with "m_enter0" => (
      refine wpAny_call ?_;
      k_dflt (refine' enterP0 ?q1k4 ?q1k5 ?q1kH ?q1k6 ?q1k7 ?q1k8 ?q1k9 ?q1kB ?_ ?q1c2 ?q1c3 ?q1c4 ?q1c5; (case q1kH => assumption); (case q1k4 => k_asm); (case q1k5 => k_asm); (case q1k6 => k_is); (case q1k7 => k_is); (case q1k8 => (simp only [recursionLimit]; omega)); (case q1k9 => exact BindsTo.of_eq rfl); (case q1c5 => decide); (case q1kB => exact locs rfl); (case q1c2 => exact rfl); (case q1c3 => exact rfl); (case q1c4 => exact rfl); k_whole);
      rename Frag.In _ _ => xX; rename Top _ _ _ _ _ _ => xT; clear xX xT)
  k_with "m_enterC" => (
      refine wpAny_call ?_;
      k_dflt (refine' enterC0 ?q2k4 ?q2k5 ?q2kH ?q2k6 ?q2k7 ?q2k8 ?q2k9 ?q2kB ?q2kD ?_ ?q2c2 ?q2c3 ?q2c4; (case q2kH => assumption); (case q2k4 => k_asm); (case q2k5 => k_asm); (case q2k6 => k_is); (case q2k7 => k_is); (case q2k8 => (simp only [recursionLimit]; omega)); (case q2k9 => exact BindsTo.of_eq rfl); (case q2kB => exact rfl); (case q2kD => decide +kernel); (case q2c2 => exact rfl); (case q2c3 => exact rfl); (case q2c4 => exact rfl); k_whole);
      rename Frag.In _ _ => xX; rename Top _ _ _ _ _ _ => xT; clear xX xT;
      intro L' h' tk' cells' F' N' Y' X' T'; k_cells Y'; (try simp only [List.cons_append, List.nil_append] at N'); (try dsimp only); (try k_fold))
  k_with "m_enterC0" => (
      refine wpAny_call ?_;
      k_dflt (refine' enterC0 ?q3k4 ?q3k5 ?q3kH ?q3k6 ?q3k7 ?q3k8 ?q3k9 ?q3kB ?q3kD ?_ ?q3c2 ?q3c3 ?q3c4; (case q3kH => assumption); (case q3k4 => k_asm); (case q3k5 => k_asm); (case q3k6 => k_is); (case q3k7 => k_is); (case q3k8 => (simp only [recursionLimit]; omega)); (case q3k9 => exact BindsTo.of_eq rfl); (case q3kB => exact rfl); (case q3kD => decide +kernel); (case q3c2 => exact rfl); (case q3c3 => exact rfl); (case q3c4 => exact rfl); k_whole);
      rename Frag.In _ _ => xX; rename Top _ _ _ _ _ _ => xT; clear xX xT)
  k_with "call ref" => k_dflt (k_extra "m_call")
  k_with "exec Assign cons ListComp" => (k_dflt (refine' comp_assign ?q5kF (emitOne _) ?q5k0 ?q5k1 ?q5k2 ?q5k3 ?q5k4 ?q5k5 ?q5k6 ?q5k7 ?q5k8 ?_; (case q5kF => k_asm); (case q5k0 => exact rfl); (case q5k1 => (intros; rfl)); (case q5k2 => exact rfl); (case q5k3 => with_unfolding_all rfl); (case q5k4 => decide); (case q5k5 => exact rfl); (case q5k6 => decide); (case q5k7 => exact rfl); (case q5k8 => exact rfl); k_whole))
  k_with "eval ListComp" => (k_dflt (refine' comp_eval ?q6kF (emitOne _) ?q6k1 ?q6k3 ?q6k4 ?q6k5 ?q6k6 ?_; (case q6kF => k_asm); (case q6k1 => (intros; rfl)); (case q6k3 => with_unfolding_all rfl); (case q6k4 => decide); (case q6k5 => exact rfl); (case q6k6 => decide); k_whole))
  k_with "exec For Name Subscript cons nil" => (k_dflt (refine' for_rule ?q7kF ?_; (case q7kF => k_asm); k_whole))
  k_with "exec For Name Name cons nil" => (k_dflt (refine' for_rule ?q8kF ?_; (case q8kF => k_asm); k_whole))
  k_with "exec For Name IfExp cons nil" => (k_dflt (refine' for_rule ?q9kF ?_; (case q9kF => k_asm); k_whole))
  k_with "exec For Name Call cons nil" => (k_dflt (refine' for_rule ?q10kF ?_; (case q10kF => k_asm); k_whole))
  k_with "exec For Name ListComp cons nil" => (k_dflt (refine' for_rule ?q11kF ?_; (case q11kF => k_asm); k_whole))
  k_with "exec For Tuple Name cons nil" => (k_dflt (refine' for_rule ?q12kF ?_; (case q12kF => k_asm); k_whole))
  k_with "FSrc" => k_dflt (k_extra "m_fsrc")
  k_with "FRest" => k_dflt (k_extra "m_frest")
  k_with "FEnd" => k_dflt (k_extra "m_fend")
  k_with "CSrc" => k_dflt (k_extra "m_src")
  k_with "CRest" => k_dflt (k_extra "m_rest")
  k_with "CEnd" => k_dflt (k_extra "m_cend")
  k_with "FinA" => (unfold FinA; intro h9 tk9 F9 N9 ne9; (try rw [lst_eq] at N9))
  k_with "FinE" => (unfold FinE; intro h9 tk9 F9 N9 ne9; (try rw [lst_eq] at N9))
  k_with "execs cons Assign cons" => refine wpAny_execs_cons ?_
  k_with "execs cons Assign nil" => refine wpAny_execs_cons ?_
  k_with "execs cons If cons" => refine wpAny_execs_cons ?_
  k_with "execs cons If nil" => refine wpAny_execs_cons ?_
  k_with "execs cons For cons" => refine wpAny_execs_cons ?_
  k_with "execs cons For nil" => refine wpAny_execs_cons ?_
  k_with "execs cons Return cons" => refine wpAny_execs_cons ?_
  k_with "execs cons Return nil" => refine wpAny_execs_cons ?_
  k_with "execs cons Expr cons" => refine wpAny_execs_cons ?_
  k_with "execs cons Expr nil" => refine wpAny_execs_cons ?_
  k_with "ite" => first | (rw [if_neg (by decide +kernel)]) | (rw [if_pos (by decide +kernel)])
  k_with "subscriptTail Name Constant ref int" => (k_dflt (refine' item_tupleT ?q32k1 ?q32k2 ?q32k3 ?q32k4 ?q32k5 ?_; (case q32k1 => exact Fr.tup (by k_asm) (by assumption)); (case q32k2 => decide); (case q32k3 => decide); (case q32k4 => rfl); (case q32k5 => rfl); k_whole))
  k_with "eval Name" => (k_dflt (refine' nameX_L ?q33k1 ?q33k2 ?_; (case q33k1 => k_asm); (case q33k2 => first | exact rfl | assumption); k_whole))
  k_with "binaryOp Add ref ref" => (k_dflt (refine' my_add ?q34F ?q34N ?q34a ?q34b ?q34z ?_; (case q34F => k_asm); (case q34N => k_asm); (case q34a => k_mem); (case q34b => k_mem); (case q34z => (rw [sizeLine_eq]; (try simp only [List.length_append, List.length_nil, List.length_cons]); omega)); k_whole; intro r9 h9 F9 N9 l9; (try k_lt l9)))
  k_with "subscriptTail Subscript" => (k_dflt (refine kba_turn (value' := PySem.Expr.Name (PySem.Str.ofString "_") ⟨0, 0, 0, 0⟩) (fun _ => rfl) ?_))
  k_with "subscriptTail Name Slice ref ref" => (k_dflt (refine' slice_tuple ?q36F ?q36N ?q36t ?q36pa ?q36pb ?q36pc ?q36h0 ?q36hno ?q36hz ?q36hsz ?_ ?q36hs ?q36hg; (case q36F => k_asm); (case q36N => k_asm); (case q36t => exact Fr.tup (by k_asm) (by assumption)); (case q36pa => first | exact IsPart.none | exact IsPart.int _ _); (case q36pb => first | exact IsPart.none | exact IsPart.int _ _); (case q36pc => first | exact IsPart.none | exact IsPart.int _ _); (case q36h0 => rfl); (case q36hno => rfl); (case q36hz => with_unfolding_all first | exact (rfl : _ = []) | exact (rfl : _ = [_]) | exact (rfl : _ = [_, _]) | exact (rfl : _ = [_, _, _])); (case q36hsz => (rw [sizeLine_eq]; exact Nat.le_of_ble_eq_true rfl)); (case q36hs => with_unfolding_all rfl); (case q36hg => (intro _; with_unfolding_all rfl)); k_whole; intro r9 h9 F9 N9 l9; (try k_lt l9)))
  k_with "m_sub" => (intro q9 h9; simp only [List.mem_cons, List.mem_append, h9, true_or, or_true])
  k_with "m_rdsub" => (intro b o h; first | exact h | exact Or.inl h | (refine Or.elim h Or.inl (fun h => Or.inr ?_); simp only [List.mem_cons, List.mem_append, h, true_or, or_true]))
  k_with "m_rd" => first
      | exact Rd.int _ _ | exact Rd.str _ _ | exact Rd.bool _ | assumption
      | (refine' Rd.mono ?q39hs ?q39hv; (case q39hv => assumption); (case q39hs => walk_at "m_rdsub"))
      | (refine Rd.tuple (Or.inr (by k_mem)) ?_; walk_at "m_rds")
  k_with "m_rds" => first
      | exact RdAll.nil
      | ((refine RdAll.cons ?_ ?_); (walk_at "m_rd"); (walk_at "m_rds"))
  k_with "call builtin:len" => (k_dflt (refine' len_tupK ?q41k1 ?q41k2 ?q41k3 ?_; (case q41k1 => exact Fr.tup (by k_asm) (by assumption)); (case q41k2 => assumption); (case q41k3 => omega); k_whole))
  k_with "call type:range" => (k_dflt (first | (refine' range1_rows ?q42k1 ?q42k2 ?_; (case q42k1 => k_asm); (case q42k2 => k_asm); k_whole; intro h9 tk9 t9 u9 v9 hr9 F9 N9 hk9) | (refine' range2_rows ?q42k1 ?q42k2 ?_; (case q42k1 => k_asm); (case q42k2 => k_asm); k_whole; intro h9 tk9 t9 u9 v9 hr9 F9 N9 hk9)))
  k_with "subscriptTail Name Name ref int" => (k_dflt (refine' item_sym ?q43k1 ?q43k2 ?q43k3 ?q43k4 ?_; (case q43k1 => exact Fr.tup (by k_asm) (by assumption)); (case q43k4 => assumption); (case q43k2 => omega); (case q43k3 => omega); k_whole))
  k_with "compareOp Eq ref ref" => (k_dflt (refine' list_eq_nil ?y1N ?y1a ?y1b ?y1u ?_; (case y1N => k_asm); (case y1a => k_mem); (case y1b => k_mem); (case y1u => (show _ < 9900; (try dsimp only); omega)); k_whole))
  k_with "m_enterD" => (
      k_dflt (refine' enterC1 ?z3k4 ?z3k5 ?z3kH ?z3k6 ?z3k7 ?z3k8 ?z3k9 ?z3kB ?z3kD ?_ ?z3c2 ?z3c3 ?z3c4; (case z3kH => assumption); (case z3k4 => k_asm); (case z3k5 => k_asm); (case z3k6 => k_is); (case z3k7 => k_is); (case z3k8 => (simp only [recursionLimit]; omega)); (case z3k9 => exact BindsTo.of_eq rfl); (case z3kB => exact rfl); (case z3kD => decide +kernel); (case z3c2 => exact rfl); (case z3c3 => exact rfl); (case z3c4 => exact rfl); k_whole);
      rename Frag.In _ _ => xX; rename Top _ _ _ _ _ _ => xT; clear xX xT)
  k_with "m_enterB" => (
      k_dflt (refine' enterP1 ?z4k4 ?z4k5 ?z4kH ?z4k6 ?z4k7 ?z4k8 ?z4k9 ?z4kB ?_ ?z4c2 ?z4c3 ?z4c4 ?z4c5; (case z4kH => assumption); (case z4k4 => k_asm); (case z4k5 => k_asm); (case z4k6 => k_is); (case z4k7 => k_is); (case z4k8 => (simp only [recursionLimit]; omega)); (case z4k9 => exact BindsTo.of_eq rfl); (case z4c5 => decide); (case z4kB => exact locs rfl); (case z4c2 => exact rfl); (case z4c3 => exact rfl); (case z4c4 => exact rfl); k_whole);
      rename Frag.In _ _ => xX; rename Top _ _ _ _ _ _ => xT; clear xX xT)
  k_with "m_enterG" => (
      k_dflt (refine' enterG ?z5k4 ?z5k5 ?z5kH ?z5F ?z5N ?z5k6 ?z5k7 ?z5k8 ?z5k9 ?z5kB ?_ ?z5c2 ?z5c3 ?z5c4 ?z5c5; (case z5kH => assumption); (case z5F => assumption); (case z5N => assumption); (case z5k4 => k_asm); (case z5k5 => k_asm); (case z5k6 => k_is); (case z5k7 => k_is); (case z5k8 => (simp only [recursionLimit]; omega)); (case z5k9 => exact BindsTo.of_eq rfl); (case z5c5 => decide); (case z5kB => exact locs rfl); (case z5c2 => exact rfl); (case z5c3 => exact rfl); (case z5c4 => exact rfl); k_whole))
  k_with "m_enterGC" => (
      k_dflt (refine' enterGC ?z6k4 ?z6k5 ?z6kH ?z6F ?z6N ?z6k6 ?z6k7 ?z6k8 ?z6k9 ?z6kB ?z6kD ?_ ?z6c2 ?z6c3 ?z6c4; (case z6kH => assumption); (case z6F => assumption); (case z6N => assumption); (case z6k4 => k_asm); (case z6k5 => k_asm); (case z6k6 => k_is); (case z6k7 => k_is); (case z6k8 => (simp only [recursionLimit]; omega)); (case z6k9 => exact BindsTo.of_eq rfl); (case z6kB => exact rfl); (case z6kD => decide +kernel); (case z6c2 => exact rfl); (case z6c3 => exact rfl); (case z6c4 => exact rfl); k_whole))
  k_with "m_enterE" => (
      k_dflt (refine' enterE ?z8k4 ?z8k5 ?z8kH ?z8F ?z8N ?z8k6 ?z8k7 ?z8k8 ?z8k9 ?z8kB ?_ ?z8c2 ?z8c3 ?z8c4 ?z8c5; (case z8kH => assumption); (case z8F => assumption); (case z8N => assumption); (case z8k4 => k_asm); (case z8k5 => k_asm); (case z8k6 => k_is); (case z8k7 => k_is); (case z8k8 => (simp only [recursionLimit]; omega)); (case z8k9 => exact BindsTo.of_eq rfl); (case z8c5 => decide); (case z8kB => exact locs rfl); (case z8c2 => exact rfl); (case z8c3 => exact rfl); (case z8c4 => exact rfl); k_whole))
  k_with "m_enterEC" => (
      k_dflt (refine' enterEC ?z9k4 ?z9k5 ?z9kH ?z9F ?z9N ?z9k6 ?z9k7 ?z9k8 ?z9k9 ?z9kB ?z9kD ?_ ?z9c2 ?z9c3 ?z9c4; (case z9kH => assumption); (case z9F => assumption); (case z9N => assumption); (case z9k4 => k_asm); (case z9k5 => k_asm); (case z9k6 => k_is); (case z9k7 => k_is); (case z9k8 => (simp only [recursionLimit]; omega)); (case z9k9 => exact BindsTo.of_eq rfl); (case z9kB => exact rfl); (case z9kD => decide +kernel); (case z9c2 => exact rfl); (case z9c3 => exact rfl); (case z9c4 => exact rfl); k_whole))
  k_with "m_in" => first
    | with_reducible apply in_hd
    | (with_reducible apply in_l; walk_at "m_in")
    | (with_reducible apply in_r; walk_at "m_in")
    | (with_reducible apply in_tl; walk_at "m_in")
    | apply in_hd
    | assumption
  k_with "m_sub3" => first
    | with_reducible apply sub_id
    | (with_reducible apply sub_l; walk_at "m_sub3")
    | (with_reducible apply sub_r; walk_at "m_sub3")
    | (with_reducible apply sub_tl; walk_at "m_sub3")
  k_with "m_perm2" => ((repeat' (first | with_reducible apply sub_nil | with_reducible apply sub_app | with_reducible apply sub_cons)); all_goals (first | walk_at "m_in" | walk_at "m_sub3"))
  k_with "m_perm" => (intro p hp; simp only [List.cons_append, List.nil_append, List.append_assoc, List.append_nil, List.mem_cons, List.mem_append, List.not_mem_nil, or_false, or_assoc] at hp ⊢; (repeat' (first | (cases hp with | inl hp => ?_ | inr hp => ?_) | fail)); all_goals (repeat (first | apply hp | apply Or.inl hp | apply Or.inr)))
  k_with "m_notin" => first | exact notIn_of2 (by assumption) | (refine notIn_of ?_ ?_ ?_ ?_ ?_ <;> first | omega | assumption)
  k_with "m_off" => (refine Ap.all ?_; simp only [Ap, and_true]; omega)
  k_with "m_front" => first
    | assumption
    | exact rot2 (by assumption)
    | exact rot3 (by assumption)
    | exact rot4 (by assumption)
    | exact rot5 (by assumption)
    | exact rot6 (by assumption)
    | exact rot7 (by assumption)
    | exact rot8 (by assumption)
    | exact rot9 (by assumption)
  k_with "call builtin:list.append" => (k_dflt (refine' append_L ?zaF ?zaN ?zao ?zaz ?_; (case zaF => k_asm); (case zaN => walk_at "m_front"); (case zao => first | k_all | walk_at "m_off"); (case zaz => omega); k_whole; intro h9 F9 N9))
  k_with "compareOp NotIn int ref" => (k_dflt (refine' notin_L ?zbN ?zbm ?zbI ?_; (case zbN => k_asm); (case zbm => k_mem); (case zbI => assumption); k_whole))
  k_with "call builtin:len" => (k_dflt (refine' len_listK ?z7N ?z7l ?z7z ?_; (case z7N => k_asm); (case z7l => k_mem); (case z7z => omega); k_whole))
  trivial
theorem one_ok {w : World} {mean : ExcName → Option Value} {mg mb : Str → Option Value} {H g : Heap} (RT : Root w mean mg mb H) (hH : H.StaysIn g) {dp un : Nat} {fr : Option (List Env)} {gd : Option (List Code)} (hdp : dp + 4 < 900) (hun : un + 40 < 9000)
    {L : Addr} {m : Str → Option Value} {s : Shared} {ls : Addr} {o : Obj} {rest : List (Addr × Obj)} (F : Fr g L s.heap m) (N : News g L s.heap ((ls, o) :: rest)) (S : SrcSt o) (hoff : ∀ p ∈ rest, p.1 ≠ ls)
    {lt : Addr} {vs : List Value} {n : Nat} (hlt : (lt, lstO vs n) ∈ rest) (hv1 : 1 ≤ vs.length) (hv2 : vs.length ≤ 100) {Q E : Value → Shared → Prop}
    (hret : ∀ v o' h' tk', v ∈ vs → Fr g L h' m → News g L h' ((ls, o') :: rest) → SrcSt o' → Q v { s with heap := h', toks := tk' }) :
    wpAny (model PySem.Challenge.rw_nu0043_01.row.prog w) (AA dp fr gd un) (call (.ref 154) [.ref ls, .ref lt]) Q E s := by
  have RT0 := RT
  obtain ⟨X, T⟩ := RT
  walk_at "m_enterG"
  intro L' h1 tk1 oL fr1 gd1 F1 N1 hoL hne
  have X1 := X.keeps hH
  have T1 := T.keeps hH
  have ap := Ap.of hoff
  simp only [List.forall_mem_cons] at hne
  obtain ⟨hn1, hn2⟩ := hne
  replace hn1 : @Ne Nat ls L := hn1
  k_with "m_call" => (refine' take_ok RT0 hH ?tdp ?tun (rest := (L, oL) :: rest) ?tF ?tN S ?toff ?tt ?tt2 ?_; (case tdp => omega); (case tun => omega); (case tF => k_asm); (case tN => exact swapN N1); (case toff => exact List.forall_mem_cons.mpr ⟨Ne.symm hn1, hoff⟩); (case tt => omega); (case tt2 => omega); intro r9 t9 o9 h9 tk9 F9 N9 S9 hr0 hr1)
  k_with "subscriptTail Name Call ref int" => (apply of_hold)
  k_steps
  unfold Hold
  obtain ⟨v, hv⟩ : ∃ v, vs[r9.toNat]? = some v := ⟨_, List.getElem?_eq_getElem (by omega)⟩
  refine' item_symL N9 ?m1 hr0 (by omega) hv ?_ ?m2
  case m1 => exact .tail _ (.tail _ hlt)
  case m2 => with_unfolding_all rfl
  show Q _ _
  obtain ⟨F2, N2⟩ := backG (nw := (ls, o9) :: rest) F hoL F9 (swapN N9) (List.forall_mem_cons.mpr ⟨hn1, hn2⟩)
  exact hret _ _ _ _ (List.mem_of_getElem? hv) F2 N2 S9
theorem words_particle : True := by
  w_top off
  k_with_none
  k_with "m_enter" => (
      refine wpAny_call ?_;
      k_dflt (refine' enterP0 ?q0k4 ?q0k5 ?q0kH ?q0k6 ?q0k7 ?q0k8 ?q0k9 ?q0kB ?_ ?q0c2 ?q0c3 ?q0c4 ?q0c5; (case q0kH => assumption); (case q0k4 => k_asm); (case q0k5 => k_asm); (case q0k6 => k_is); (case q0k7 => k_is); (case q0k8 => (simp only [recursionLimit]; omega)); (case q0k9 => exact BindsTo.of_eq rfl); (case q0c5 => decide); (case q0kB => exact locs rfl); (case q0c2 => exact rfl); (case q0c3 => exact rfl); (case q0c4 => exact rfl); k_whole);
      rename Frag.In _ _ => xX; rename Top _ _ _ _ _ _ => xT; clear xX xT;
      intro L' h' tk' F' N' X' T'; (try dsimp only); (try k_fold))
  k_with "m_enter0" => (
      refine wpAny_call ?_;
      k_dflt (refine' enterP0 ?q1k4 ?q1k5 ?q1kH ?q1k6 ?q1k7 ?q1k8 ?q1k9 ?q1kB ?_ ?q1c2 ?q1c3 ?q1c4 ?q1c5; (case q1kH => assumption); (case q1k4 => k_asm); (case q1k5 => k_asm); (case q1k6 => k_is); (case q1k7 => k_is); (case q1k8 => (simp only [recursionLimit]; omega)); (case q1k9 => exact BindsTo.of_eq rfl); (case q1c5 => decide); (case q1kB => exact locs rfl); (case q1c2 => exact rfl); (case q1c3 => exact rfl); (case q1c4 => exact rfl); k_whole);
      rename Frag.In _ _ => xX; rename Top _ _ _ _ _ _ => xT; clear xX xT)
  k_with "m_enterC" => (
      refine wpAny_call ?_;
      k_dflt (refine' enterC0 ?q2k4 ?q2k5 ?q2kH ?q2k6 ?q2k7 ?q2k8 ?q2k9 ?q2kB ?q2kD ?_ ?q2c2 ?q2c3 ?q2c4; (case q2kH => assumption); (case q2k4 => k_asm); (case q2k5 => k_asm); (case q2k6 => k_is); (case q2k7 => k_is); (case q2k8 => (simp only [recursionLimit]; omega)); (case q2k9 => exact BindsTo.of_eq rfl); (case q2kB => exact rfl); (case q2kD => decide +kernel); (case q2c2 => exact rfl); (case q2c3 => exact rfl); (case q2c4 => exact rfl); k_whole);
      rename Frag.In _ _ => xX; rename Top _ _ _ _ _ _ => xT; clear xX xT;
      intro L' h' tk' cells' F' N' Y' X' T'; k_cells Y'; (try simp only [List.cons_append, List.nil_append] at N'); (try dsimp only); (try k_fold))
  k_with "m_enterC0" => (
      refine wpAny_call ?_;
      k_dflt (refine' enterC0 ?q3k4 ?q3k5 ?q3kH ?q3k6 ?q3k7 ?q3k8 ?q3k9 ?q3kB ?q3kD ?_ ?q3c2 ?q3c3 ?q3c4; (case q3kH => assumption); (case q3k4 => k_asm); (case q3k5 => k_asm); (case q3k6 => k_is); (case q3k7 => k_is); (case q3k8 => (simp only [recursionLimit]; omega)); (case q3k9 => exact BindsTo.of_eq rfl); (case q3kB => exact rfl); (case q3kD => decide +kernel); (case q3c2 => exact rfl); (case q3c3 => exact rfl); (case q3c4 => exact rfl); k_whole);
      rename Frag.In _ _ => xX; rename Top _ _ _ _ _ _ => xT; clear xX xT)
  k_with "call ref" => k_dflt (k_extra "m_call")
  k_with "exec Assign cons ListComp" => (k_dflt (refine' comp_assign ?q5kF (emitOne _) ?q5k0 ?q5k1 ?q5k2 ?q5k3 ?q5k4 ?q5k5 ?q5k6 ?q5k7 ?q5k8 ?_; (case q5kF => k_asm); (case q5k0 => exact rfl); (case q5k1 => (intros; rfl)); (case q5k2 => exact rfl); (case q5k3 => with_unfolding_all rfl); (case q5k4 => decide); (case q5k5 => exact rfl); (case q5k6 => decide); (case q5k7 => exact rfl); (case q5k8 => exact rfl); k_whole))
  k_with "eval ListComp" => (k_dflt (refine' comp_eval ?q6kF (emitOne _) ?q6k1 ?q6k3 ?q6k4 ?q6k5 ?q6k6 ?_; (case q6kF => k_asm); (case q6k1 => (intros; rfl)); (case q6k3 => with_unfolding_all rfl); (case q6k4 => decide); (case q6k5 => exact rfl); (case q6k6 => decide); k_whole))
  k_with "exec For Name Subscript cons nil" => (k_dflt (refine' for_rule ?q7kF ?_; (case q7kF => k_asm); k_whole))
  k_with "exec For Name Name cons nil" => (k_dflt (refine' for_rule ?q8kF ?_; (case q8kF => k_asm); k_whole))
  k_with "exec For Name IfExp cons nil" => (k_dflt (refine' for_rule ?q9kF ?_; (case q9kF => k_asm); k_whole))
  k_with "exec For Name Call cons nil" => (k_dflt (refine' for_rule ?q10kF ?_; (case q10kF => k_asm); k_whole))
  k_with "exec For Name ListComp cons nil" => (k_dflt (refine' for_rule ?q11kF ?_; (case q11kF => k_asm); k_whole))
  k_with "exec For Tuple Name cons nil" => (k_dflt (refine' for_rule ?q12kF ?_; (case q12kF => k_asm); k_whole))
  k_with "FSrc" => k_dflt (k_extra "m_fsrc")
  k_with "FRest" => k_dflt (k_extra "m_frest")
  k_with "FEnd" => k_dflt (k_extra "m_fend")
  k_with "CSrc" => k_dflt (k_extra "m_src")
  k_with "CRest" => k_dflt (k_extra "m_rest")
  k_with "CEnd" => k_dflt (k_extra "m_cend")
  k_with "FinA" => (unfold FinA; intro h9 tk9 F9 N9 ne9; (try rw [lst_eq] at N9))
  k_with "FinE" => (unfold FinE; intro h9 tk9 F9 N9 ne9; (try rw [lst_eq] at N9))
  k_with "execs cons Assign cons" => refine wpAny_execs_cons ?_
  k_with "execs cons Assign nil" => refine wpAny_execs_cons ?_
  k_with "execs cons If cons" => refine wpAny_execs_cons ?_
  k_with "execs cons If nil" => refine wpAny_execs_cons ?_
  k_with "execs cons For cons" => refine wpAny_execs_cons ?_
  k_with "execs cons For nil" => refine wpAny_execs_cons ?_
  k_with "execs cons Return cons" => refine wpAny_execs_cons ?_
  k_with "execs cons Return nil" => refine wpAny_execs_cons ?_
  k_with "execs cons Expr cons" => refine wpAny_execs_cons ?_
  k_with "execs cons Expr nil" => refine wpAny_execs_cons ?_
  k_with "ite" => first | (rw [if_neg (by decide +kernel)]) | (rw [if_pos (by decide +kernel)])
  k_with "subscriptTail Name Constant ref int" => (k_dflt (refine' item_tupleT ?q32k1 ?q32k2 ?q32k3 ?q32k4 ?q32k5 ?_; (case q32k1 => exact Fr.tup (by k_asm) (by assumption)); (case q32k2 => decide); (case q32k3 => decide); (case q32k4 => rfl); (case q32k5 => rfl); k_whole))
  k_with "eval Name" => (k_dflt (refine' nameX_L ?q33k1 ?q33k2 ?_; (case q33k1 => k_asm); (case q33k2 => first | exact rfl | assumption); k_whole))
  k_with "binaryOp Add ref ref" => (k_dflt (refine' my_add ?q34F ?q34N ?q34a ?q34b ?q34z ?_; (case q34F => k_asm); (case q34N => k_asm); (case q34a => k_mem); (case q34b => k_mem); (case q34z => (rw [sizeLine_eq]; (try simp only [List.length_append, List.length_nil, List.length_cons]); omega)); k_whole; intro r9 h9 F9 N9 l9; (try k_lt l9)))
  k_with "subscriptTail Subscript" => (k_dflt (refine kba_turn (value' := PySem.Expr.Name (PySem.Str.ofString "_") ⟨0, 0, 0, 0⟩) (fun _ => rfl) ?_))
  k_with "subscriptTail Name Slice ref ref" => (k_dflt (refine' slice_tuple ?q36F ?q36N ?q36t ?q36pa ?q36pb ?q36pc ?q36h0 ?q36hno ?q36hz ?q36hsz ?_ ?q36hs ?q36hg; (case q36F => k_asm); (case q36N => k_asm); (case q36t => exact Fr.tup (by k_asm) (by assumption)); (case q36pa => first | exact IsPart.none | exact IsPart.int _ _); (case q36pb => first | exact IsPart.none | exact IsPart.int _ _); (case q36pc => first | exact IsPart.none | exact IsPart.int _ _); (case q36h0 => rfl); (case q36hno => rfl); (case q36hz => with_unfolding_all first | exact (rfl : _ = []) | exact (rfl : _ = [_]) | exact (rfl : _ = [_, _]) | exact (rfl : _ = [_, _, _])); (case q36hsz => (rw [sizeLine_eq]; exact Nat.le_of_ble_eq_true rfl)); (case q36hs => with_unfolding_all rfl); (case q36hg => (intro _; with_unfolding_all rfl)); k_whole; intro r9 h9 F9 N9 l9; (try k_lt l9)))
  k_with "m_sub" => (intro q9 h9; simp only [List.mem_cons, List.mem_append, h9, true_or, or_true])
  k_with "m_rdsub" => (intro b o h; first | exact h | exact Or.inl h | (refine Or.elim h Or.inl (fun h => Or.inr ?_); simp only [List.mem_cons, List.mem_append, h, true_or, or_true]))
  k_with "m_rd" => first
      | exact Rd.int _ _ | exact Rd.str _ _ | exact Rd.bool _ | assumption
      | (refine' Rd.mono ?q39hs ?q39hv; (case q39hv => assumption); (case q39hs => walk_at "m_rdsub"))
      | (refine Rd.tuple (Or.inr (by k_mem)) ?_; walk_at "m_rds")
  k_with "m_rds" => first
      | exact RdAll.nil
      | ((refine RdAll.cons ?_ ?_); (walk_at "m_rd"); (walk_at "m_rds"))
  k_with "call builtin:len" => (k_dflt (refine' len_tupK ?q41k1 ?q41k2 ?q41k3 ?_; (case q41k1 => exact Fr.tup (by k_asm) (by assumption)); (case q41k2 => assumption); (case q41k3 => omega); k_whole))
  k_with "call type:range" => (k_dflt (first | (refine' range1_rows ?q42k1 ?q42k2 ?_; (case q42k1 => k_asm); (case q42k2 => k_asm); k_whole; intro h9 tk9 t9 u9 v9 hr9 F9 N9 hk9) | (refine' range2_rows ?q42k1 ?q42k2 ?_; (case q42k1 => k_asm); (case q42k2 => k_asm); k_whole; intro h9 tk9 t9 u9 v9 hr9 F9 N9 hk9)))
  k_with "subscriptTail Name Name ref int" => (k_dflt (refine' item_sym ?q43k1 ?q43k2 ?q43k3 ?q43k4 ?_; (case q43k1 => exact Fr.tup (by k_asm) (by assumption)); (case q43k4 => assumption); (case q43k2 => omega); (case q43k3 => omega); k_whole))
  k_with "compareOp Eq ref ref" => (k_dflt (refine' list_eq_nil ?y1N ?y1a ?y1b ?y1u ?_; (case y1N => k_asm); (case y1a => k_mem); (case y1b => k_mem); (case y1u => (show _ < 9900; (try dsimp only); omega)); k_whole))
  k_with "m_enterD" => (
      k_dflt (refine' enterC1 ?z3k4 ?z3k5 ?z3kH ?z3k6 ?z3k7 ?z3k8 ?z3k9 ?z3kB ?z3kD ?_ ?z3c2 ?z3c3 ?z3c4; (case z3kH => assumption); (case z3k4 => k_asm); (case z3k5 => k_asm); (case z3k6 => k_is); (case z3k7 => k_is); (case z3k8 => (simp only [recursionLimit]; omega)); (case z3k9 => exact BindsTo.of_eq rfl); (case z3kB => exact rfl); (case z3kD => decide +kernel); (case z3c2 => exact rfl); (case z3c3 => exact rfl); (case z3c4 => exact rfl); k_whole);
      rename Frag.In _ _ => xX; rename Top _ _ _ _ _ _ => xT; clear xX xT)
  k_with "m_enterB" => (
      k_dflt (refine' enterP1 ?z4k4 ?z4k5 ?z4kH ?z4k6 ?z4k7 ?z4k8 ?z4k9 ?z4kB ?_ ?z4c2 ?z4c3 ?z4c4 ?z4c5; (case z4kH => assumption); (case z4k4 => k_asm); (case z4k5 => k_asm); (case z4k6 => k_is); (case z4k7 => k_is); (case z4k8 => (simp only [recursionLimit]; omega)); (case z4k9 => exact BindsTo.of_eq rfl); (case z4c5 => decide); (case z4kB => exact locs rfl); (case z4c2 => exact rfl); (case z4c3 => exact rfl); (case z4c4 => exact rfl); k_whole);
      rename Frag.In _ _ => xX; rename Top _ _ _ _ _ _ => xT; clear xX xT)
  k_with "m_enterG" => (
      k_dflt (refine' enterG ?z5k4 ?z5k5 ?z5kH ?z5F ?z5N ?z5k6 ?z5k7 ?z5k8 ?z5k9 ?z5kB ?_ ?z5c2 ?z5c3 ?z5c4 ?z5c5; (case z5kH => assumption); (case z5F => assumption); (case z5N => assumption); (case z5k4 => k_asm); (case z5k5 => k_asm); (case z5k6 => k_is); (case z5k7 => k_is); (case z5k8 => (simp only [recursionLimit]; omega)); (case z5k9 => exact BindsTo.of_eq rfl); (case z5c5 => decide); (case z5kB => exact locs rfl); (case z5c2 => exact rfl); (case z5c3 => exact rfl); (case z5c4 => exact rfl); k_whole))
  k_with "m_enterGC" => (
      k_dflt (refine' enterGC ?z6k4 ?z6k5 ?z6kH ?z6F ?z6N ?z6k6 ?z6k7 ?z6k8 ?z6k9 ?z6kB ?z6kD ?_ ?z6c2 ?z6c3 ?z6c4; (case z6kH => assumption); (case z6F => assumption); (case z6N => assumption); (case z6k4 => k_asm); (case z6k5 => k_asm); (case z6k6 => k_is); (case z6k7 => k_is); (case z6k8 => (simp only [recursionLimit]; omega)); (case z6k9 => exact BindsTo.of_eq rfl); (case z6kB => exact rfl); (case z6kD => decide +kernel); (case z6c2 => exact rfl); (case z6c3 => exact rfl); (case z6c4 => exact rfl); k_whole))
  k_with "m_enterE" => (
      k_dflt (refine' enterE ?z8k4 ?z8k5 ?z8kH ?z8F ?z8N ?z8k6 ?z8k7 ?z8k8 ?z8k9 ?z8kB ?_ ?z8c2 ?z8c3 ?z8c4 ?z8c5; (case z8kH => assumption); (case z8F => assumption); (case z8N => assumption); (case z8k4 => k_asm); (case z8k5 => k_asm); (case z8k6 => k_is); (case z8k7 => k_is); (case z8k8 => (simp only [recursionLimit]; omega)); (case z8k9 => exact BindsTo.of_eq rfl); (case z8c5 => decide); (case z8kB => exact locs rfl); (case z8c2 => exact rfl); (case z8c3 => exact rfl); (case z8c4 => exact rfl); k_whole))
  k_with "m_enterEC" => (
      k_dflt (refine' enterEC ?z9k4 ?z9k5 ?z9kH ?z9F ?z9N ?z9k6 ?z9k7 ?z9k8 ?z9k9 ?z9kB ?z9kD ?_ ?z9c2 ?z9c3 ?z9c4; (case z9kH => assumption); (case z9F => assumption); (case z9N => assumption); (case z9k4 => k_asm); (case z9k5 => k_asm); (case z9k6 => k_is); (case z9k7 => k_is); (case z9k8 => (simp only [recursionLimit]; omega)); (case z9k9 => exact BindsTo.of_eq rfl); (case z9kB => exact rfl); (case z9kD => decide +kernel); (case z9c2 => exact rfl); (case z9c3 => exact rfl); (case z9c4 => exact rfl); k_whole))
  k_with "m_in" => first
    | with_reducible apply in_hd
    | (with_reducible apply in_l; walk_at "m_in")
    | (with_reducible apply in_r; walk_at "m_in")
    | (with_reducible apply in_tl; walk_at "m_in")
    | apply in_hd
    | assumption
  k_with "m_sub3" => first
    | with_reducible apply sub_id
    | (with_reducible apply sub_l; walk_at "m_sub3")
    | (with_reducible apply sub_r; walk_at "m_sub3")
    | (with_reducible apply sub_tl; walk_at "m_sub3")
  k_with "m_perm2" => ((repeat' (first | with_reducible apply sub_nil | with_reducible apply sub_app | with_reducible apply sub_cons)); all_goals (first | walk_at "m_in" | walk_at "m_sub3"))
  k_with "m_perm" => (intro p hp; simp only [List.cons_append, List.nil_append, List.append_assoc, List.append_nil, List.mem_cons, List.mem_append, List.not_mem_nil, or_false, or_assoc] at hp ⊢; (repeat' (first | (cases hp with | inl hp => ?_ | inr hp => ?_) | fail)); all_goals (repeat (first | apply hp | apply Or.inl hp | apply Or.inr)))
  k_with "m_notin" => first | exact notIn_of2 (by assumption) | (refine notIn_of ?_ ?_ ?_ ?_ ?_ <;> first | omega | assumption)
  k_with "m_off" => (refine Ap.all ?_; simp only [Ap, and_true]; omega)
  k_with "m_front" => first
    | assumption
    | exact rot2 (by assumption)
    | exact rot3 (by assumption)
    | exact rot4 (by assumption)
    | exact rot5 (by assumption)
    | exact rot6 (by assumption)
    | exact rot7 (by assumption)
    | exact rot8 (by assumption)
    | exact rot9 (by assumption)
  k_with "call builtin:list.append" => (k_dflt (refine' append_L ?zaF ?zaN ?zao ?zaz ?_; (case zaF => k_asm); (case zaN => walk_at "m_front"); (case zao => first | k_all | walk_at "m_off"); (case zaz => omega); k_whole; intro h9 F9 N9))
  k_with "compareOp NotIn int ref" => (k_dflt (refine' notin_L ?zbN ?zbm ?zbI ?_; (case zbN => k_asm); (case zbm => k_mem); (case zbI => assumption); k_whole))
  k_with "call builtin:len" => (k_dflt (refine' len_listK ?z7N ?z7l ?z7z ?_; (case z7N => k_asm); (case z7l => k_mem); (case z7z => omega); k_whole))
  trivial
theorem mark_of {v : Value} {t1 t2 t3 t4 t5 : Tok} (h : v ∈ [Value.str (Str.ofString "") t1, .str (Str.ofString "") t2, .str (Str.ofString "?") t3, .str (Str.ofString "*") t4, .str (Str.ofString "+") t5]) : ∃ (mk : Mk) (t : Tok), v = .str mk.str t := by
  simp only [List.mem_cons, List.not_mem_nil, or_false] at h
  rcases h with rfl | rfl | rfl | rfl | rfl
  · exact ⟨.no, _, rfl⟩
  · exact ⟨.no, _, rfl⟩
  · exact ⟨.opt, _, rfl⟩
  · exact ⟨.star, _, rfl⟩
  · exact ⟨.plus, _, rfl⟩
theorem name_of {v : Value} {t1 t2 t3 t4 : Tok} (h : v ∈ [Value.str (Str.ofString "a") t1, .str (Str.ofString "b") t2, .str (Str.ofString "a") t3, .str (Str.ofString "c") t4]) : ∃ (x : Nm) (t : Tok), v = .str x.str t := by
  simp only [List.mem_cons, List.not_mem_nil, or_false] at h
  rcases h with rfl | rfl | rfl | rfl
  · exact ⟨.a, _, rfl⟩
  · exact ⟨.b, _, rfl⟩
  · exact ⟨.a, _, rfl⟩
  · exact ⟨.c, _, rfl⟩
theorem kind_of {v : Value} {t1 t2 : Tok} (h : v ∈ [Value.str (Str.ofString "seq") t1, .str (Str.ofString "choice") t2]) : ∃ (sq : Bool) (t : Tok), v = .str (kindStr sq) t := by
  simp only [List.mem_cons, List.not_mem_nil, or_false] at h
  rcases h with rfl | rfl
  · exact ⟨true, _, rfl⟩
  · exact ⟨false, _, rfl⟩
theorem height_le {α : Type} {sq : Bool} {ps : List (Pt α)} {mk : Mk} {n : Nat} (h : ∀ q ∈ ps, q.height ≤ n) : (Pt.node sq ps mk).height ≤ n + 1 := by
  rw [Pt.height]
  have : (ps.map Pt.height).foldr max 0 ≤ n := by
    induction ps with
    | nil => exact Nat.zero_le _
    | cons p ps ih =>
      simp only [List.map_cons, List.foldr_cons]
      have := h p (by simp)
      have := ih fun q hq => h q (by simp [hq])
      omega
  omega
theorem len2 {α : Type} {l : List α} (h : l.length = 2) : ∃ a b, l = [a, b] := by
  match l, h with
  | [a, b], _ => exact ⟨_, _, rfl⟩
theorem len3 {α : Type} {l : List α} (h : l.length = 3) : ∃ a b c, l = [a, b, c] := by
  match l, h with
  | [a, b, c], _ => exact ⟨_, _, _, rfl⟩
noncomputable def PartC (w : World) (H : Heap) (n : Nat) : Prop := ∀ (dp un : Nat) (fr : Option (List Env)) (gd : Option (List Code)) (h₀ : Heap) (L : Addr) (m : Str → Option Value) (s : Shared) (ls : Addr) (o : Obj) (news : List (Addr × Obj)) (k : Int) (tn : Tok) (Q E : Value → Shared → Prop),
    dp + 10 + 5 * n < 900 → un + 100 + 50 * n < 9000 → H.StaysIn h₀ → Fr h₀ L s.heap m → News h₀ L s.heap ((ls, o) :: news) → SrcSt o → (∀ p ∈ news, p.1 ≠ ls) → k = (n : Int) →
    (∀ v (p : Pt Nm) tl o' h' tk', p.ok → p.height ≤ n + 1 → Rd (fun b o => (b, o) ∈ tl) v (p.data enc1) → Fr h₀ L h' m → News h₀ L h' ((ls, o') :: (news ++ tl)) → (∀ q ∈ (ls, o') :: news, ∀ p ∈ tl, p.1 ≠ q.1) → SrcSt o' → Q v { s with heap := h', toks := tk' }) →
    wpAny (model PySem.Challenge.rw_nu0043_01.row.prog w) (AA dp fr gd un) (call (.ref 159) [.ref ls, .int k tn]) Q E s
inductive PartJ (n : Nat) (ls : Addr) (rest0 : List (Addr × Obj)) : Nat → List Value → List (Addr × Obj) → Prop
  | mk {i : Nat} {ys : List Value} (o' : Obj) (tl : List (Addr × Obj)) (qs : List (Pt Nm)) : SrcSt o' → ys.length = i → qs.length = i → RdAll (fun b o => (b, o) ∈ tl) ys (qs.map (Pt.data enc1)) → (∀ q ∈ qs, q.ok ∧ q.height ≤ n + 1) → (∀ p ∈ tl, p.1 ≠ ls) → PartJ n ls rest0 i ys ((ls, o') :: (rest0 ++ tl))
theorem particle_step {w : World} {mean : ExcName → Option Value} {mg mb : Str → Option Value} {H : Heap} (RT : Root w mean mg mb H) (N : Nat) (hn : N ≤ 2) (IHs : ∀ n, N = n + 1 → PartC w H n) : PartC w H N := by
  intro dp un fr gd h₀ L m s ls o news k tn Q E hdp hun hH F NN0 S hoff hk hret
  have RT0 := RT
  obtain ⟨X, T⟩ := RT
  have N0 : News h₀ L s.heap [(ls, o)] := fun p hp => NN0 p (List.mem_cons.mpr (.inl (List.mem_singleton.mp hp)))
  walk_at "m_enterEC"
  intro L1 h1 tk1 cells1 g fr1 gd1 hg hHg F1 N1 hlt Y1 X1 T1
  clear X T
  replace hlt : @LT.lt Nat _ ls L1 := hlt _ (List.mem_singleton.mpr rfl)
  k_cells Y1
  (try simp only [List.cons_append, List.nil_append] at N1)
  (try dsimp only); (try k_fold)
  rename_i oD oS dD dS
  change oD.data = .cell (some (.int _ tn)) at dD
  change oS.data = .cell (some (.ref ls)) at dS
  k_with "m_call" => first
    | (refine' one_ok RT0 hHg ?tdp ?tun ?tF ?tN (by with_reducible assumption) ?toff ?tlt ?tt ?tt2 ?_; (case tdp => omega); (case tun => omega); (case tF => k_asm); (case tN => walk_at "m_front"); (case toff => walk_at "m_off"); (case tlt => k_mem); (case tt => exact Nat.le_of_ble_eq_true rfl); (case tt2 => exact Nat.le_of_ble_eq_true rfl); intro v9 o9 h9 tk9 hv9 F9 N9 S9; first | obtain ⟨mk9, t9, rfl⟩ := mark_of hv9 | obtain ⟨nm9, t9, rfl⟩ := name_of hv9 | obtain ⟨sq9, t9, rfl⟩ := kind_of hv9)
    | (refine' take_ok RT0 hHg ?tdp ?tun ?tF ?tN (by with_reducible assumption) ?toff ?tt ?tt2 ?_; (case tdp => omega); (case tun => omega); (case tF => k_asm); (case tN => walk_at "m_front"); (case toff => walk_at "m_off"); (case tt => omega); (case tt2 => omega); intro r9 t9 o9 h9 tk9 F9 N9 S9 hr0 hr1)
  k_with "m_off" => (refine Ap.all ?_; simp only [Ap, and_true]; omega)
  k_with "m_front" => first
    | assumption
    | exact rot2 (by assumption)
    | exact rot3 (by assumption)
    | exact rot4 (by assumption)
    | exact rot5 (by assumption)
    | exact rot6 (by assumption)
    | exact rot7 (by assumption)
    | exact rot8 (by assumption)
    | exact rot9 (by assumption)
  k_with "eval ListComp" => (k_dflt (refine' comp_evalR ?q6kF (emitOne _) ?q6k1 ?q6k3 ?q6k4 ?q6k5 ?q6k6 ?q6k7 ?_; (case q6kF => k_asm); (case q6k1 => (intros; rfl)); (case q6k3 => with_unfolding_all rfl); (case q6k4 => decide); (case q6k5 => exact rfl); (case q6k6 => decide); (case q6k7 => exact rfl); k_whole))
  k_with "CSrcR" => (apply of_hold)
  k_steps
  iterate 2
    rename Fr g _ _ _ => FF
    rename News g _ _ _ => NN
    obtain ⟨F2, N2, ne2⟩ := backE1 (o' := o9) hg F NN0 hoff FF (by walk_at "m_front") (by walk_at "m_off")
    refine hret _ (.name nm9 mk9) _ _ _ _ (by rw [Pt.ok]; trivial) (by rw [Pt.height]; omega) ?_ F2 N2 ne2 S9
    rw [Pt.data]
    exact Rd.tuple (n := 0) (by k_mem) (by walk_at "m_rds")
  · unfold Hold
    obtain ⟨n, rfl⟩ : ∃ n', N = n' + 1 := ⟨N - 1, by omega⟩
    have IH := IHs n rfl
    k_with "m_call" => (refine' IH _ _ _ _ _ _ _ _ _ _ _ _ _ _ _ ?tdp ?tun hHg ?tF ?tN (by assumption) ?toff ?tk ?_; (case tdp => omega); (case tun => omega); (case tF => k_asm); (case tN => exact rot4 (by assumption)); (case toff => assumption); (case tk => omega); intro v9 p9 tl9 o9 h9 tk9 hok9 hht9 hrd9 F9 N9 ne9 S9)
    rename Fr g _ _ _ => FF
    rename News g _ _ _ => NN
    rename IsRange _ _ _ _ _ _ _ _ => hr
    obtain ⟨rest0, hN, hmD, hmS, hro⟩ : ∃ rest0, News g L1 _ ((ls, o9) :: rest0) ∧ (L1 + 1 + 1, oD) ∈ rest0 ∧ (L1 + 1, oS) ∈ rest0 ∧ ∀ p ∈ rest0, p.1 ≠ ls := ⟨_, NN, by k_mem, by k_mem, by walk_at "m_off"⟩
    have two : r9 = 0 ∨ r9 = 1 := by omega
    clear NN
    refine' CSrcR.intro (n := (2 + r9).toNat) rfl FF hN hr ?hsm ?hn ?_
    case hsm => rcases two with rfl | rfl <;> rfl
    case hn => rcases two with rfl | rfl <;> rfl
    rintro I C D9 s₂ ⟨hh, tt, rfl⟩ hIC hID hCD off
    dsimp only
    refine CRest.ind hID hCD (PartJ n ls rest0) ?hsz ?step ?done ?hS₀ ?start
    case hsz =>
      rintro i ys nw hi ⟨o', tl, qs, S', hyl, -⟩
      rw [sizeLine_eq]
      omega
    case hS₀ => trivial
    case start =>
      have z : PartJ n ls rest0 0 [] ((ls, o9) :: (rest0 ++ [])) := ⟨_, [], [], S9, rfl, rfl, RdAll.nil, fun _ h => (by cases h), fun _ h => (by cases h)⟩
      rw [List.append_nil] at z
      exact z
    case step =>
      rintro i ys nw v oI oC mC h4 tk4 E4 hi - ⟨o', tl, qs, S', hyl, hql, hrd, hq, htl⟩ ⟨tv, rfl⟩ hns hB F4 N4 off4
      have z4 := off4.mem
      have hz := z4 _ (List.mem_cons_self ..)
      have hoff4 : ∀ p ∈ (I, oI) :: (C, oC) :: (D9, lst ys) :: (rest0 ++ tl), p.1 ≠ ls := by
        refine List.forall_mem_cons.mpr ⟨Ne.symm hz.1, List.forall_mem_cons.mpr ⟨Ne.symm hz.2.1, List.forall_mem_cons.mpr ⟨Ne.symm hz.2.2, ?_⟩⟩⟩
        exact List.forall_mem_append.mpr ⟨hro, htl⟩
      refine wpAny_tests_nil ?_
      rw [if_pos rfl]
      k_steps
      refine' CEnd.intro F9 hns N9 ((ls, o9) :: (rest0 ++ (tl ++ tl9))) ?sub ?off trivial ?kk
      case sub =>
        intro p hp
        simp only [List.mem_cons, List.mem_append] at hp ⊢
        rcases hp with h | h | h | h | h | h | h <;> simp only [h, true_or, or_true]
      case off =>
        refine Off3.of fun p hp => ?_
        rcases List.mem_cons.mp hp with rfl | hp
        · exact hz
        rcases List.mem_append.mp hp with hp | hp
        · exact z4 _ (List.mem_cons_of_mem _ (List.mem_append_left _ hp))
        rcases List.mem_append.mp hp with hp | hp
        · exact z4 _ (List.mem_cons_of_mem _ (List.mem_append_right _ hp))
        · exact ⟨ne9 (I, oI) (.tail _ (.head _)) p hp, ne9 (C, oC) (.tail _ (.tail _ (.head _))) p hp, ne9 (D9, lst ys) (.tail _ (.tail _ (.tail _ (.head _)))) p hp⟩
      case kk =>
        refine ⟨o9, tl ++ tl9, qs ++ [p9], S9, by rw [List.length_append, hyl]; rfl, by rw [List.length_append, hql]; rfl, ?_, ?_, ?_⟩
        · rw [List.map_append]
          exact RdAll.append (hrd.mono fun _ _ h => List.mem_append_left _ h) (RdAll.one' (hrd9.mono fun _ _ h => List.mem_append_right _ h))
        · intro q h
          rcases List.mem_append.mp h with h | h
          · exact hq q h
          · rw [List.mem_singleton.mp h]; exact ⟨hok9, hht9⟩
        · exact List.forall_mem_append.mpr ⟨htl, fun p hp => ne9 _ (.head _) p hp⟩
    case done =>
      rintro ys nw - ⟨o', tl, qs, S', hyl, hql, hrd, hq, htl⟩
      rcases two with rfl | rfl
      · obtain ⟨y1, y2, rfl⟩ := len2 hyl
        k_steps
        rename_i D1 h8 l1 D2 h7 F7 N7 l2
        have hD9 : ls ≠ D9 := ne9 _ (.head _)
        obtain ⟨F2, N2, ne2⟩ := backE1 (o' := o') hg F NN0 hoff F7 (by walk_at "m_front") (List.forall_mem_cons.mpr ⟨Ne.symm (Nat.ne_of_lt l2.2.2.1), List.forall_mem_cons.mpr ⟨Ne.symm (Nat.ne_of_lt l1.2.1), List.forall_mem_cons.mpr ⟨Ne.symm hD9, List.forall_mem_append.mpr ⟨hro, htl⟩⟩⟩⟩)
        refine hret _ (.node sq9 qs mk9) _ _ _ _ (by rw [Pt.ok]; exact ⟨by rw [hql]; first | exact .inl rfl | exact .inr rfl, fun q h => (hq q h).1⟩) (height_le fun q h => (hq q h).2) ?_ F2 N2 ne2 S'
        rw [Pt.data]
        refine Rd.tuple (n := 0) (.head _) (.cons (Rd.str _ _) (.cons (Rd.tuple (n := 0) (.tail _ (.head _)) (hrd.mono fun _ _ h => ?_)) (.cons (Rd.str _ _) .nil)))
        exact .tail _ (.tail _ (.tail _ (List.mem_append_right _ h)))
      · obtain ⟨y1, y2, y3, rfl⟩ := len3 hyl
        k_steps
        rename_i D1 h8 l1 D2 h7 F7 N7 l2
        have hD9 : ls ≠ D9 := ne9 _ (.head _)
        obtain ⟨F2, N2, ne2⟩ := backE1 (o' := o') hg F NN0 hoff F7 (by walk_at "m_front") (List.forall_mem_cons.mpr ⟨Ne.symm (Nat.ne_of_lt l2.2.2.1), List.forall_mem_cons.mpr ⟨Ne.symm (Nat.ne_of_lt l1.2.1), List.forall_mem_cons.mpr ⟨Ne.symm hD9, List.forall_mem_append.mpr ⟨hro, htl⟩⟩⟩⟩)
        refine hret _ (.node sq9 qs mk9) _ _ _ _ (by rw [Pt.ok]; exact ⟨by rw [hql]; first | exact .inl rfl | exact .inr rfl, fun q h => (hq q h).1⟩) (height_le fun q h => (hq q h).2) ?_ F2 N2 ne2 S'
        rw [Pt.data]
        refine Rd.tuple (n := 0) (.head _) (.cons (Rd.str _ _) (.cons (Rd.tuple (n := 0) (.tail _ (.head _)) (hrd.mono fun _ _ h => ?_)) (.cons (Rd.str _ _) .nil)))
        exact .tail _ (.tail _ (.tail _ (List.mem_append_right _ h)))
theorem particle_ok {w : World} {mean : ExcName → Option Value} {mg mb : Str → Option Value} {H : Heap} (RT : Root w mean mg mb H) : ∀ n, n ≤ 2 → PartC w H n := by
  intro n
  induction n with
  | zero => exact fun h => particle_step RT 0 h fun n e => (by cases e)
  | succ n ih => exact fun h => particle_step RT (n + 1) h fun n' e => (by cases e; exact ih (by omega))
theorem words_nothing : True := by
  w_top off
  k_with_none
  k_with "m_enter" => (
      refine wpAny_call ?_;
      k_dflt (refine' enterP0 ?q0k4 ?q0k5 ?q0kH ?q0k6 ?q0k7 ?q0k8 ?q0k9 ?q0kB ?_ ?q0c2 ?q0c3 ?q0c4 ?q0c5; (case q0kH => assumption); (case q0k4 => k_asm); (case q0k5 => k_asm); (case q0k6 => k_is); (case q0k7 => k_is); (case q0k8 => (simp only [recursionLimit]; omega)); (case q0k9 => exact BindsTo.of_eq rfl); (case q0c5 => decide); (case q0kB => exact locs rfl); (case q0c2 => exact rfl); (case q0c3 => exact rfl); (case q0c4 => exact rfl); k_whole);
      rename Frag.In _ _ => xX; rename Top _ _ _ _ _ _ => xT; clear xX xT;
      intro L' h' tk' F' N' X' T'; (try dsimp only); (try k_fold))
  k_with "m_enter0" => (
      refine wpAny_call ?_;
      k_dflt (refine' enterP0 ?q1k4 ?q1k5 ?q1kH ?q1k6 ?q1k7 ?q1k8 ?q1k9 ?q1kB ?_ ?q1c2 ?q1c3 ?q1c4 ?q1c5; (case q1kH => assumption); (case q1k4 => k_asm); (case q1k5 => k_asm); (case q1k6 => k_is); (case q1k7 => k_is); (case q1k8 => (simp only [recursionLimit]; omega)); (case q1k9 => exact BindsTo.of_eq rfl); (case q1c5 => decide); (case q1kB => exact locs rfl); (case q1c2 => exact rfl); (case q1c3 => exact rfl); (case q1c4 => exact rfl); k_whole);
      rename Frag.In _ _ => xX; rename Top _ _ _ _ _ _ => xT; clear xX xT)
  k_with "m_enterC" => (
      refine wpAny_call ?_;
      k_dflt (refine' enterC0 ?q2k4 ?q2k5 ?q2kH ?q2k6 ?q2k7 ?q2k8 ?q2k9 ?q2kB ?q2kD ?_ ?q2c2 ?q2c3 ?q2c4; (case q2kH => assumption); (case q2k4 => k_asm); (case q2k5 => k_asm); (case q2k6 => k_is); (case q2k7 => k_is); (case q2k8 => (simp only [recursionLimit]; omega)); (case q2k9 => exact BindsTo.of_eq rfl); (case q2kB => exact rfl); (case q2kD => decide +kernel); (case q2c2 => exact rfl); (case q2c3 => exact rfl); (case q2c4 => exact rfl); k_whole);
      rename Frag.In _ _ => xX; rename Top _ _ _ _ _ _ => xT; clear xX xT;
      intro L' h' tk' cells' F' N' Y' X' T'; k_cells Y'; (try simp only [List.cons_append, List.nil_append] at N'); (try dsimp only); (try k_fold))
  k_with "m_enterC0" => (
      refine wpAny_call ?_;
      k_dflt (refine' enterC0 ?q3k4 ?q3k5 ?q3kH ?q3k6 ?q3k7 ?q3k8 ?q3k9 ?q3kB ?q3kD ?_ ?q3c2 ?q3c3 ?q3c4; (case q3kH => assumption); (case q3k4 => k_asm); (case q3k5 => k_asm); (case q3k6 => k_is); (case q3k7 => k_is); (case q3k8 => (simp only [recursionLimit]; omega)); (case q3k9 => exact BindsTo.of_eq rfl); (case q3kB => exact rfl); (case q3kD => decide +kernel); (case q3c2 => exact rfl); (case q3c3 => exact rfl); (case q3c4 => exact rfl); k_whole);
      rename Frag.In _ _ => xX; rename Top _ _ _ _ _ _ => xT; clear xX xT)
  k_with "call ref" => k_dflt (k_extra "m_call")
  k_with "exec Assign cons ListComp" => (k_dflt (refine' comp_assign ?q5kF (emitOne _) ?q5k0 ?q5k1 ?q5k2 ?q5k3 ?q5k4 ?q5k5 ?q5k6 ?q5k7 ?q5k8 ?_; (case q5kF => k_asm); (case q5k0 => exact rfl); (case q5k1 => (intros; rfl)); (case q5k2 => exact rfl); (case q5k3 => with_unfolding_all rfl); (case q5k4 => decide); (case q5k5 => exact rfl); (case q5k6 => decide); (case q5k7 => exact rfl); (case q5k8 => exact rfl); k_whole))
  k_with "eval ListComp" => (k_dflt (refine' comp_eval ?q6kF (emitOne _) ?q6k1 ?q6k3 ?q6k4 ?q6k5 ?q6k6 ?_; (case q6kF => k_asm); (case q6k1 => (intros; rfl)); (case q6k3 => with_unfolding_all rfl); (case q6k4 => decide); (case q6k5 => exact rfl); (case q6k6 => decide); k_whole))
  k_with "exec For Name Subscript cons nil" => (k_dflt (refine' for_rule ?q7kF ?_; (case q7kF => k_asm); k_whole))
  k_with "exec For Name Name cons nil" => (k_dflt (refine' for_rule ?q8kF ?_; (case q8kF => k_asm); k_whole))
  k_with "exec For Name IfExp cons nil" => (k_dflt (refine' for_rule ?q9kF ?_; (case q9kF => k_asm); k_whole))
  k_with "exec For Name Call cons nil" => (k_dflt (refine' for_rule ?q10kF ?_; (case q10kF => k_asm); k_whole))
  k_with "exec For Name ListComp cons nil" => (k_dflt (refine' for_rule ?q11kF ?_; (case q11kF => k_asm); k_whole))
  k_with "exec For Tuple Name cons nil" => (k_dflt (refine' for_rule ?q12kF ?_; (case q12kF => k_asm); k_whole))
  k_with "FSrc" => k_dflt (k_extra "m_fsrc")
  k_with "FRest" => k_dflt (k_extra "m_frest")
  k_with "FEnd" => k_dflt (k_extra "m_fend")
  k_with "CSrc" => k_dflt (k_extra "m_src")
  k_with "CRest" => k_dflt (k_extra "m_rest")
  k_with "CEnd" => k_dflt (k_extra "m_cend")
  k_with "FinA" => (unfold FinA; intro h9 tk9 F9 N9 ne9; (try rw [lst_eq] at N9))
  k_with "FinE" => (unfold FinE; intro h9 tk9 F9 N9 ne9; (try rw [lst_eq] at N9))
  k_with "execs cons Assign cons" => refine wpAny_execs_cons ?_
  k_with "execs cons Assign nil" => refine wpAny_execs_cons ?_
  k_with "execs cons If cons" => refine wpAny_execs_cons ?_
  k_with "execs cons If nil" => refine wpAny_execs_cons ?_
  k_with "execs cons For cons" => refine wpAny_execs_cons ?_
  k_with "execs cons For nil" => refine wpAny_execs_cons ?_
  k_with "execs cons Return cons" => refine wpAny_execs_cons ?_
  k_with "execs cons Return nil" => refine wpAny_execs_cons ?_
  k_with "execs cons Expr cons" => refine wpAny_execs_cons ?_
  k_with "execs cons Expr nil" => refine wpAny_execs_cons ?_
  k_with "ite" => first | (rw [if_neg (by decide +kernel)]) | (rw [if_pos (by decide +kernel)])
  k_with "subscriptTail Name Constant ref int" => (k_dflt (refine' item_tupleT ?q32k1 ?q32k2 ?q32k3 ?q32k4 ?q32k5 ?_; (case q32k1 => exact Fr.tup (by k_asm) (by assumption)); (case q32k2 => decide); (case q32k3 => decide); (case q32k4 => rfl); (case q32k5 => rfl); k_whole))
  k_with "eval Name" => (k_dflt (refine' nameX_L ?q33k1 ?q33k2 ?_; (case q33k1 => k_asm); (case q33k2 => first | exact rfl | assumption); k_whole))
  k_with "binaryOp Add ref ref" => (k_dflt (refine' my_add ?q34F ?q34N ?q34a ?q34b ?q34z ?_; (case q34F => k_asm); (case q34N => k_asm); (case q34a => k_mem); (case q34b => k_mem); (case q34z => (rw [sizeLine_eq]; (try simp only [List.length_append, List.length_nil, List.length_cons]); omega)); k_whole; intro r9 h9 F9 N9 l9; (try k_lt l9)))
  k_with "subscriptTail Subscript" => (k_dflt (refine kba_turn (value' := PySem.Expr.Name (PySem.Str.ofString "_") ⟨0, 0, 0, 0⟩) (fun _ => rfl) ?_))
  k_with "subscriptTail Name Slice ref ref" => (k_dflt (refine' slice_tuple ?q36F ?q36N ?q36t ?q36pa ?q36pb ?q36pc ?q36h0 ?q36hno ?q36hz ?q36hsz ?_ ?q36hs ?q36hg; (case q36F => k_asm); (case q36N => k_asm); (case q36t => exact Fr.tup (by k_asm) (by assumption)); (case q36pa => first | exact IsPart.none | exact IsPart.int _ _); (case q36pb => first | exact IsPart.none | exact IsPart.int _ _); (case q36pc => first | exact IsPart.none | exact IsPart.int _ _); (case q36h0 => rfl); (case q36hno => rfl); (case q36hz => with_unfolding_all first | exact (rfl : _ = []) | exact (rfl : _ = [_]) | exact (rfl : _ = [_, _]) | exact (rfl : _ = [_, _, _])); (case q36hsz => (rw [sizeLine_eq]; exact Nat.le_of_ble_eq_true rfl)); (case q36hs => with_unfolding_all rfl); (case q36hg => (intro _; with_unfolding_all rfl)); k_whole; intro r9 h9 F9 N9 l9; (try k_lt l9)))
  k_with "m_sub" => (intro q9 h9; simp only [List.mem_cons, List.mem_append, h9, true_or, or_true])
  k_with "m_rdsub" => (intro b o h; first | exact h | exact Or.inl h | (refine Or.elim h Or.inl (fun h => Or.inr ?_); simp only [List.mem_cons, List.mem_append, h, true_or, or_true]))
  k_with "m_rd" => first
      | exact Rd.int _ _ | exact Rd.str _ _ | exact Rd.bool _ | assumption
      | (refine' Rd.mono ?q39hs ?q39hv; (case q39hv => assumption); (case q39hs => walk_at "m_rdsub"))
      | (refine Rd.tuple (Or.inr (by k_mem)) ?_; walk_at "m_rds")
  k_with "m_rds" => first
      | exact RdAll.nil
      | ((refine RdAll.cons ?_ ?_); (walk_at "m_rd"); (walk_at "m_rds"))
  k_with "call builtin:len" => (k_dflt (refine' len_tupK ?q41k1 ?q41k2 ?q41k3 ?_; (case q41k1 => exact Fr.tup (by k_asm) (by assumption)); (case q41k2 => assumption); (case q41k3 => omega); k_whole))
  k_with "call type:range" => (k_dflt (first | (refine' range1_rows ?q42k1 ?q42k2 ?_; (case q42k1 => k_asm); (case q42k2 => k_asm); k_whole; intro h9 tk9 t9 u9 v9 hr9 F9 N9 hk9) | (refine' range2_rows ?q42k1 ?q42k2 ?_; (case q42k1 => k_asm); (case q42k2 => k_asm); k_whole; intro h9 tk9 t9 u9 v9 hr9 F9 N9 hk9)))
  k_with "subscriptTail Name Name ref int" => (k_dflt (refine' item_sym ?q43k1 ?q43k2 ?q43k3 ?q43k4 ?_; (case q43k1 => exact Fr.tup (by k_asm) (by assumption)); (case q43k4 => assumption); (case q43k2 => omega); (case q43k3 => omega); k_whole))
  k_with "compareOp Eq ref ref" => (k_dflt (refine' list_eq_nil ?y1N ?y1a ?y1b ?y1u ?_; (case y1N => k_asm); (case y1a => k_mem); (case y1b => k_mem); (case y1u => (show _ < 9900; (try dsimp only); omega)); k_whole))
  k_with "m_enterD" => (
      k_dflt (refine' enterC1 ?z3k4 ?z3k5 ?z3kH ?z3k6 ?z3k7 ?z3k8 ?z3k9 ?z3kB ?z3kD ?_ ?z3c2 ?z3c3 ?z3c4; (case z3kH => assumption); (case z3k4 => k_asm); (case z3k5 => k_asm); (case z3k6 => k_is); (case z3k7 => k_is); (case z3k8 => (simp only [recursionLimit]; omega)); (case z3k9 => exact BindsTo.of_eq rfl); (case z3kB => exact rfl); (case z3kD => decide +kernel); (case z3c2 => exact rfl); (case z3c3 => exact rfl); (case z3c4 => exact rfl); k_whole);
      rename Frag.In _ _ => xX; rename Top _ _ _ _ _ _ => xT; clear xX xT)
  k_with "m_enterB" => (
      k_dflt (refine' enterP1 ?z4k4 ?z4k5 ?z4kH ?z4k6 ?z4k7 ?z4k8 ?z4k9 ?z4kB ?_ ?z4c2 ?z4c3 ?z4c4 ?z4c5; (case z4kH => assumption); (case z4k4 => k_asm); (case z4k5 => k_asm); (case z4k6 => k_is); (case z4k7 => k_is); (case z4k8 => (simp only [recursionLimit]; omega)); (case z4k9 => exact BindsTo.of_eq rfl); (case z4c5 => decide); (case z4kB => exact locs rfl); (case z4c2 => exact rfl); (case z4c3 => exact rfl); (case z4c4 => exact rfl); k_whole);
      rename Frag.In _ _ => xX; rename Top _ _ _ _ _ _ => xT; clear xX xT)
  k_with "m_enterG" => (
      k_dflt (refine' enterG ?z5k4 ?z5k5 ?z5kH ?z5F ?z5N ?z5k6 ?z5k7 ?z5k8 ?z5k9 ?z5kB ?_ ?z5c2 ?z5c3 ?z5c4 ?z5c5; (case z5kH => assumption); (case z5F => assumption); (case z5N => assumption); (case z5k4 => k_asm); (case z5k5 => k_asm); (case z5k6 => k_is); (case z5k7 => k_is); (case z5k8 => (simp only [recursionLimit]; omega)); (case z5k9 => exact BindsTo.of_eq rfl); (case z5c5 => decide); (case z5kB => exact locs rfl); (case z5c2 => exact rfl); (case z5c3 => exact rfl); (case z5c4 => exact rfl); k_whole))
  k_with "m_enterGC" => (
      k_dflt (refine' enterGC ?z6k4 ?z6k5 ?z6kH ?z6F ?z6N ?z6k6 ?z6k7 ?z6k8 ?z6k9 ?z6kB ?z6kD ?_ ?z6c2 ?z6c3 ?z6c4; (case z6kH => assumption); (case z6F => assumption); (case z6N => assumption); (case z6k4 => k_asm); (case z6k5 => k_asm); (case z6k6 => k_is); (case z6k7 => k_is); (case z6k8 => (simp only [recursionLimit]; omega)); (case z6k9 => exact BindsTo.of_eq rfl); (case z6kB => exact rfl); (case z6kD => decide +kernel); (case z6c2 => exact rfl); (case z6c3 => exact rfl); (case z6c4 => exact rfl); k_whole))
  k_with "m_enterE" => (
      k_dflt (refine' enterE ?z8k4 ?z8k5 ?z8kH ?z8F ?z8N ?z8k6 ?z8k7 ?z8k8 ?z8k9 ?z8kB ?_ ?z8c2 ?z8c3 ?z8c4 ?z8c5; (case z8kH => assumption); (case z8F => assumption); (case z8N => assumption); (case z8k4 => k_asm); (case z8k5 => k_asm); (case z8k6 => k_is); (case z8k7 => k_is); (case z8k8 => (simp only [recursionLimit]; omega)); (case z8k9 => exact BindsTo.of_eq rfl); (case z8c5 => decide); (case z8kB => exact locs rfl); (case z8c2 => exact rfl); (case z8c3 => exact rfl); (case z8c4 => exact rfl); k_whole))
  k_with "m_enterEC" => (
      k_dflt (refine' enterEC ?z9k4 ?z9k5 ?z9kH ?z9F ?z9N ?z9k6 ?z9k7 ?z9k8 ?z9k9 ?z9kB ?z9kD ?_ ?z9c2 ?z9c3 ?z9c4; (case z9kH => assumption); (case z9F => assumption); (case z9N => assumption); (case z9k4 => k_asm); (case z9k5 => k_asm); (case z9k6 => k_is); (case z9k7 => k_is); (case z9k8 => (simp only [recursionLimit]; omega)); (case z9k9 => exact BindsTo.of_eq rfl); (case z9kB => exact rfl); (case z9kD => decide +kernel); (case z9c2 => exact rfl); (case z9c3 => exact rfl); (case z9c4 => exact rfl); k_whole))
  k_with "m_in" => first
    | with_reducible apply in_hd
    | (with_reducible apply in_l; walk_at "m_in")
    | (with_reducible apply in_r; walk_at "m_in")
    | (with_reducible apply in_tl; walk_at "m_in")
    | apply in_hd
    | assumption
  k_with "m_sub3" => first
    | with_reducible apply sub_id
    | (with_reducible apply sub_l; walk_at "m_sub3")
    | (with_reducible apply sub_r; walk_at "m_sub3")
    | (with_reducible apply sub_tl; walk_at "m_sub3")
  k_with "m_perm2" => ((repeat' (first | with_reducible apply sub_nil | with_reducible apply sub_app | with_reducible apply sub_cons)); all_goals (first | walk_at "m_in" | walk_at "m_sub3"))
  k_with "m_perm" => (intro p hp; simp only [List.cons_append, List.nil_append, List.append_assoc, List.append_nil, List.mem_cons, List.mem_append, List.not_mem_nil, or_false, or_assoc] at hp ⊢; (repeat' (first | (cases hp with | inl hp => ?_ | inr hp => ?_) | fail)); all_goals (repeat (first | apply hp | apply Or.inl hp | apply Or.inr)))
  k_with "m_notin" => first | exact notIn_of2 (by assumption) | (refine notIn_of ?_ ?_ ?_ ?_ ?_ <;> first | omega | assumption)
  k_with "m_off" => (refine Ap.all ?_; simp only [Ap, and_true]; omega)
  k_with "m_front" => first
    | assumption
    | exact rot2 (by assumption)
    | exact rot3 (by assumption)
    | exact rot4 (by assumption)
    | exact rot5 (by assumption)
    | exact rot6 (by assumption)
    | exact rot7 (by assumption)
    | exact rot8 (by assumption)
    | exact rot9 (by assumption)
  k_with "call builtin:list.append" => (k_dflt (refine' append_L ?zaF ?zaN ?zao ?zaz ?_; (case zaF => k_asm); (case zaN => walk_at "m_front"); (case zao => first | k_all | walk_at "m_off"); (case zaz => omega); k_whole; intro h9 F9 N9))
  k_with "compareOp NotIn int ref" => (k_dflt (refine' notin_L ?zbN ?zbm ?zbI ?_; (case zbN => k_asm); (case zbm => k_mem); (case zbI => assumption); k_whole))
  k_with "call builtin:len" => (k_dflt (refine' len_listK ?z7N ?z7l ?z7z ?_; (case z7N => k_asm); (case z7l => k_mem); (case z7z => omega); k_whole))
  trivial
theorem mkNulN {mk : Mk} : ([Str.ofString "?", Str.ofString "*"].any fun x => x == mk.str) = mk.nul := by cases mk <;> decide
theorem kindNotName (sq : Bool) : ¬ (kindStr sq == Str.ofString "name") = true := by cases sq <;> decide
theorem kindSeq {sq : Bool} (h : (kindStr sq == Str.ofString "seq") = true) : sq = true := by cases sq with | true => rfl | false => exact absurd h (by decide)
theorem kindSeqN {sq : Bool} (h : (kindStr sq == Str.ofString "seq") = false) : sq = false := by cases sq with | false => rfl | true => exact absurd h (by decide)
theorem nothing_pure {w : World} {mean : ExcName → Option Value} {mg mb : Str → Option Value} {H : Heap} (RT : Root w mean mg mb H) {α : Type} (enc : α → PyData) :
    ∀ n, ∀ p : Pt α, p.height < n → p.ok → Pure w H p.height 171 [p.data enc] (.bool p.nothing) := by
  intro n
  induction n with
  | zero => intro p h; exact absurd h (Nat.not_lt_zero _)
  | succ n IH =>
  intro p hpn pok
  obtain ⟨X, T⟩ := RT
  intro dp un fr gd h₀ L m news D s vs Q E hdp hun hH F N hD hR hret
  obtain ⟨v, rfl, hv⟩ := RdAll.one hR
  have hH' : H.StaysIn s.heap := fun b o e => F.keep b o (hH b o e)
  cases p with
  | name x mk =>
    simp only [Pt.data] at hv
    obtain ⟨a, vs, na, rfl, ha, hv⟩ := hv.tuple_inv
    obtain ⟨v0, v1, v2, rfl, hv0, hv1, hv2⟩ := hv.three
    obtain ⟨t0, rfl⟩ := hv0.str_inv
    obtain ⟨t2, rfl⟩ := hv2.str_inv
    have hT : IsTup s.heap a #[.str "name" t0, v1, .str mk.str t2] := ⟨_, hD _ _ ha, rfl, _, rfl⟩
    walk_at "m_enter"
    k_steps
    all_goals (
      rename (List.any _ _ = _) => e1
      rw [mkNulN] at e1
      refine' fin (w := w) (s := s) (D := D) F N hret ?ha ?hb (ROut.boolE ?hc); (case ha => k_asm); (case hb => k_asm); (case hc => rw [Pt.nothing, e1]))
  | node sq ps mk =>
    simp only [Pt.data] at hv
    obtain ⟨a, vs, na, rfl, ha, hv⟩ := hv.tuple_inv
    obtain ⟨v0, v1, v2, rfl, hv0, hv1, hv2⟩ := hv.three
    obtain ⟨t0, rfl⟩ := hv0.str_inv
    obtain ⟨t2, rfl⟩ := hv2.str_inv
    obtain ⟨b, ws, n', rfl, hb, hw⟩ := hv1.tuple_inv
    have hT : IsTup s.heap a #[.str (kindStr sq) t0, .ref b, .str mk.str t2] := ⟨_, hD _ _ ha, rfl, _, rfl⟩
    have hB : IsTup s.heap b ws.toArray := ⟨_, hD _ _ hb, rfl, _, rfl⟩
    rw [Pt.ok] at pok
    have hhk := fun q (hq : q ∈ ps) => Pt.height_kid hq (sq := sq) (mk := mk)
    have hlen : ps.length ≤ 3 := by rcases pok.1 with h | h <;> omega
    have hwl := hw.length
    rw [List.length_map] at hwl
    walk_at "m_enter"
    k_steps
    all_goals (first | exact absurd (by assumption) (kindNotName sq) | skip)
    · rename (List.any _ _ = _) => e1
      rw [mkNulN] at e1
      refine' fin (w := w) (s := s) (D := D) F N hret ?ha ?hb (ROut.boolE ?hc)
      case ha => k_asm
      case hb => k_asm
      case hc => rw [Pt.nothing, e1, Bool.true_or]
    · rename (List.any _ _ = _) => e1
      rw [mkNulN] at e1
      refine' CSrc.name (tup := true) (its := ws) (n := n') rfl ?hF ?hN (.inl (hD _ _ hb)) ?h2 ?h3 ?_
      case hF => k_asm
      case hN => k_asm
      case h2 => exact rfl
      case h3 => exact rfl
      rintro I C D9 s₂ ⟨hh, tt, rfl⟩ hIC hID hCD off
      dsimp only
      refine CRest.ind hID hCD (fun j ys _ => ys = (ps.take j).map fun q => Value.bool q.nothing) ?hsz ?step ?done ?hS₀ ?start
      case hsz =>
        rintro j ys nw hj rfl
        rw [sizeLine_eq, List.length_map, List.length_take]
        omega
      case hS₀ => exact .inl (hD _ _ hb)
      case start => rfl
      case step =>
        rintro j ys nw v oI oC mC h4 tk4 E4 hj - rfl hv4 hns hB F4 N4 off4
        obtain ⟨q, hq, hqm, hvq, -⟩ := hw.get_map hv4
        k_with "m_call" => (refine' Pure.use (IH q ?hlt (pok.2 q hqm)) (RdAll.one' hvq) ?hdp ?hun ?hH ?hF ?hN ?hDD ?_; (case hlt => (have := hhk q hqm; omega)); (case hdp => (have := hhk q hqm; simp only [Around.deeper]; omega)); (case hun => (have := hhk q hqm; simp only [Around.deeper]; omega)); (case hH => with_reducible assumption); (case hF => k_asm); (case hN => k_asm); (case hDD => exact fun b o e => Fr.keep (by k_asm) b o (hD b o e)); intro r9 tl9 h9 tk9 F9 N9 hne9 hst9 ho9; obtain rfl := ho9.bool_inv)
        refine wpAny_tests_nil ?_
        rw [if_pos rfl]
        k_steps
        refine CEnd.intro F9 hns N9 _ (fun _ h => h) (off_app off4 hne9) (.inl (hD _ _ hb)) ?_
        rw [List.take_add_one, hq, List.map_append]
        rfl
      case done =>
        rintro ys nw - rfl
        have hz : ps.take ws.length = ps := by rw [hwl]; exact List.take_length ..
        rw [hz]
        have hno : (Pt.node sq ps mk).nothing = (if sq then (ps.map Pt.nothing).all id else (ps.map Pt.nothing).any id) := by rw [Pt.nothing, e1, Bool.false_or]
        rw [hno] at hret
        clear hno
        have h23 := pok.1
        generalize hbs : ps.map (fun q => Value.bool q.nothing) = ys
        generalize hbn : ps.map Pt.nothing = bs at hret
        have hys : ys = bs.map Value.bool := by rw [← hbs, ← hbn, List.map_map]; rfl
        have hb23 : bs.length = 2 ∨ bs.length = 3 := by rw [← hbn, List.length_map]; exact h23
        rw [hys]
        rcases len23 hb23 with ⟨x1, x2, rfl⟩ | ⟨x1, x2, x3, rfl⟩
        all_goals (
          simp only [List.map_cons, List.map_nil]
          k_steps
          all_goals (
            refine' fin (w := w) (s := s) (D := D) F N hret ?ha ?hb (ROut.boolE ?hc)
            case ha => k_asm
            case hb => k_asm
            case hc =>
              first
                | (rw [kindSeq (sq := sq) (by assumption)]; simp [Bool.and_assoc]; done)
                | (rw [kindSeqN (sq := sq) (by assumption)]; simp [Bool.or_assoc]; done)))
theorem words_numbered : True := by
  w_top off
  k_with_none
  k_with "m_enter" => (
      refine wpAny_call ?_;
      k_dflt (refine' enterP0 ?q0k4 ?q0k5 ?q0kH ?q0k6 ?q0k7 ?q0k8 ?q0k9 ?q0kB ?_ ?q0c2 ?q0c3 ?q0c4 ?q0c5; (case q0kH => assumption); (case q0k4 => k_asm); (case q0k5 => k_asm); (case q0k6 => k_is); (case q0k7 => k_is); (case q0k8 => (simp only [recursionLimit]; omega)); (case q0k9 => exact BindsTo.of_eq rfl); (case q0c5 => decide); (case q0kB => exact locs rfl); (case q0c2 => exact rfl); (case q0c3 => exact rfl); (case q0c4 => exact rfl); k_whole);
      rename Frag.In _ _ => xX; rename Top _ _ _ _ _ _ => xT; clear xX xT;
      intro L' h' tk' F' N' X' T'; (try dsimp only); (try k_fold))
  k_with "m_enter0" => (
      refine wpAny_call ?_;
      k_dflt (refine' enterP0 ?q1k4 ?q1k5 ?q1kH ?q1k6 ?q1k7 ?q1k8 ?q1k9 ?q1kB ?_ ?q1c2 ?q1c3 ?q1c4 ?q1c5; (case q1kH => assumption); (case q1k4 => k_asm); (case q1k5 => k_asm); (case q1k6 => k_is); (case q1k7 => k_is); (case q1k8 => (simp only [recursionLimit]; omega)); (case q1k9 => exact BindsTo.of_eq rfl); (case q1c5 => decide); (case q1kB => exact locs rfl); (case q1c2 => exact rfl); (case q1c3 => exact rfl); (case q1c4 => exact rfl); k_whole);
      rename Frag.In _ _ => xX; rename Top _ _ _ _ _ _ => xT; clear xX xT)
  k_with "m_enterC" => (
      refine wpAny_call ?_;
      k_dflt (refine' enterC0 ?q2k4 ?q2k5 ?q2kH ?q2k6 ?q2k7 ?q2k8 ?q2k9 ?q2kB ?q2kD ?_ ?q2c2 ?q2c3 ?q2c4; (case q2kH => assumption); (case q2k4 => k_asm); (case q2k5 => k_asm); (case q2k6 => k_is); (case q2k7 => k_is); (case q2k8 => (simp only [recursionLimit]; omega)); (case q2k9 => exact BindsTo.of_eq rfl); (case q2kB => exact rfl); (case q2kD => decide +kernel); (case q2c2 => exact rfl); (case q2c3 => exact rfl); (case q2c4 => exact rfl); k_whole);
      rename Frag.In _ _ => xX; rename Top _ _ _ _ _ _ => xT; clear xX xT;
      intro L' h' tk' cells' F' N' Y' X' T'; k_cells Y'; (try simp only [List.cons_append, List.nil_append] at N'); (try dsimp only); (try k_fold))
  k_with "m_enterC0" => (
      refine wpAny_call ?_;
      k_dflt (refine' enterC0 ?q3k4 ?q3k5 ?q3kH ?q3k6 ?q3k7 ?q3k8 ?q3k9 ?q3kB ?q3kD ?_ ?q3c2 ?q3c3 ?q3c4; (case q3kH => assumption); (case q3k4 => k_asm); (case q3k5 => k_asm); (case q3k6 => k_is); (case q3k7 => k_is); (case q3k8 => (simp only [recursionLimit]; omega)); (case q3k9 => exact BindsTo.of_eq rfl); (case q3kB => exact rfl); (case q3kD => decide +kernel); (case q3c2 => exact rfl); (case q3c3 => exact rfl); (case q3c4 => exact rfl); k_whole);
      rename Frag.In _ _ => xX; rename Top _ _ _ _ _ _ => xT; clear xX xT)
  k_with "call ref" => k_dflt (k_extra "m_call")
  k_with "exec Assign cons ListComp" => (k_dflt (refine' comp_assign ?q5kF (emitOne _) ?q5k0 ?q5k1 ?q5k2 ?q5k3 ?q5k4 ?q5k5 ?q5k6 ?q5k7 ?q5k8 ?_; (case q5kF => k_asm); (case q5k0 => exact rfl); (case q5k1 => (intros; rfl)); (case q5k2 => exact rfl); (case q5k3 => with_unfolding_all rfl); (case q5k4 => decide); (case q5k5 => exact rfl); (case q5k6 => decide); (case q5k7 => exact rfl); (case q5k8 => exact rfl); k_whole))
  k_with "eval ListComp" => (k_dflt (refine' comp_eval ?q6kF (emitOne _) ?q6k1 ?q6k3 ?q6k4 ?q6k5 ?q6k6 ?_; (case q6kF => k_asm); (case q6k1 => (intros; rfl)); (case q6k3 => with_unfolding_all rfl); (case q6k4 => decide); (case q6k5 => exact rfl); (case q6k6 => decide); k_whole))
  k_with "exec For Name Subscript cons nil" => (k_dflt (refine' for_rule ?q7kF ?_; (case q7kF => k_asm); k_whole))
  k_with "exec For Name Name cons nil" => (k_dflt (refine' for_rule ?q8kF ?_; (case q8kF => k_asm); k_whole))
  k_with "exec For Name IfExp cons nil" => (k_dflt (refine' for_rule ?q9kF ?_; (case q9kF => k_asm); k_whole))
  k_with "exec For Name Call cons nil" => (k_dflt (refine' for_rule ?q10kF ?_; (case q10kF => k_asm); k_whole))
  k_with "exec For Name ListComp cons nil" => (k_dflt (refine' for_rule ?q11kF ?_; (case q11kF => k_asm); k_whole))
  k_with "exec For Tuple Name cons nil" => (k_dflt (refine' for_rule ?q12kF ?_; (case q12kF => k_asm); k_whole))
  k_with "FSrc" => k_dflt (k_extra "m_fsrc")
  k_with "FRest" => k_dflt (k_extra "m_frest")
  k_with "FEnd" => k_dflt (k_extra "m_fend")
  k_with "CSrc" => k_dflt (k_extra "m_src")
  k_with "CRest" => k_dflt (k_extra "m_rest")
  k_with "CEnd" => k_dflt (k_extra "m_cend")
  k_with "FinA" => (unfold FinA; intro h9 tk9 F9 N9 ne9; (try rw [lst_eq] at N9))
  k_with "FinE" => (unfold FinE; intro h9 tk9 F9 N9 ne9; (try rw [lst_eq] at N9))
  k_with "execs cons Assign cons" => refine wpAny_execs_cons ?_
  k_with "execs cons Assign nil" => refine wpAny_execs_cons ?_
  k_with "execs cons If cons" => refine wpAny_execs_cons ?_
  k_with "execs cons If nil" => refine wpAny_execs_cons ?_
  k_with "execs cons For cons" => refine wpAny_execs_cons ?_
  k_with "execs cons For nil" => refine wpAny_execs_cons ?_
  k_with "execs cons Return cons" => refine wpAny_execs_cons ?_
  k_with "execs cons Return nil" => refine wpAny_execs_cons ?_
  k_with "execs cons Expr cons" => refine wpAny_execs_cons ?_
  k_with "execs cons Expr nil" => refine wpAny_execs_cons ?_
  k_with "ite" => first | (rw [if_neg (by decide +kernel)]) | (rw [if_pos (by decide +kernel)])
  k_with "subscriptTail Name Constant ref int" => (k_dflt (refine' item_tupleT ?q32k1 ?q32k2 ?q32k3 ?q32k4 ?q32k5 ?_; (case q32k1 => exact Fr.tup (by k_asm) (by assumption)); (case q32k2 => decide); (case q32k3 => decide); (case q32k4 => rfl); (case q32k5 => rfl); k_whole))
  k_with "eval Name" => (k_dflt (refine' nameX_L ?q33k1 ?q33k2 ?_; (case q33k1 => k_asm); (case q33k2 => first | exact rfl | assumption); k_whole))
  k_with "binaryOp Add ref ref" => (k_dflt (refine' my_add ?q34F ?q34N ?q34a ?q34b ?q34z ?_; (case q34F => k_asm); (case q34N => k_asm); (case q34a => k_mem); (case q34b => k_mem); (case q34z => (rw [sizeLine_eq]; (try simp only [List.length_append, List.length_nil, List.length_cons]); omega)); k_whole; intro r9 h9 F9 N9 l9; (try k_lt l9)))
  k_with "subscriptTail Subscript" => (k_dflt (refine kba_turn (value' := PySem.Expr.Name (PySem.Str.ofString "_") ⟨0, 0, 0, 0⟩) (fun _ => rfl) ?_))
  k_with "subscriptTail Name Slice ref ref" => (k_dflt (refine' slice_tuple ?q36F ?q36N ?q36t ?q36pa ?q36pb ?q36pc ?q36h0 ?q36hno ?q36hz ?q36hsz ?_ ?q36hs ?q36hg; (case q36F => k_asm); (case q36N => k_asm); (case q36t => exact Fr.tup (by k_asm) (by assumption)); (case q36pa => first | exact IsPart.none | exact IsPart.int _ _); (case q36pb => first | exact IsPart.none | exact IsPart.int _ _); (case q36pc => first | exact IsPart.none | exact IsPart.int _ _); (case q36h0 => rfl); (case q36hno => rfl); (case q36hz => with_unfolding_all first | exact (rfl : _ = []) | exact (rfl : _ = [_]) | exact (rfl : _ = [_, _]) | exact (rfl : _ = [_, _, _])); (case q36hsz => (rw [sizeLine_eq]; exact Nat.le_of_ble_eq_true rfl)); (case q36hs => with_unfolding_all rfl); (case q36hg => (intro _; with_unfolding_all rfl)); k_whole; intro r9 h9 F9 N9 l9; (try k_lt l9)))
  k_with "m_sub" => (intro q9 h9; simp only [List.mem_cons, List.mem_append, h9, true_or, or_true])
  k_with "m_rdsub" => (intro b o h; first | exact h | exact Or.inl h | (refine Or.elim h Or.inl (fun h => Or.inr ?_); simp only [List.mem_cons, List.mem_append, h, true_or, or_true]))
  k_with "m_rd" => first
      | exact Rd.int _ _ | exact Rd.str _ _ | exact Rd.bool _ | assumption
      | (refine' Rd.mono ?q39hs ?q39hv; (case q39hv => assumption); (case q39hs => walk_at "m_rdsub"))
      | (refine Rd.tuple (Or.inr (by k_mem)) ?_; walk_at "m_rds")
  k_with "m_rds" => first
      | exact RdAll.nil
      | ((refine RdAll.cons ?_ ?_); (walk_at "m_rd"); (walk_at "m_rds"))
  k_with "call builtin:len" => (k_dflt (refine' len_tupK ?q41k1 ?q41k2 ?q41k3 ?_; (case q41k1 => exact Fr.tup (by k_asm) (by assumption)); (case q41k2 => assumption); (case q41k3 => omega); k_whole))
  k_with "call type:range" => (k_dflt (first | (refine' range1_rows ?q42k1 ?q42k2 ?_; (case q42k1 => k_asm); (case q42k2 => k_asm); k_whole; intro h9 tk9 t9 u9 v9 hr9 F9 N9 hk9) | (refine' range2_rows ?q42k1 ?q42k2 ?_; (case q42k1 => k_asm); (case q42k2 => k_asm); k_whole; intro h9 tk9 t9 u9 v9 hr9 F9 N9 hk9)))
  k_with "subscriptTail Name Name ref int" => (k_dflt (refine' item_sym ?q43k1 ?q43k2 ?q43k3 ?q43k4 ?_; (case q43k1 => exact Fr.tup (by k_asm) (by assumption)); (case q43k4 => assumption); (case q43k2 => omega); (case q43k3 => omega); k_whole))
  k_with "compareOp Eq ref ref" => (k_dflt (refine' list_eq_nil ?y1N ?y1a ?y1b ?y1u ?_; (case y1N => k_asm); (case y1a => k_mem); (case y1b => k_mem); (case y1u => (show _ < 9900; (try dsimp only); omega)); k_whole))
  k_with "m_enterD" => (
      k_dflt (refine' enterC1 ?z3k4 ?z3k5 ?z3kH ?z3k6 ?z3k7 ?z3k8 ?z3k9 ?z3kB ?z3kD ?_ ?z3c2 ?z3c3 ?z3c4; (case z3kH => assumption); (case z3k4 => k_asm); (case z3k5 => k_asm); (case z3k6 => k_is); (case z3k7 => k_is); (case z3k8 => (simp only [recursionLimit]; omega)); (case z3k9 => exact BindsTo.of_eq rfl); (case z3kB => exact rfl); (case z3kD => decide +kernel); (case z3c2 => exact rfl); (case z3c3 => exact rfl); (case z3c4 => exact rfl); k_whole);
      rename Frag.In _ _ => xX; rename Top _ _ _ _ _ _ => xT; clear xX xT)
  k_with "m_enterB" => (
      k_dflt (refine' enterP1 ?z4k4 ?z4k5 ?z4kH ?z4k6 ?z4k7 ?z4k8 ?z4k9 ?z4kB ?_ ?z4c2 ?z4c3 ?z4c4 ?z4c5; (case z4kH => assumption); (case z4k4 => k_asm); (case z4k5 => k_asm); (case z4k6 => k_is); (case z4k7 => k_is); (case z4k8 => (simp only [recursionLimit]; omega)); (case z4k9 => exact BindsTo.of_eq rfl); (case z4c5 => decide); (case z4kB => exact locs rfl); (case z4c2 => exact rfl); (case z4c3 => exact rfl); (case z4c4 => exact rfl); k_whole);
      rename Frag.In _ _ => xX; rename Top _ _ _ _ _ _ => xT; clear xX xT)
  k_with "m_enterG" => (
      k_dflt (refine' enterG ?z5k4 ?z5k5 ?z5kH ?z5F ?z5N ?z5k6 ?z5k7 ?z5k8 ?z5k9 ?z5kB ?_ ?z5c2 ?z5c3 ?z5c4 ?z5c5; (case z5kH => assumption); (case z5F => assumption); (case z5N => assumption); (case z5k4 => k_asm); (case z5k5 => k_asm); (case z5k6 => k_is); (case z5k7 => k_is); (case z5k8 => (simp only [recursionLimit]; omega)); (case z5k9 => exact BindsTo.of_eq rfl); (case z5c5 => decide); (case z5kB => exact locs rfl); (case z5c2 => exact rfl); (case z5c3 => exact rfl); (case z5c4 => exact rfl); k_whole))
  k_with "m_enterGC" => (
      k_dflt (refine' enterGC ?z6k4 ?z6k5 ?z6kH ?z6F ?z6N ?z6k6 ?z6k7 ?z6k8 ?z6k9 ?z6kB ?z6kD ?_ ?z6c2 ?z6c3 ?z6c4; (case z6kH => assumption); (case z6F => assumption); (case z6N => assumption); (case z6k4 => k_asm); (case z6k5 => k_asm); (case z6k6 => k_is); (case z6k7 => k_is); (case z6k8 => (simp only [recursionLimit]; omega)); (case z6k9 => exact BindsTo.of_eq rfl); (case z6kB => exact rfl); (case z6kD => decide +kernel); (case z6c2 => exact rfl); (case z6c3 => exact rfl); (case z6c4 => exact rfl); k_whole))
  k_with "m_enterE" => (
      k_dflt (refine' enterE ?z8k4 ?z8k5 ?z8kH ?z8F ?z8N ?z8k6 ?z8k7 ?z8k8 ?z8k9 ?z8kB ?_ ?z8c2 ?z8c3 ?z8c4 ?z8c5; (case z8kH => assumption); (case z8F => assumption); (case z8N => assumption); (case z8k4 => k_asm); (case z8k5 => k_asm); (case z8k6 => k_is); (case z8k7 => k_is); (case z8k8 => (simp only [recursionLimit]; omega)); (case z8k9 => exact BindsTo.of_eq rfl); (case z8c5 => decide); (case z8kB => exact locs rfl); (case z8c2 => exact rfl); (case z8c3 => exact rfl); (case z8c4 => exact rfl); k_whole))
  k_with "m_enterEC" => (
      k_dflt (refine' enterEC ?z9k4 ?z9k5 ?z9kH ?z9F ?z9N ?z9k6 ?z9k7 ?z9k8 ?z9k9 ?z9kB ?z9kD ?_ ?z9c2 ?z9c3 ?z9c4; (case z9kH => assumption); (case z9F => assumption); (case z9N => assumption); (case z9k4 => k_asm); (case z9k5 => k_asm); (case z9k6 => k_is); (case z9k7 => k_is); (case z9k8 => (simp only [recursionLimit]; omega)); (case z9k9 => exact BindsTo.of_eq rfl); (case z9kB => exact rfl); (case z9kD => decide +kernel); (case z9c2 => exact rfl); (case z9c3 => exact rfl); (case z9c4 => exact rfl); k_whole))
  k_with "m_in" => first
    | with_reducible apply in_hd
    | (with_reducible apply in_l; walk_at "m_in")
    | (with_reducible apply in_r; walk_at "m_in")
    | (with_reducible apply in_tl; walk_at "m_in")
    | apply in_hd
    | assumption
  k_with "m_sub3" => first
    | with_reducible apply sub_id
    | (with_reducible apply sub_l; walk_at "m_sub3")
    | (with_reducible apply sub_r; walk_at "m_sub3")
    | (with_reducible apply sub_tl; walk_at "m_sub3")
  k_with "m_perm2" => ((repeat' (first | with_reducible apply sub_nil | with_reducible apply sub_app | with_reducible apply sub_cons)); all_goals (first | walk_at "m_in" | walk_at "m_sub3"))
  k_with "m_perm" => (intro p hp; simp only [List.cons_append, List.nil_append, List.append_assoc, List.append_nil, List.mem_cons, List.mem_append, List.not_mem_nil, or_false, or_assoc] at hp ⊢; (repeat' (first | (cases hp with | inl hp => ?_ | inr hp => ?_) | fail)); all_goals (repeat (first | apply hp | apply Or.inl hp | apply Or.inr)))
  k_with "m_notin" => first | exact notIn_of2 (by assumption) | (refine notIn_of ?_ ?_ ?_ ?_ ?_ <;> first | omega | assumption)
  k_with "m_off" => (refine Ap.all ?_; simp only [Ap, and_true]; omega)
  k_with "m_front" => first
    | assumption
    | exact rot2 (by assumption)
    | exact rot3 (by assumption)
    | exact rot4 (by assumption)
    | exact rot5 (by assumption)
    | exact rot6 (by assumption)
    | exact rot7 (by assumption)
    | exact rot8 (by assumption)
    | exact rot9 (by assumption)
  k_with "call builtin:list.append" => (k_dflt (refine' append_L ?zaF ?zaN ?zao ?zaz ?_; (case zaF => k_asm); (case zaN => walk_at "m_front"); (case zao => first | k_all | walk_at "m_off"); (case zaz => omega); k_whole; intro h9 F9 N9))
  k_with "compareOp NotIn int ref" => (k_dflt (refine' notin_L ?zbN ?zbm ?zbI ?_; (case zbN => k_asm); (case zbm => k_mem); (case zbI => assumption); k_whole))
  k_with "call builtin:len" => (k_dflt (refine' len_listK ?z7N ?z7l ?z7z ?_; (case z7N => k_asm); (case z7l => k_mem); (case z7z => omega); k_whole))
  trivial
theorem numbers_snoc (p : Pt Nm) : ∀ (l : List (Pt Nm)) (k : Nat), numbers (l ++ [p]) k = ((numbers l k).1 ++ [(p.number (numbers l k).2).1], (p.number (numbers l k).2).2)
  | [], k => by simp [numbers]
  | q :: l, k => by rw [List.cons_append, numbers, numbers_snoc p l, numbers]; rfl
inductive NumJ (D : Addr → Obj → Prop) (a : Addr) (ps : List (Pt Nm)) (k : Nat) : Nat → (Str → Option Value) → List (Addr × Obj) → Prop
  | mk {i : Nat} {m : Str → Option Value} (lf : Addr) (fv : List Value) (nf : Nat) (rest : List (Addr × Obj)) (tk : Tok) : (∀ q ∈ rest, q.1 ≠ lf) → m "particle" = some (.ref a) → m "first" = some (.int ((numbers (ps.take i) k).2 : Nat) tk) → m "found" = some (.ref lf) → RdAll (AndL D rest) fv ((numbers (ps.take i) k).1.map (Pt.data enc2)) → NumJ D a ps k i m ((lf, lstO fv nf) :: rest)
theorem numbered_pure {w : World} {mean : ExcName → Option Value} {mg mb : Str → Option Value} {H : Heap} (RT : Root w mean mg mb H) :
    ∀ n, ∀ p : Pt Nm, p.height < n → p.ok → ∀ k : Nat, Pure w H p.height 166 [p.data enc1, .int k] (.list [(p.number k).1.data enc2, .int (p.number k).2]) := by
  intro n
  induction n with
  | zero => intro p h; exact absurd h (Nat.not_lt_zero _)
  | succ n IH =>
  intro p hpn pok k
  obtain ⟨X, T⟩ := RT
  intro dp un fr gd h₀ L m news D s vs Q E hdp hun hH F N hD hR hret
  obtain ⟨v, vk, rfl, hv, hvk⟩ := RdAll.two hR
  obtain ⟨tk, rfl⟩ := hvk.int_inv
  have hH' : H.StaysIn s.heap := fun b o e => F.keep b o (hH b o e)
  cases p with
  | name x mk =>
    simp only [Pt.data] at hv
    obtain ⟨a, vs, na, rfl, ha, hv⟩ := hv.tuple_inv
    obtain ⟨v0, v1, v2, rfl, hv0, hv1, hv2⟩ := hv.three
    obtain ⟨t0, rfl⟩ := hv0.str_inv
    have hT : IsTup s.heap a #[.str "name" t0, v1, v2] := ⟨_, hD _ _ ha, rfl, _, rfl⟩
    simp only [Pt.number, Pt.data, enc2] at hret
    walk_at "m_enter"
    k_steps
    (refine' fin (w := w) (s := s) (D := D) F N hret ?ha ?hb (ROut.listE ?hc ?hd); (case ha => k_asm); (case hb => k_asm); (case hc => k_mem); (case hd => walk_at "m_rds"))
  | node sq ps mk =>
    simp only [Pt.data] at hv
    obtain ⟨a, vs, na, rfl, ha, hv⟩ := hv.tuple_inv
    obtain ⟨v0, v1, v2, rfl, hv0, hv1, hv2⟩ := hv.three
    obtain ⟨t0, rfl⟩ := hv0.str_inv
    obtain ⟨b, ws, n', rfl, hb, hw⟩ := hv1.tuple_inv
    have hT : IsTup s.heap a #[.str (kindStr sq) t0, .ref b, v2] := ⟨_, hD _ _ ha, rfl, _, rfl⟩
    have hB : IsTup s.heap b ws.toArray := ⟨_, hD _ _ hb, rfl, _, rfl⟩
    rw [Pt.ok] at pok
    obtain ⟨t2, rfl⟩ := hv2.str_inv
    have hlen : ps.length ≤ 3 := by rcases pok.1 with h | h <;> omega
    have hhk := fun q (hq : q ∈ ps) => Pt.height_kid hq (sq := sq) (mk := mk)
    have hwl := hw.length
    rw [List.length_map] at hwl
    simp only [Pt.number, Pt.data] at hret
    k_with "newList" => (k_dflt (refine' newList_L ?zdF ?zdN ?_ ?zdz; (case zdF => k_asm); (case zdN => k_asm); (case zdz => first | exact Nat.zero_le _ | exact Nat.le_of_ble_eq_true rfl); k_whole); intro D9 h9 l9 F9 N9)
    walk_at "m_enter"
    k_steps
    all_goals (first | exact absurd (by assumption) (kindNotName sq) | skip)
    refine' FSrc.seq (tup := true) (its := ws) (n := n') rfl ?hF ?hN (.inl (hD _ _ hb)) ?_
    case hF => k_asm
    case hN => k_asm
    intro I9 off9
    refine FRest.ind (NumJ D a ps k) ?step ?done ?hS₀ ?start
    case hS₀ => exact .inl (hD _ _ hb)
    case start => exact ⟨_, [], 0, [], _, fun _ h => (by cases h), rfl, rfl, rfl, RdAll.nil⟩
    case done =>
      rintro m9 nw h9 tk9 - ⟨lf, fv, nf, rest, tk3, hne, hm1, hm2, hm3, hfv⟩ F9 N9 off9
      have hz : ps.take ws.length = ps := by rw [hwl]; exact List.take_length ..
      rw [hz] at hm2 hfv
      have hfl := hfv.length
      rw [List.length_map, numbers_len] at hfl
      k_with "call type:tuple" => (k_dflt (refine' kde_tupleOf (zs := fv) ?tF ?tN ?tL ?tz rfl ?_; (case tF => k_asm); (case tN => k_asm); (case tL => exact isList_of (by k_asm) (by k_mem)); (case tz => (rw [List.size_toArray]; omega)); k_whole); intro D8 h8 F8 N8 l8)
      k_steps
      rename Fr _ _ _ _ => FZ
      rename News _ _ _ _ => NZ
      refine' fin (w := w) (s := s) (D := D) F N hret FZ NZ (ROut.listE ?hc ?hd)
      case hc => k_mem
      case hd =>
        refine .cons (Rd.tuple (n := 0) (.inr (by k_mem)) (.cons (Rd.str _ _) (.cons (Rd.tuple (n := 0) (.inr (by k_mem)) (hfv.mono fun b o h => h.imp id fun h => ?_)) (.cons (Rd.str _ _) .nil)))) (.cons (Rd.int _ _) .nil)
        k_mem
    case step =>
      rintro i m9 nw v9 oI9 h9 tk9 E9 hi - ⟨lf, fv, nf, rest, tk3, hne, hm1, hm2, hm3, hfv⟩ hP F9 N9 off9
      obtain ⟨q, hq, hqm, hvq, -⟩ := hw.get_map hP
      have hfl := hfv.length
      rw [List.length_map, numbers_len, List.length_take] at hfl
      have htk : ps.take (i + 1) = ps.take i ++ [q] := by rw [List.take_add_one, hq]; rfl
      have hlI : lf ≠ I9 := off9 (lf, lstO fv nf) (.head _)
      k_with "m_call" => (refine' Pure.use (IH q ?hlt (pok.2 q hqm) _) (RdAll.cons hvq (RdAll.one' (Rd.int _ _))) ?hdp ?hun ?hH ?hF ?hN ?hDD ?_; (case hlt => (have := hhk q hqm; omega)); (case hdp => (have := hhk q hqm; simp only [Around.deeper]; omega)); (case hun => (have := hhk q hqm; simp only [Around.deeper]; omega)); (case hH => with_reducible assumption); (case hF => k_asm); (case hN => k_asm); (case hDD => exact fun b o e => Fr.keep (by k_asm) b o (hD b o e)); intro r9 tl9 h9 tk9 F9 N9 hne9 hst9 ho9; obtain ⟨a9, vs9, n9, rfl, hm9, hvs9⟩ := ho9.list_inv; obtain ⟨u9, tt9, rfl, hu9⟩ := hvs9.two_int; (have hoffA : ∀ p ∈ (I9, oI9) :: (rest ++ tl9), p.1 ≠ lf := List.forall_mem_cons.mpr ⟨Ne.symm hlI, List.forall_mem_append.mpr ⟨hne, fun p hp => hne9 (lf, lstO fv nf) (.tail _ (.head _)) p hp⟩⟩); (have hoffI := hne9 (I9, oI9) (.head _)); simp only [List.cons_append, List.nil_append, List.append_assoc] at N9)
      k_steps
      rename Fr _ _ _ _ => FZ
      rename News _ _ _ _ => NZ
      refine FEnd.next FZ NZ ((lf, lstO (fv ++ [u9]) (nf + 1)) :: (rest ++ tl9)) ?perm (List.forall_mem_cons.mpr ⟨hlI, List.forall_mem_append.mpr ⟨fun p hp => off9 p (.tail _ hp), hoffI⟩⟩) (.inl (hD _ _ hb)) ⟨lf, fv ++ [u9], nf + 1, rest ++ tl9, tt9, fun p hp => hoffA p (.tail _ hp), hm1, ?_, hm3, ?_⟩
      case perm => walk_at "m_perm"
      · rw [htk, numbers_snoc]
        rfl
      · rw [htk, numbers_snoc, List.map_append]
        refine RdAll.append (hfv.mono fun b o h => h.imp id fun h => List.mem_append_left _ h) (RdAll.one' (hu9.mono fun b o h => h.imp id fun h => List.mem_append_right _ h))
theorem words_edge : True := by
  w_top off
  k_with_none
  k_with "m_enter" => (
      refine wpAny_call ?_;
      k_dflt (refine' enterP0 ?q0k4 ?q0k5 ?q0kH ?q0k6 ?q0k7 ?q0k8 ?q0k9 ?q0kB ?_ ?q0c2 ?q0c3 ?q0c4 ?q0c5; (case q0kH => assumption); (case q0k4 => k_asm); (case q0k5 => k_asm); (case q0k6 => k_is); (case q0k7 => k_is); (case q0k8 => (simp only [recursionLimit]; omega)); (case q0k9 => exact BindsTo.of_eq rfl); (case q0c5 => decide); (case q0kB => exact locs rfl); (case q0c2 => exact rfl); (case q0c3 => exact rfl); (case q0c4 => exact rfl); k_whole);
      rename Frag.In _ _ => xX; rename Top _ _ _ _ _ _ => xT; clear xX xT;
      intro L' h' tk' F' N' X' T'; (try dsimp only); (try k_fold))
  k_with "m_enter0" => (
      refine wpAny_call ?_;
      k_dflt (refine' enterP0 ?q1k4 ?q1k5 ?q1kH ?q1k6 ?q1k7 ?q1k8 ?q1k9 ?q1kB ?_ ?q1c2 ?q1c3 ?q1c4 ?q1c5; (case q1kH => assumption); (case q1k4 => k_asm); (case q1k5 => k_asm); (case q1k6 => k_is); (case q1k7 => k_is); (case q1k8 => (simp only [recursionLimit]; omega)); (case q1k9 => exact BindsTo.of_eq rfl); (case q1c5 => decide); (case q1kB => exact locs rfl); (case q1c2 => exact rfl); (case q1c3 => exact rfl); (case q1c4 => exact rfl); k_whole);
      rename Frag.In _ _ => xX; rename Top _ _ _ _ _ _ => xT; clear xX xT)
  k_with "m_enterC" => (
      refine wpAny_call ?_;
      k_dflt (refine' enterC0 ?q2k4 ?q2k5 ?q2kH ?q2k6 ?q2k7 ?q2k8 ?q2k9 ?q2kB ?q2kD ?_ ?q2c2 ?q2c3 ?q2c4; (case q2kH => assumption); (case q2k4 => k_asm); (case q2k5 => k_asm); (case q2k6 => k_is); (case q2k7 => k_is); (case q2k8 => (simp only [recursionLimit]; omega)); (case q2k9 => exact BindsTo.of_eq rfl); (case q2kB => exact rfl); (case q2kD => decide +kernel); (case q2c2 => exact rfl); (case q2c3 => exact rfl); (case q2c4 => exact rfl); k_whole);
      rename Frag.In _ _ => xX; rename Top _ _ _ _ _ _ => xT; clear xX xT;
      intro L' h' tk' cells' F' N' Y' X' T'; k_cells Y'; (try simp only [List.cons_append, List.nil_append] at N'); (try dsimp only); (try k_fold))
  k_with "m_enterC0" => (
      refine wpAny_call ?_;
      k_dflt (refine' enterC0 ?q3k4 ?q3k5 ?q3kH ?q3k6 ?q3k7 ?q3k8 ?q3k9 ?q3kB ?q3kD ?_ ?q3c2 ?q3c3 ?q3c4; (case q3kH => assumption); (case q3k4 => k_asm); (case q3k5 => k_asm); (case q3k6 => k_is); (case q3k7 => k_is); (case q3k8 => (simp only [recursionLimit]; omega)); (case q3k9 => exact BindsTo.of_eq rfl); (case q3kB => exact rfl); (case q3kD => decide +kernel); (case q3c2 => exact rfl); (case q3c3 => exact rfl); (case q3c4 => exact rfl); k_whole);
      rename Frag.In _ _ => xX; rename Top _ _ _ _ _ _ => xT; clear xX xT)
  k_with "call ref" => k_dflt (k_extra "m_call")
  k_with "exec Assign cons ListComp" => (k_dflt (refine' comp_assign ?q5kF (emitOne _) ?q5k0 ?q5k1 ?q5k2 ?q5k3 ?q5k4 ?q5k5 ?q5k6 ?q5k7 ?q5k8 ?_; (case q5kF => k_asm); (case q5k0 => exact rfl); (case q5k1 => (intros; rfl)); (case q5k2 => exact rfl); (case q5k3 => with_unfolding_all rfl); (case q5k4 => decide); (case q5k5 => exact rfl); (case q5k6 => decide); (case q5k7 => exact rfl); (case q5k8 => exact rfl); k_whole))
  k_with "eval ListComp" => (k_dflt (refine' comp_eval ?q6kF (emitOne _) ?q6k1 ?q6k3 ?q6k4 ?q6k5 ?q6k6 ?_; (case q6kF => k_asm); (case q6k1 => (intros; rfl)); (case q6k3 => with_unfolding_all rfl); (case q6k4 => decide); (case q6k5 => exact rfl); (case q6k6 => decide); k_whole))
  k_with "exec For Name Subscript cons nil" => (k_dflt (refine' for_rule ?q7kF ?_; (case q7kF => k_asm); k_whole))
  k_with "exec For Name Name cons nil" => (k_dflt (refine' for_rule ?q8kF ?_; (case q8kF => k_asm); k_whole))
  k_with "exec For Name IfExp cons nil" => (k_dflt (refine' for_rule ?q9kF ?_; (case q9kF => k_asm); k_whole))
  k_with "exec For Name Call cons nil" => (k_dflt (refine' for_rule ?q10kF ?_; (case q10kF => k_asm); k_whole))
  k_with "exec For Name ListComp cons nil" => (k_dflt (refine' for_rule ?q11kF ?_; (case q11kF => k_asm); k_whole))
  k_with "exec For Tuple Name cons nil" => (k_dflt (refine' for_rule ?q12kF ?_; (case q12kF => k_asm); k_whole))
  k_with "FSrc" => k_dflt (k_extra "m_fsrc")
  k_with "FRest" => k_dflt (k_extra "m_frest")
  k_with "FEnd" => k_dflt (k_extra "m_fend")
  k_with "CSrc" => k_dflt (k_extra "m_src")
  k_with "CRest" => k_dflt (k_extra "m_rest")
  k_with "CEnd" => k_dflt (k_extra "m_cend")
  k_with "FinA" => (unfold FinA; intro h9 tk9 F9 N9 ne9; (try rw [lst_eq] at N9))
  k_with "FinE" => (unfold FinE; intro h9 tk9 F9 N9 ne9; (try rw [lst_eq] at N9))
  k_with "execs cons Assign cons" => refine wpAny_execs_cons ?_
  k_with "execs cons Assign nil" => refine wpAny_execs_cons ?_
  k_with "execs cons If cons" => refine wpAny_execs_cons ?_
  k_with "execs cons If nil" => refine wpAny_execs_cons ?_
  k_with "execs cons For cons" => refine wpAny_execs_cons ?_
  k_with "execs cons For nil" => refine wpAny_execs_cons ?_
  k_with "execs cons Return cons" => refine wpAny_execs_cons ?_
  k_with "execs cons Return nil" => refine wpAny_execs_cons ?_
  k_with "execs cons Expr cons" => refine wpAny_execs_cons ?_
  k_with "execs cons Expr nil" => refine wpAny_execs_cons ?_
  k_with "ite" => first | (rw [if_neg (by decide +kernel)]) | (rw [if_pos (by decide +kernel)])
  k_with "subscriptTail Name Constant ref int" => (k_dflt (refine' item_tupleT ?q32k1 ?q32k2 ?q32k3 ?q32k4 ?q32k5 ?_; (case q32k1 => exact Fr.tup (by k_asm) (by assumption)); (case q32k2 => decide); (case q32k3 => decide); (case q32k4 => rfl); (case q32k5 => rfl); k_whole))
  k_with "eval Name" => (k_dflt (refine' nameX_L ?q33k1 ?q33k2 ?_; (case q33k1 => k_asm); (case q33k2 => first | exact rfl | assumption); k_whole))
  k_with "binaryOp Add ref ref" => (k_dflt (refine' my_add ?q34F ?q34N ?q34a ?q34b ?q34z ?_; (case q34F => k_asm); (case q34N => k_asm); (case q34a => k_mem); (case q34b => k_mem); (case q34z => (rw [sizeLine_eq]; (try simp only [List.length_append, List.length_nil, List.length_cons]); omega)); k_whole; intro r9 h9 F9 N9 l9; (try k_lt l9)))
  k_with "subscriptTail Subscript" => (k_dflt (refine kba_turn (value' := PySem.Expr.Name (PySem.Str.ofString "_") ⟨0, 0, 0, 0⟩) (fun _ => rfl) ?_))
  k_with "subscriptTail Name Slice ref ref" => (k_dflt (refine' slice_tuple ?q36F ?q36N ?q36t ?q36pa ?q36pb ?q36pc ?q36h0 ?q36hno ?q36hz ?q36hsz ?_ ?q36hs ?q36hg; (case q36F => k_asm); (case q36N => k_asm); (case q36t => exact Fr.tup (by k_asm) (by assumption)); (case q36pa => first | exact IsPart.none | exact IsPart.int _ _); (case q36pb => first | exact IsPart.none | exact IsPart.int _ _); (case q36pc => first | exact IsPart.none | exact IsPart.int _ _); (case q36h0 => rfl); (case q36hno => rfl); (case q36hz => with_unfolding_all first | exact (rfl : _ = []) | exact (rfl : _ = [_]) | exact (rfl : _ = [_, _]) | exact (rfl : _ = [_, _, _])); (case q36hsz => (rw [sizeLine_eq]; exact Nat.le_of_ble_eq_true rfl)); (case q36hs => with_unfolding_all rfl); (case q36hg => (intro _; with_unfolding_all rfl)); k_whole; intro r9 h9 F9 N9 l9; (try k_lt l9)))
  k_with "m_sub" => (intro q9 h9; simp only [List.mem_cons, List.mem_append, h9, true_or, or_true])
  k_with "m_rdsub" => (intro b o h; first | exact h | exact Or.inl h | (refine Or.elim h Or.inl (fun h => Or.inr ?_); simp only [List.mem_cons, List.mem_append, h, true_or, or_true]))
  k_with "m_rd" => first
      | exact Rd.int _ _ | exact Rd.str _ _ | exact Rd.bool _ | assumption
      | (refine' Rd.mono ?q39hs ?q39hv; (case q39hv => assumption); (case q39hs => walk_at "m_rdsub"))
      | (refine Rd.tuple (Or.inr (by k_mem)) ?_; walk_at "m_rds")
  k_with "m_rds" => first
      | exact RdAll.nil
      | ((refine RdAll.cons ?_ ?_); (walk_at "m_rd"); (walk_at "m_rds"))
  k_with "call builtin:len" => (k_dflt (refine' len_tupK ?q41k1 ?q41k2 ?q41k3 ?_; (case q41k1 => exact Fr.tup (by k_asm) (by assumption)); (case q41k2 => assumption); (case q41k3 => omega); k_whole))
  k_with "call type:range" => (k_dflt (first | (refine' range1_rows ?q42k1 ?q42k2 ?_; (case q42k1 => k_asm); (case q42k2 => k_asm); k_whole; intro h9 tk9 t9 u9 v9 hr9 F9 N9 hk9) | (refine' range2_rows ?q42k1 ?q42k2 ?_; (case q42k1 => k_asm); (case q42k2 => k_asm); k_whole; intro h9 tk9 t9 u9 v9 hr9 F9 N9 hk9)))
  k_with "subscriptTail Name Name ref int" => (k_dflt (refine' item_sym ?q43k1 ?q43k2 ?q43k3 ?q43k4 ?_; (case q43k1 => exact Fr.tup (by k_asm) (by assumption)); (case q43k4 => assumption); (case q43k2 => omega); (case q43k3 => omega); k_whole))
  k_with "compareOp Eq ref ref" => (k_dflt (refine' list_eq_nil ?y1N ?y1a ?y1b ?y1u ?_; (case y1N => k_asm); (case y1a => k_mem); (case y1b => k_mem); (case y1u => (show _ < 9900; (try dsimp only); omega)); k_whole))
  k_with "m_enterD" => (
      k_dflt (refine' enterC1 ?z3k4 ?z3k5 ?z3kH ?z3k6 ?z3k7 ?z3k8 ?z3k9 ?z3kB ?z3kD ?_ ?z3c2 ?z3c3 ?z3c4; (case z3kH => assumption); (case z3k4 => k_asm); (case z3k5 => k_asm); (case z3k6 => k_is); (case z3k7 => k_is); (case z3k8 => (simp only [recursionLimit]; omega)); (case z3k9 => exact BindsTo.of_eq rfl); (case z3kB => exact rfl); (case z3kD => decide +kernel); (case z3c2 => exact rfl); (case z3c3 => exact rfl); (case z3c4 => exact rfl); k_whole);
      rename Frag.In _ _ => xX; rename Top _ _ _ _ _ _ => xT; clear xX xT)
  k_with "m_enterB" => (
      k_dflt (refine' enterP1 ?z4k4 ?z4k5 ?z4kH ?z4k6 ?z4k7 ?z4k8 ?z4k9 ?z4kB ?_ ?z4c2 ?z4c3 ?z4c4 ?z4c5; (case z4kH => assumption); (case z4k4 => k_asm); (case z4k5 => k_asm); (case z4k6 => k_is); (case z4k7 => k_is); (case z4k8 => (simp only [recursionLimit]; omega)); (case z4k9 => exact BindsTo.of_eq rfl); (case z4c5 => decide); (case z4kB => exact locs rfl); (case z4c2 => exact rfl); (case z4c3 => exact rfl); (case z4c4 => exact rfl); k_whole);
      rename Frag.In _ _ => xX; rename Top _ _ _ _ _ _ => xT; clear xX xT)
  k_with "m_enterG" => (
      k_dflt (refine' enterG ?z5k4 ?z5k5 ?z5kH ?z5F ?z5N ?z5k6 ?z5k7 ?z5k8 ?z5k9 ?z5kB ?_ ?z5c2 ?z5c3 ?z5c4 ?z5c5; (case z5kH => assumption); (case z5F => assumption); (case z5N => assumption); (case z5k4 => k_asm); (case z5k5 => k_asm); (case z5k6 => k_is); (case z5k7 => k_is); (case z5k8 => (simp only [recursionLimit]; omega)); (case z5k9 => exact BindsTo.of_eq rfl); (case z5c5 => decide); (case z5kB => exact locs rfl); (case z5c2 => exact rfl); (case z5c3 => exact rfl); (case z5c4 => exact rfl); k_whole))
  k_with "m_enterGC" => (
      k_dflt (refine' enterGC ?z6k4 ?z6k5 ?z6kH ?z6F ?z6N ?z6k6 ?z6k7 ?z6k8 ?z6k9 ?z6kB ?z6kD ?_ ?z6c2 ?z6c3 ?z6c4; (case z6kH => assumption); (case z6F => assumption); (case z6N => assumption); (case z6k4 => k_asm); (case z6k5 => k_asm); (case z6k6 => k_is); (case z6k7 => k_is); (case z6k8 => (simp only [recursionLimit]; omega)); (case z6k9 => exact BindsTo.of_eq rfl); (case z6kB => exact rfl); (case z6kD => decide +kernel); (case z6c2 => exact rfl); (case z6c3 => exact rfl); (case z6c4 => exact rfl); k_whole))
  k_with "m_enterE" => (
      k_dflt (refine' enterE ?z8k4 ?z8k5 ?z8kH ?z8F ?z8N ?z8k6 ?z8k7 ?z8k8 ?z8k9 ?z8kB ?_ ?z8c2 ?z8c3 ?z8c4 ?z8c5; (case z8kH => assumption); (case z8F => assumption); (case z8N => assumption); (case z8k4 => k_asm); (case z8k5 => k_asm); (case z8k6 => k_is); (case z8k7 => k_is); (case z8k8 => (simp only [recursionLimit]; omega)); (case z8k9 => exact BindsTo.of_eq rfl); (case z8c5 => decide); (case z8kB => exact locs rfl); (case z8c2 => exact rfl); (case z8c3 => exact rfl); (case z8c4 => exact rfl); k_whole))
  k_with "m_enterEC" => (
      k_dflt (refine' enterEC ?z9k4 ?z9k5 ?z9kH ?z9F ?z9N ?z9k6 ?z9k7 ?z9k8 ?z9k9 ?z9kB ?z9kD ?_ ?z9c2 ?z9c3 ?z9c4; (case z9kH => assumption); (case z9F => assumption); (case z9N => assumption); (case z9k4 => k_asm); (case z9k5 => k_asm); (case z9k6 => k_is); (case z9k7 => k_is); (case z9k8 => (simp only [recursionLimit]; omega)); (case z9k9 => exact BindsTo.of_eq rfl); (case z9kB => exact rfl); (case z9kD => decide +kernel); (case z9c2 => exact rfl); (case z9c3 => exact rfl); (case z9c4 => exact rfl); k_whole))
  k_with "m_in" => first
    | with_reducible apply in_hd
    | (with_reducible apply in_l; walk_at "m_in")
    | (with_reducible apply in_r; walk_at "m_in")
    | (with_reducible apply in_tl; walk_at "m_in")
    | apply in_hd
    | assumption
  k_with "m_sub3" => first
    | with_reducible apply sub_id
    | (with_reducible apply sub_l; walk_at "m_sub3")
    | (with_reducible apply sub_r; walk_at "m_sub3")
    | (with_reducible apply sub_tl; walk_at "m_sub3")
  k_with "m_perm2" => ((repeat' (first | with_reducible apply sub_nil | with_reducible apply sub_app | with_reducible apply sub_cons)); all_goals (first | walk_at "m_in" | walk_at "m_sub3"))
  k_with "m_perm" => (intro p hp; simp only [List.cons_append, List.nil_append, List.append_assoc, List.append_nil, List.mem_cons, List.mem_append, List.not_mem_nil, or_false, or_assoc] at hp ⊢; (repeat' (first | (cases hp with | inl hp => ?_ | inr hp => ?_) | fail)); all_goals (repeat (first | apply hp | apply Or.inl hp | apply Or.inr)))
  k_with "m_notin" => first | exact notIn_of2 (by assumption) | (refine notIn_of ?_ ?_ ?_ ?_ ?_ <;> first | omega | assumption)
  k_with "m_off" => (refine Ap.all ?_; simp only [Ap, and_true]; omega)
  k_with "m_front" => first
    | assumption
    | exact rot2 (by assumption)
    | exact rot3 (by assumption)
    | exact rot4 (by assumption)
    | exact rot5 (by assumption)
    | exact rot6 (by assumption)
    | exact rot7 (by assumption)
    | exact rot8 (by assumption)
    | exact rot9 (by assumption)
  k_with "call builtin:list.append" => (k_dflt (refine' append_L ?zaF ?zaN ?zao ?zaz ?_; (case zaF => k_asm); (case zaN => walk_at "m_front"); (case zao => first | k_all | walk_at "m_off"); (case zaz => omega); k_whole; intro h9 F9 N9))
  k_with "compareOp NotIn int ref" => (k_dflt (refine' notin_L ?zbN ?zbm ?zbI ?_; (case zbN => k_asm); (case zbm => k_mem); (case zbI => assumption); k_whole))
  k_with "call builtin:len" => (k_dflt (refine' len_listK ?z7N ?z7l ?z7z ?_; (case z7N => k_asm); (case z7l => k_mem); (case z7z => omega); k_whole))
  trivial
theorem rdAll_reverse {D : Addr → Obj → Prop} {vs : List Value} {ds : List PyData} (h : RdAll D vs ds) : RdAll D vs.reverse ds.reverse := by
  induction vs generalizing ds with
  | nil => cases h; exact RdAll.nil
  | cons v vs ih =>
    cases h with
    | cons h r => rw [List.reverse_cons, List.reverse_cons]; exact RdAll.append (ih r) (RdAll.one' h)
theorem revSlice {ws : List Value} (h : ws.length = 2 ∨ ws.length = 3) :
    ((Builtin.Slice.sliceAdjust none none ((some (-1) : Option Int).getD 1) (ws.length : Int)).1 == 0 && (some (-1) : Option Int).getD 1 == 1 && Builtin.Slice.slicePlaces (Builtin.Slice.sliceAdjust none none ((some (-1) : Option Int).getD 1) (ws.length : Int)).1 (Builtin.Slice.sliceAdjust none none ((some (-1) : Option Int).getD 1) (ws.length : Int)).2 ((some (-1) : Option Int).getD 1) == ws.length) = false ∧
    ((List.range (Builtin.Slice.slicePlaces (Builtin.Slice.sliceAdjust none none ((some (-1) : Option Int).getD 1) (ws.length : Int)).1 (Builtin.Slice.sliceAdjust none none ((some (-1) : Option Int).getD 1) (ws.length : Int)).2 ((some (-1) : Option Int).getD 1))).filterMap fun (k : Nat) => ws[((Builtin.Slice.sliceAdjust none none ((some (-1) : Option Int).getD 1) (ws.length : Int)).1 + (k : Int) * ((some (-1) : Option Int).getD 1)).toNat]?) = ws.reverse := by
  rcases len23 h with ⟨x, y, rfl⟩ | ⟨x, y, z, rfl⟩
  · exact ⟨rfl, by with_unfolding_all exact (rfl : _ = [y, x])⟩
  · exact ⟨rfl, by with_unfolding_all exact (rfl : _ = [z, y, x])⟩
inductive EdgeJ {α : Type} (D : Addr → Obj → Prop) (enc : α → PyData) (a : Addr) (sq b : Bool) (qs : List (Pt α)) : Nat → (Str → Option Value) → List (Addr × Obj) → Prop
  | mk {i : Nat} {m : Str → Option Value} {nw : List (Addr × Obj)} (lf : Addr) (fv : List Value) (nf : Nat) (acc : List α) : m "particle" = some (.ref a) → m "is_first" = some (.bool b) → m "found" = some (.ref lf) → (lf, lstO fv nf) ∈ nw → RdAll (AndL D nw) fv (acc.map enc) → acc ++ edgeRow sq ((qs.drop i).map fun p => (p.edge b, p.nothing)) = edgeRow sq (qs.map fun p => (p.edge b, p.nothing)) → EdgeJ D enc a sq b qs i m nw
/-- what a loop's source gives: a tuple of the items -/
inductive SrcTo (h₀ : Heap) (L : Addr) (m : Str → Option Value) (J : Addr → List Value → Nat → List (Addr × Obj) → Prop) (s : Shared) : Value → Shared → Prop
  | mk {r : Addr} {its : List Value} {n : Nat} {nw : List (Addr × Obj)} {h : Heap} {tk : Nat} : Fr h₀ L h m → News h₀ L h nw → J r its n nw → SrcTo h₀ L m J s (.ref r) { s with heap := h, toks := tk }
theorem SrcTo.next {prog : Program} {w : World} {A : Around} {h₀ : Heap} {L : Addr} {m : Str → Option Value} {env : Env} {target iter : Expr} {body : List Stmt} {Q : Flow → Shared → Prop} {E : Value → Shared → Prop} {s : Shared} (J : Addr → List Value → Nat → List (Addr × Obj) → Prop)
    (h : wpAny (model prog w) A (eval iter env) (SrcTo h₀ L m J s) E s)
    (k : ∀ r its n nw h tk, Fr h₀ L h m → News h₀ L h nw → J r its n nw → FSrc prog w A h₀ L m env target body Q (.ref r) { s with heap := h, toks := tk }) :
    wpAny (model prog w) A (eval iter env) (FSrc prog w A h₀ L m env target body Q) E s :=
  wpAny_mono h (fun _ _ x => by obtain ⟨F, N, j⟩ := x; exact k _ _ _ _ _ _ F N j) fun _ _ e => e
theorem SrcTo.hold {prog : Program} {w : World} {A : Around} {h₀ : Heap} {L : Addr} {m : Str → Option Value} {env : Env} {target : Expr} {body : List Stmt} {Q : Flow → Shared → Prop} {E : Value → Shared → Prop} {s : Shared} {t : Sem Value}
    (h : Hold (wpAny (model prog w) A t (FSrc prog w A h₀ L m env target body Q) E s)) : wpAny (model prog w) A t (FSrc prog w A h₀ L m env target body Q) E s := h
theorem edge_pure {w : World} {mean : ExcName → Option Value} {mg mb : Str → Option Value} {H : Heap} (RT : Root w mean mg mb H) {α : Type} (enc : α → PyData) :
    ∀ n, ∀ p : Pt α, p.height < n → p.ok → p.leaves ≤ 1000 → ∀ b : Bool, Pure w H p.height 178 [p.data enc, .bool b] (.list ((p.edge b).map enc)) := by
  intro n
  induction n with
  | zero => intro p h; exact absurd h (Nat.not_lt_zero _)
  | succ n IH =>
  intro p hpn pok hlv b
  have NP := nothing_pure RT enc
  obtain ⟨X, T⟩ := RT
  intro dp un fr gd h₀ L m news D s vs Q E hdp hun hH F N hD hR hret
  obtain ⟨v, vb, rfl, hv, hvb⟩ := RdAll.two hR
  obtain rfl := hvb.bool_inv
  have hH' : H.StaysIn s.heap := fun b o e => F.keep b o (hH b o e)
  cases p with
  | name x mk =>
    simp only [Pt.data] at hv
    obtain ⟨a, vs, na, rfl, ha, hv⟩ := hv.tuple_inv
    obtain ⟨v0, v1, v2, rfl, hv0, hv1, hv2⟩ := hv.three
    obtain ⟨t0, rfl⟩ := hv0.str_inv
    have hT : IsTup s.heap a #[.str "name" t0, v1, v2] := ⟨_, hD _ _ ha, rfl, _, rfl⟩
    simp only [Pt.edge, List.map_cons, List.map_nil] at hret
    walk_at "m_enter"
    k_steps
    (refine' fin (w := w) (s := s) (D := D) F N hret ?ha ?hb (ROut.listE ?hc ?hd); (case ha => k_asm); (case hb => k_asm); (case hc => k_mem); (case hd => walk_at "m_rds"))
  | node sq ps mk =>
    simp only [Pt.data] at hv
    obtain ⟨a, vs, na, rfl, ha, hv⟩ := hv.tuple_inv
    obtain ⟨v0, v1, v2, rfl, hv0, hv1, hv2⟩ := hv.three
    obtain ⟨t0, rfl⟩ := hv0.str_inv
    obtain ⟨a1, ws, n', rfl, hb, hw⟩ := hv1.tuple_inv
    have hT : IsTup s.heap a #[.str (kindStr sq) t0, .ref a1, v2] := ⟨_, hD _ _ ha, rfl, _, rfl⟩
    have hB : IsTup s.heap a1 ws.toArray := ⟨_, hD _ _ hb, rfl, _, rfl⟩
    rw [Pt.ok] at pok
    have hlvk := fun q (hq : q ∈ ps) => Nat.le_trans (Pt.leaves_kid hq (sq := sq) (mk := mk)) hlv
    have hhk := fun q (hq : q ∈ ps) => Pt.height_kid hq (sq := sq) (mk := mk)
    have hEL : ((Pt.node sq ps mk).edge b).length ≤ 1000 := Nat.le_trans (Pt.edge_len b _ _ (Nat.lt_succ_self _)) hlv
    have hlen : ps.length ≤ 3 := by rcases pok.1 with h | h <;> omega
    rw [Pt.edge] at hret hEL
    k_with "m_call" => (refine' Pure.use (IH _ ?hlt ?hok ?hlv _) (RdAll.cons ?hR (RdAll.one' (Rd.bool _))) ?hdp ?hun ?hH ?hF ?hN ?hDD ?_; (case hR => with_reducible assumption); (case hlt => (have := hhk _ hqm; omega)); (case hok => exact pok.2 _ hqm); (case hlv => exact hlvk _ hqm); (case hdp => (have := hhk _ hqm; simp only [Around.deeper]; omega)); (case hun => (have := hhk _ hqm; simp only [Around.deeper]; omega)); (case hH => with_reducible assumption); (case hF => k_asm); (case hN => k_asm); (case hDD => exact fun b o e => Fr.keep (by k_asm) b o (hD b o e)); intro r9 tl9 h9 tk9 F9 N9 hne9 hst9 ho9; obtain ⟨a9, vs9, n9, rfl, hm9, hvs9⟩ := ho9.list_inv; have hl9 := hvs9.length; simp only [List.length_map] at hl9; simp only [List.forall_mem_cons] at hne9; (repeat (obtain ⟨hq9, hne9⟩ := hne9)); simp only [List.cons_append, List.nil_append, List.append_assoc] at N9)
    k_with "m_call" => (refine' Pure.use (NP _ _ (Nat.lt_succ_self _) ?hok) (RdAll.one' ?hR) ?hdp ?hun ?hH ?hF ?hN ?hDD ?_; (case hR => with_reducible assumption); (case hok => exact pok.2 _ hqm); (case hdp => (have := hhk _ hqm; simp only [Around.deeper]; omega)); (case hun => (have := hhk _ hqm; simp only [Around.deeper]; omega)); (case hH => with_reducible assumption); (case hF => k_asm); (case hN => k_asm); (case hDD => exact fun b o e => Fr.keep (by k_asm) b o (hD b o e)); intro r9 tl9 h9 tk9 F9 N9 hne9 hst9 ho9; obtain rfl := ho9.bool_inv; simp only [List.forall_mem_cons] at hne9; (repeat (obtain ⟨hq9, hne9⟩ := hne9)); simp only [List.cons_append, List.nil_append, List.append_assoc] at N9)
    have hw23 : ws.length = 2 ∨ ws.length = 3 := by rw [hw.length, List.length_map]; exact pok.1
    have hrev := revSlice hw23
    obtain ⟨qs, hqs0⟩ : ∃ qs, qs = if b then ps else ps.reverse := ⟨_, rfl⟩
    have hqs : ∀ q ∈ qs, q ∈ ps := fun q h => by rw [hqs0] at h; cases b; exact List.mem_reverse.mp h; exact h
    have he : (if b = true then ps.map fun p => (p.edge b, p.nothing) else (ps.map fun p => (p.edge b, p.nothing)).reverse) = qs.map fun p => (p.edge b, p.nothing) := by
      rw [hqs0]; cases b
      · exact List.map_reverse.symm
      · rfl
    rw [he] at hret hEL
    k_with "subscriptTail Name Slice ref ref" => (k_dflt (refine' slice_tuple (lo := none) (hi := none) (st := some (-1)) (zs := ws.reverse) ?q36F ?q36N ?q36t IsPart.none IsPart.none (IsPart.int _ _) rfl hrev.1 hrev.2 ?q36hsz ?_ ?q36hs ?q36hg; (case q36F => k_asm); (case q36N => k_asm); (case q36t => exact Fr.tup (by k_asm) hB); (case q36hsz => (rw [sizeLine_eq, List.length_reverse]; omega)); (case q36hs => with_unfolding_all rfl); (case q36hg => (intro _; with_unfolding_all rfl)); k_whole; intro r9 h9 F9 N9 l9; (try k_lt l9)))
    k_with "eval IfExp" => (apply SrcTo.hold)
    walk_at "m_enter"
    k_steps
    all_goals (first | exact absurd (by assumption) (kindNotName sq) | skip)
    unfold Hold
    rename_i lf _ _ _ _ _
    refine SrcTo.next (fun r its n nw => (lf, lstO [] 0) ∈ nw ∧ SeqSrc s.heap r true its n nw ∧ RdAll D its (qs.map (Pt.data enc))) ?src ?rest
    case src =>
      k_steps
      · refine' SrcTo.mk (its := ws) (n := n') ?sa ?sb ⟨?sc, .inl (hD _ _ hb), ?se⟩
        case sa => k_asm
        case sb => k_asm
        case sc => k_mem
        case se => rw [hqs0, if_pos (by assumption)]; exact hw
      · refine' SrcTo.mk (its := ws.reverse) (n := 0) ?ta ?tb ⟨?tc, .inr ?td, ?te⟩
        case ta => k_asm
        case tb => k_asm
        case tc => k_mem
        case td => k_mem
        case te => rw [hqs0, if_neg (by rw [(by assumption : b = false)]; decide), List.map_reverse]; exact rdAll_reverse hw
    case rest =>
      rintro r its n2 nw h tk F9 N9 ⟨hlf, hsrc0, hqw⟩
      refine' FSrc.seq (tup := true) (its := its) (n := n2) rfl F9 N9 hsrc0 ?_
      intro I9 off9
      refine FRest.ind (EdgeJ D enc a sq b qs) ?step ?done hsrc0 ?start
      case start => exact ⟨_, [], 0, [], rfl, rfl, rfl, hlf, RdAll.nil, by rw [List.drop_zero]; rfl⟩
      case done =>
        rintro m9 nw h9 tk9 hsrc ⟨lf, fv, nf, acc, hm1, hm2, hm3, hmf, hfv, hacc⟩ F9 N9 off9
        k_steps
        dsimp only
        have hz : qs.drop its.length = [] := by rw [hqw.length, List.length_map]; exact List.drop_length ..
        rw [hz, List.map_nil, edgeRow, List.append_nil] at hacc
        rw [← hacc] at hret
        (refine' fin (w := w) (s := s) (D := D) F N hret ?ha ?hb (ROut.listE ?hc ?hd); (case ha => k_asm); (case hb => k_asm); (case hc => exact hmf); (case hd => exact hfv))
      case step =>
        rintro i m9 nw v9 oI9 h9 tk9 E9 hi hsrc ⟨lf, fv, nf, acc, hm1, hm2, hm3, hmf, hfv, hacc⟩ hP F9 N9 off9
        obtain ⟨q, hq, hqm', hvq, hdrop⟩ := hqw.get_map hP
        have hqm : q ∈ ps := hqs _ hqm'
        rw [hdrop, List.map_cons, edgeRow] at hacc
        have hfl := hfv.length
        rw [List.length_map] at hfl
        have hal := congrArg List.length hacc
        simp only [List.length_append] at hal
        k_steps
        all_goals first
          | (have e : (sq && !q.nothing) = true := by rw [kindSeq (sq := sq) (by assumption), (by assumption : q.nothing = false)]; rfl
             rw [if_pos e, List.append_nil] at hacc
             rw [← hacc] at hret
             show Q _ _
             (refine' fin (w := w) (s := s) (D := D) F N hret ?ha ?hb (ROut.listE ?hc ?hd); (case ha => k_asm); (case hb => k_asm); (case hc => k_mem); (case hd => (rw [List.map_append]; exact RdAll.append (RdAll.mono (by walk_at "m_rdsub") hfv) (RdAll.mono (by walk_at "m_rdsub") hvs9)))))
          | (have e : (sq && !q.nothing) = false := by first | (rw [kindSeqN (sq := sq) (by assumption)]; rfl) | (rw [(by assumption : q.nothing = true)]; cases sq <;> rfl)
             rw [if_neg (by rw [e]; decide)] at hacc
             refine' FEnd.next1 ?hF ?hN ?hoff ?hS ?hK
             case hF => k_asm
             case hN => k_asm
             case hoff => k_all
             case hS => exact hsrc.more (by walk_at "m_sub")
             case hK => exact ⟨_, fv ++ vs9, 0, acc ++ q.edge b, hm1, hm2, rfl, by k_mem, by (rw [List.map_append]; exact RdAll.append (RdAll.mono (by walk_at "m_rdsub") hfv) (RdAll.mono (by walk_at "m_rdsub") hvs9)), by (rw [List.append_assoc]; exact hacc)⟩)
theorem words_clashes : True := by
  w_top off
  k_with_none
  k_with "m_enter" => (
      refine wpAny_call ?_;
      k_dflt (refine' enterP0 ?q0k4 ?q0k5 ?q0kH ?q0k6 ?q0k7 ?q0k8 ?q0k9 ?q0kB ?_ ?q0c2 ?q0c3 ?q0c4 ?q0c5; (case q0kH => assumption); (case q0k4 => k_asm); (case q0k5 => k_asm); (case q0k6 => k_is); (case q0k7 => k_is); (case q0k8 => (simp only [recursionLimit]; omega)); (case q0k9 => exact BindsTo.of_eq rfl); (case q0c5 => decide); (case q0kB => exact locs rfl); (case q0c2 => exact rfl); (case q0c3 => exact rfl); (case q0c4 => exact rfl); k_whole);
      rename Frag.In _ _ => xX; rename Top _ _ _ _ _ _ => xT; clear xX xT;
      intro L' h' tk' F' N' X' T'; (try dsimp only); (try k_fold))
  k_with "m_enter0" => (
      refine wpAny_call ?_;
      k_dflt (refine' enterP0 ?q1k4 ?q1k5 ?q1kH ?q1k6 ?q1k7 ?q1k8 ?q1k9 ?q1kB ?_ ?q1c2 ?q1c3 ?q1c4 ?q1c5; (case q1kH => assumption); (case q1k4 => k_asm); (case q1k5 => k_asm); (case q1k6 => k_is); (case q1k7 => k_is); (case q1k8 => (simp only [recursionLimit]; omega)); (case q1k9 => exact BindsTo.of_eq rfl); (case q1c5 => decide); (case q1kB => exact locs rfl); (case q1c2 => exact rfl); (case q1c3 => exact rfl); (case q1c4 => exact rfl); k_whole);
      rename Frag.In _ _ => xX; rename Top _ _ _ _ _ _ => xT; clear xX xT)
  k_with "m_enterC" => (
      refine wpAny_call ?_;
      k_dflt (refine' enterC0 ?q2k4 ?q2k5 ?q2kH ?q2k6 ?q2k7 ?q2k8 ?q2k9 ?q2kB ?q2kD ?_ ?q2c2 ?q2c3 ?q2c4; (case q2kH => assumption); (case q2k4 => k_asm); (case q2k5 => k_asm); (case q2k6 => k_is); (case q2k7 => k_is); (case q2k8 => (simp only [recursionLimit]; omega)); (case q2k9 => exact BindsTo.of_eq rfl); (case q2kB => exact rfl); (case q2kD => decide +kernel); (case q2c2 => exact rfl); (case q2c3 => exact rfl); (case q2c4 => exact rfl); k_whole);
      rename Frag.In _ _ => xX; rename Top _ _ _ _ _ _ => xT; clear xX xT;
      intro L' h' tk' cells' F' N' Y' X' T'; k_cells Y'; (try simp only [List.cons_append, List.nil_append] at N'); (try dsimp only); (try k_fold))
  k_with "m_enterC0" => (
      refine wpAny_call ?_;
      k_dflt (refine' enterC0 ?q3k4 ?q3k5 ?q3kH ?q3k6 ?q3k7 ?q3k8 ?q3k9 ?q3kB ?q3kD ?_ ?q3c2 ?q3c3 ?q3c4; (case q3kH => assumption); (case q3k4 => k_asm); (case q3k5 => k_asm); (case q3k6 => k_is); (case q3k7 => k_is); (case q3k8 => (simp only [recursionLimit]; omega)); (case q3k9 => exact BindsTo.of_eq rfl); (case q3kB => exact rfl); (case q3kD => decide +kernel); (case q3c2 => exact rfl); (case q3c3 => exact rfl); (case q3c4 => exact rfl); k_whole);
      rename Frag.In _ _ => xX; rename Top _ _ _ _ _ _ => xT; clear xX xT)
  k_with "call ref" => k_dflt (k_extra "m_call")
  k_with "exec Assign cons ListComp" => (k_dflt (refine' comp_assign ?q5kF (emitOne _) ?q5k0 ?q5k1 ?q5k2 ?q5k3 ?q5k4 ?q5k5 ?q5k6 ?q5k7 ?q5k8 ?_; (case q5kF => k_asm); (case q5k0 => exact rfl); (case q5k1 => (intros; rfl)); (case q5k2 => exact rfl); (case q5k3 => with_unfolding_all rfl); (case q5k4 => decide); (case q5k5 => exact rfl); (case q5k6 => decide); (case q5k7 => exact rfl); (case q5k8 => exact rfl); k_whole))
  k_with "eval ListComp" => (k_dflt (refine' comp_eval ?q6kF (emitOne _) ?q6k1 ?q6k3 ?q6k4 ?q6k5 ?q6k6 ?_; (case q6kF => k_asm); (case q6k1 => (intros; rfl)); (case q6k3 => with_unfolding_all rfl); (case q6k4 => decide); (case q6k5 => exact rfl); (case q6k6 => decide); k_whole))
  k_with "exec For Name Subscript cons nil" => (k_dflt (refine' for_rule ?q7kF ?_; (case q7kF => k_asm); k_whole))
  k_with "exec For Name Name cons nil" => (k_dflt (refine' for_rule ?q8kF ?_; (case q8kF => k_asm); k_whole))
  k_with "exec For Name IfExp cons nil" => (k_dflt (refine' for_rule ?q9kF ?_; (case q9kF => k_asm); k_whole))
  k_with "exec For Name Call cons nil" => (k_dflt (refine' for_rule ?q10kF ?_; (case q10kF => k_asm); k_whole))
  k_with "exec For Name ListComp cons nil" => (k_dflt (refine' for_rule ?q11kF ?_; (case q11kF => k_asm); k_whole))
  k_with "exec For Tuple Name cons nil" => (k_dflt (refine' for_rule ?q12kF ?_; (case q12kF => k_asm); k_whole))
  k_with "FSrc" => k_dflt (k_extra "m_fsrc")
  k_with "FRest" => k_dflt (k_extra "m_frest")
  k_with "FEnd" => k_dflt (k_extra "m_fend")
  k_with "CSrc" => k_dflt (k_extra "m_src")
  k_with "CRest" => k_dflt (k_extra "m_rest")
  k_with "CEnd" => k_dflt (k_extra "m_cend")
  k_with "FinA" => (unfold FinA; intro h9 tk9 F9 N9 ne9; (try rw [lst_eq] at N9))
  k_with "FinE" => (unfold FinE; intro h9 tk9 F9 N9 ne9; (try rw [lst_eq] at N9))
  k_with "execs cons Assign cons" => refine wpAny_execs_cons ?_
  k_with "execs cons Assign nil" => refine wpAny_execs_cons ?_
  k_with "execs cons If cons" => refine wpAny_execs_cons ?_
  k_with "execs cons If nil" => refine wpAny_execs_cons ?_
  k_with "execs cons For cons" => refine wpAny_execs_cons ?_
  k_with "execs cons For nil" => refine wpAny_execs_cons ?_
  k_with "execs cons Return cons" => refine wpAny_execs_cons ?_
  k_with "execs cons Return nil" => refine wpAny_execs_cons ?_
  k_with "execs cons Expr cons" => refine wpAny_execs_cons ?_
  k_with "execs cons Expr nil" => refine wpAny_execs_cons ?_
  k_with "ite" => first | (rw [if_neg (by decide +kernel)]) | (rw [if_pos (by decide +kernel)])
  k_with "subscriptTail Name Constant ref int" => (k_dflt (refine' item_tupleT ?q32k1 ?q32k2 ?q32k3 ?q32k4 ?q32k5 ?_; (case q32k1 => exact Fr.tup (by k_asm) (by assumption)); (case q32k2 => decide); (case q32k3 => decide); (case q32k4 => rfl); (case q32k5 => rfl); k_whole))
  k_with "eval Name" => (k_dflt (refine' nameX_L ?q33k1 ?q33k2 ?_; (case q33k1 => k_asm); (case q33k2 => first | exact rfl | assumption); k_whole))
  k_with "binaryOp Add ref ref" => (k_dflt (refine' my_add ?q34F ?q34N ?q34a ?q34b ?q34z ?_; (case q34F => k_asm); (case q34N => k_asm); (case q34a => k_mem); (case q34b => k_mem); (case q34z => (rw [sizeLine_eq]; (try simp only [List.length_append, List.length_nil, List.length_cons]); omega)); k_whole; intro r9 h9 F9 N9 l9; (try k_lt l9)))
  k_with "subscriptTail Subscript" => (k_dflt (refine kba_turn (value' := PySem.Expr.Name (PySem.Str.ofString "_") ⟨0, 0, 0, 0⟩) (fun _ => rfl) ?_))
  k_with "subscriptTail Name Slice ref ref" => (k_dflt (refine' slice_tuple ?q36F ?q36N ?q36t ?q36pa ?q36pb ?q36pc ?q36h0 ?q36hno ?q36hz ?q36hsz ?_ ?q36hs ?q36hg; (case q36F => k_asm); (case q36N => k_asm); (case q36t => exact Fr.tup (by k_asm) (by assumption)); (case q36pa => first | exact IsPart.none | exact IsPart.int _ _); (case q36pb => first | exact IsPart.none | exact IsPart.int _ _); (case q36pc => first | exact IsPart.none | exact IsPart.int _ _); (case q36h0 => rfl); (case q36hno => rfl); (case q36hz => with_unfolding_all first | exact (rfl : _ = []) | exact (rfl : _ = [_]) | exact (rfl : _ = [_, _]) | exact (rfl : _ = [_, _, _])); (case q36hsz => (rw [sizeLine_eq]; exact Nat.le_of_ble_eq_true rfl)); (case q36hs => with_unfolding_all rfl); (case q36hg => (intro _; with_unfolding_all rfl)); k_whole; intro r9 h9 F9 N9 l9; (try k_lt l9)))
  k_with "m_sub" => (intro q9 h9; simp only [List.mem_cons, List.mem_append, h9, true_or, or_true])
  k_with "m_rdsub" => (intro b o h; first | exact h | exact Or.inl h | (refine Or.elim h Or.inl (fun h => Or.inr ?_); simp only [List.mem_cons, List.mem_append, h, true_or, or_true]))
  k_with "m_rd" => first
      | exact Rd.int _ _ | exact Rd.str _ _ | exact Rd.bool _ | assumption
      | (refine' Rd.mono ?q39hs ?q39hv; (case q39hv => assumption); (case q39hs => walk_at "m_rdsub"))
      | (refine Rd.tuple (Or.inr (by k_mem)) ?_; walk_at "m_rds")
  k_with "m_rds" => first
      | exact RdAll.nil
      | ((refine RdAll.cons ?_ ?_); (walk_at "m_rd"); (walk_at "m_rds"))
  k_with "call builtin:len" => (k_dflt (refine' len_tupK ?q41k1 ?q41k2 ?q41k3 ?_; (case q41k1 => exact Fr.tup (by k_asm) (by assumption)); (case q41k2 => assumption); (case q41k3 => omega); k_whole))
  k_with "call type:range" => (k_dflt (first | (refine' range1_rows ?q42k1 ?q42k2 ?_; (case q42k1 => k_asm); (case q42k2 => k_asm); k_whole; intro h9 tk9 t9 u9 v9 hr9 F9 N9 hk9) | (refine' range2_rows ?q42k1 ?q42k2 ?_; (case q42k1 => k_asm); (case q42k2 => k_asm); k_whole; intro h9 tk9 t9 u9 v9 hr9 F9 N9 hk9)))
  k_with "subscriptTail Name Name ref int" => (k_dflt (refine' item_sym ?q43k1 ?q43k2 ?q43k3 ?q43k4 ?_; (case q43k1 => exact Fr.tup (by k_asm) (by assumption)); (case q43k4 => assumption); (case q43k2 => omega); (case q43k3 => omega); k_whole))
  k_with "compareOp Eq ref ref" => (k_dflt (refine' list_eq_nil ?y1N ?y1a ?y1b ?y1u ?_; (case y1N => k_asm); (case y1a => k_mem); (case y1b => k_mem); (case y1u => (show _ < 9900; (try dsimp only); omega)); k_whole))
  k_with "m_enterD" => (
      k_dflt (refine' enterC1 ?z3k4 ?z3k5 ?z3kH ?z3k6 ?z3k7 ?z3k8 ?z3k9 ?z3kB ?z3kD ?_ ?z3c2 ?z3c3 ?z3c4; (case z3kH => assumption); (case z3k4 => k_asm); (case z3k5 => k_asm); (case z3k6 => k_is); (case z3k7 => k_is); (case z3k8 => (simp only [recursionLimit]; omega)); (case z3k9 => exact BindsTo.of_eq rfl); (case z3kB => exact rfl); (case z3kD => decide +kernel); (case z3c2 => exact rfl); (case z3c3 => exact rfl); (case z3c4 => exact rfl); k_whole);
      rename Frag.In _ _ => xX; rename Top _ _ _ _ _ _ => xT; clear xX xT)
  k_with "m_enterB" => (
      k_dflt (refine' enterP1 ?z4k4 ?z4k5 ?z4kH ?z4k6 ?z4k7 ?z4k8 ?z4k9 ?z4kB ?_ ?z4c2 ?z4c3 ?z4c4 ?z4c5; (case z4kH => assumption); (case z4k4 => k_asm); (case z4k5 => k_asm); (case z4k6 => k_is); (case z4k7 => k_is); (case z4k8 => (simp only [recursionLimit]; omega)); (case z4k9 => exact BindsTo.of_eq rfl); (case z4c5 => decide); (case z4kB => exact locs rfl); (case z4c2 => exact rfl); (case z4c3 => exact rfl); (case z4c4 => exact rfl); k_whole);
      rename Frag.In _ _ => xX; rename Top _ _ _ _ _ _ => xT; clear xX xT)
  k_with "m_enterG" => (
      k_dflt (refine' enterG ?z5k4 ?z5k5 ?z5kH ?z5F ?z5N ?z5k6 ?z5k7 ?z5k8 ?z5k9 ?z5kB ?_ ?z5c2 ?z5c3 ?z5c4 ?z5c5; (case z5kH => assumption); (case z5F => assumption); (case z5N => assumption); (case z5k4 => k_asm); (case z5k5 => k_asm); (case z5k6 => k_is); (case z5k7 => k_is); (case z5k8 => (simp only [recursionLimit]; omega)); (case z5k9 => exact BindsTo.of_eq rfl); (case z5c5 => decide); (case z5kB => exact locs rfl); (case z5c2 => exact rfl); (case z5c3 => exact rfl); (case z5c4 => exact rfl); k_whole))
  k_with "m_enterGC" => (
      k_dflt (refine' enterGC ?z6k4 ?z6k5 ?z6kH ?z6F ?z6N ?z6k6 ?z6k7 ?z6k8 ?z6k9 ?z6kB ?z6kD ?_ ?z6c2 ?z6c3 ?z6c4; (case z6kH => assumption); (case z6F => assumption); (case z6N => assumption); (case z6k4 => k_asm); (case z6k5 => k_asm); (case z6k6 => k_is); (case z6k7 => k_is); (case z6k8 => (simp only [recursionLimit]; omega)); (case z6k9 => exact BindsTo.of_eq rfl); (case z6kB => exact rfl); (case z6kD => decide +kernel); (case z6c2 => exact rfl); (case z6c3 => exact rfl); (case z6c4 => exact rfl); k_whole))
  k_with "m_enterE" => (
      k_dflt (refine' enterE ?z8k4 ?z8k5 ?z8kH ?z8F ?z8N ?z8k6 ?z8k7 ?z8k8 ?z8k9 ?z8kB ?_ ?z8c2 ?z8c3 ?z8c4 ?z8c5; (case z8kH => assumption); (case z8F => assumption); (case z8N => assumption); (case z8k4 => k_asm); (case z8k5 => k_asm); (case z8k6 => k_is); (case z8k7 => k_is); (case z8k8 => (simp only [recursionLimit]; omega)); (case z8k9 => exact BindsTo.of_eq rfl); (case z8c5 => decide); (case z8kB => exact locs rfl); (case z8c2 => exact rfl); (case z8c3 => exact rfl); (case z8c4 => exact rfl); k_whole))
  k_with "m_enterEC" => (
      k_dflt (refine' enterEC ?z9k4 ?z9k5 ?z9kH ?z9F ?z9N ?z9k6 ?z9k7 ?z9k8 ?z9k9 ?z9kB ?z9kD ?_ ?z9c2 ?z9c3 ?z9c4; (case z9kH => assumption); (case z9F => assumption); (case z9N => assumption); (case z9k4 => k_asm); (case z9k5 => k_asm); (case z9k6 => k_is); (case z9k7 => k_is); (case z9k8 => (simp only [recursionLimit]; omega)); (case z9k9 => exact BindsTo.of_eq rfl); (case z9kB => exact rfl); (case z9kD => decide +kernel); (case z9c2 => exact rfl); (case z9c3 => exact rfl); (case z9c4 => exact rfl); k_whole))
  k_with "m_in" => first
    | with_reducible apply in_hd
    | (with_reducible apply in_l; walk_at "m_in")
    | (with_reducible apply in_r; walk_at "m_in")
    | (with_reducible apply in_tl; walk_at "m_in")
    | apply in_hd
    | assumption
  k_with "m_sub3" => first
    | with_reducible apply sub_id
    | (with_reducible apply sub_l; walk_at "m_sub3")
    | (with_reducible apply sub_r; walk_at "m_sub3")
    | (with_reducible apply sub_tl; walk_at "m_sub3")
  k_with "m_perm2" => ((repeat' (first | with_reducible apply sub_nil | with_reducible apply sub_app | with_reducible apply sub_cons)); all_goals (first | walk_at "m_in" | walk_at "m_sub3"))
  k_with "m_perm" => (intro p hp; simp only [List.cons_append, List.nil_append, List.append_assoc, List.append_nil, List.mem_cons, List.mem_append, List.not_mem_nil, or_false, or_assoc] at hp ⊢; (repeat' (first | (cases hp with | inl hp => ?_ | inr hp => ?_) | fail)); all_goals (repeat (first | apply hp | apply Or.inl hp | apply Or.inr)))
  k_with "m_notin" => first | exact notIn_of2 (by assumption) | (refine notIn_of ?_ ?_ ?_ ?_ ?_ <;> first | omega | assumption)
  k_with "m_off" => (refine Ap.all ?_; simp only [Ap, and_true]; omega)
  k_with "m_front" => first
    | assumption
    | exact rot2 (by assumption)
    | exact rot3 (by assumption)
    | exact rot4 (by assumption)
    | exact rot5 (by assumption)
    | exact rot6 (by assumption)
    | exact rot7 (by assumption)
    | exact rot8 (by assumption)
    | exact rot9 (by assumption)
  k_with "call builtin:list.append" => (k_dflt (refine' append_L ?zaF ?zaN ?zao ?zaz ?_; (case zaF => k_asm); (case zaN => walk_at "m_front"); (case zao => first | k_all | walk_at "m_off"); (case zaz => omega); k_whole; intro h9 F9 N9))
  k_with "compareOp NotIn int ref" => (k_dflt (refine' notin_L ?zbN ?zbm ?zbI ?_; (case zbN => k_asm); (case zbm => k_mem); (case zbI => assumption); k_whole))
  k_with "call builtin:len" => (k_dflt (refine' len_listK ?z7N ?z7l ?z7z ?_; (case z7N => k_asm); (case z7l => k_mem); (case z7z => omega); k_whole))
  trivial
theorem FEnd.cells2 {h₀ : Heap} {L I : Addr} {oI : Obj} {s : Shared} {S : List (Addr × Obj) → Prop} {Q : Flow → Shared → Prop} {K : (Str → Option Value) → List (Addr × Obj) → Prop} {h' : Heap} {tk' : Nat} {m' : Str → Option Value} {a b x y : Addr × Obj} {rest : List (Addr × Obj)}
    (F : Fr h₀ L h' m') (N : News h₀ L h' (a :: b :: (I, oI) :: x :: y :: rest)) (off : ∀ p ∈ x :: y :: a :: b :: rest, p.1 ≠ I) (hS : S (x :: y :: a :: b :: rest)) (k : K m' (x :: y :: a :: b :: rest)) :
    FEnd h₀ L I oI s S K Q .next { s with heap := h', toks := tk' } := FEnd.next F N (x :: y :: a :: b :: rest) (fun p hp => by simp only [List.mem_cons] at hp ⊢; grind) off hS k
theorem tupO_inj {vs ws : List Value} {n m : Nat} (h : some (tupO vs n) = some (tupO ws m)) : vs = ws := by
  have := congrArg Obj.data (Option.some.inj h)
  simp only [tupO, Data.seq.injEq] at this
  simpa using congrArg Array.toList this.1
theorem Nm.str_ne {x y : Nm} (h : x ≠ y) : x.str ≠ y.str := by
  cases x <;> cases y <;> first | exact absurd rfl h | decide
theorem CEnd.cells3 {h₀ : Heap} {L : Addr} {m : Str → Option Value} {I : Addr} {oI : Obj} {C D : Addr} {s₀ : Shared} {S : List (Addr × Obj) → Prop} {ys : List Value} {K : List (Addr × Obj) → Prop} {h' : Heap} {tk' : Nat} {oC' : Obj} {mC' : Str → Option Value} {q x y z : Addr × Obj} {rest : List (Addr × Obj)}
    (F : Fr h₀ L h' m) (ns : NsObj oC' mC') (N : News h₀ L h' (q :: (I, oI) :: (C, oC') :: (D, lst ys) :: x :: y :: z :: rest)) (off : Off3 I C D (x :: y :: z :: q :: rest)) (hS : S (x :: y :: z :: q :: rest)) (k : K (x :: y :: z :: q :: rest)) :
    CEnd h₀ L m I oI C D s₀ S ys K { s₀ with heap := h', toks := tk' } :=
  CEnd.intro F ns N (x :: y :: z :: q :: rest) (fun p hp => by simp only [List.mem_cons] at hp ⊢; grind) off hS k
noncomputable def enc3 (x : Nm × Nat × Nat) : PyData := .tuple [.str x.1.str, .int x.2.1, .int x.2.2]
noncomputable def clfilter (n : Nm) (k : Nat) (all : List (Nm × Nat)) : List (Nm × Nat × Nat) := (all.filter fun y => decide (y.1 = n) && decide (y.2 > k)).map fun y => (n, k, y.2)
noncomputable def clashes1 (all : List (Nm × Nat)) (x : Nm × Nat) : List (Nm × Nat × Nat) := clfilter x.1 x.2 all
noncomputable def clashes (all : List (Nm × Nat)) : List (Nm × Nat × Nat) := all.flatMap (clashes1 all)

inductive ClJ (D : Addr → Obj → Prop) (ps : List (Nm × Nat)) (L1 ax : Addr) : Nat → (Str → Option Value) → List (Addr × Obj) → Prop
  | mk {i : Nat} {m : Str → Option Value} (o1 o2 : Obj) (x1 x2 : Option Value) (rest : List (Addr × Obj)) (lf : Addr) (fv : List Value) (nf : Nat) : o1.data = .cell x1 → o2.data = .cell x2 → Ap (L1 + 1 + 1) rest → Ap (L1 + 1) rest → m "places" = some (.ref ax) → m "found" = some (.ref lf) → (lf, lstO fv nf) ∈ rest → RdAll (AndL D rest) fv (((ps.take i).flatMap (clashes1 ps)).map enc3) → fv.length ≤ i * 1000 → ClJ D ps L1 ax i m ((L1 + 1 + 1, o1) :: (L1 + 1, o2) :: rest)
inductive ClK (D : Addr → Obj → Prop) (ps : List (Nm × Nat)) (L1 I9 : Addr) (oI9 oP oN : Obj) (rest : List (Addr × Obj)) (qn : Nm) (qi : Nat) : Nat → List Value → List (Addr × Obj) → Prop
  | mk {j : Nat} {ys : List Value} : ys.length ≤ j → (rest' : List (Addr × Obj)) → Ap (L1 + 1 + 1) rest' → Ap (L1 + 1) rest' → Ap I9 rest' → (∀ p ∈ rest, p ∈ rest') → RdAll (AndL D rest') ys ((clfilter qn qi (ps.take j)).map enc3) → ClK D ps L1 I9 oI9 oP oN rest qn qi j ys ((I9, oI9) :: (L1 + 1 + 1, oP) :: (L1 + 1, oN) :: rest')
theorem clashes_pure {w : World} {mean : ExcName → Option Value} {mg mb : Str → Option Value} {H : Heap} (RT : Root w mean mg mb H) (ps : List (Nm × Nat)) (hps : ps.length ≤ 1000) :
    Pure w H 1 188 [.list (ps.map enc2)] (.list ((clashes ps).map enc3)) := by
  obtain ⟨X, T⟩ := RT
  intro dp un fr gd h₀ L m news D s vs Q E hdp hun hH F N hD hR hret
  obtain ⟨v, rfl, hv⟩ := RdAll.one hR
  obtain ⟨ax, ws, n', rfl, hb, hw⟩ := hv.list_inv
  have hH' : H.StaysIn s.heap := fun b o e => F.keep b o (hH b o e)
  have hwl := hw.length
  rw [List.length_map] at hwl
  walk_at "m_enterC0"
  intro L1 h1 tk1 cells1 F1 N1 Y1 X1 T1
  k_cells Y1
  (try simp only [List.cons_append, List.nil_append] at N1)
  (try dsimp only); (try k_fold)
  k_steps
  rename News _ _ _ _ => N2
  rename Fr _ _ _ _ => F2
  rename_i l2 h2 l12
  have N3 := newsPerm3 N2
  clear N2
  refine' FSrc.seq (tup := false) (its := ws) (n := n') rfl ?hF ?hN (.inl (hD _ _ hb)) ?_
  case hF => exact F2
  case hN => exact N3
  intro I9 off9
  replace off9 := Ap.of off9
  simp only [Ap, and_true] at off9
  refine FRest.ind (ClJ D ps L1 ax) ?step ?done ?hS₀ ?start
  case hS₀ => exact .inl (hD _ _ hb)
  case start =>
    refine ⟨_, _, _, _, _, _, [], 0, by assumption, by assumption, ?_, ?_, rfl, rfl, by k_mem, RdAll.nil, Nat.zero_le _⟩
    · simp only [Ap, and_true]; omega
    · simp only [Ap, and_true]; omega
  case done =>
    rintro m9 nw h9 tk9 hsrc ⟨o1, o2, x1, x2, rest, lf, fv, nf, d1, d2, ap1, ap2, hm1, hm2, hmf, hfv, hfl⟩ F9 N9 off9
    k_steps
    show Q _ _
    have hz : ps.take ws.length = ps := by rw [hwl]; exact List.take_length ..
    rw [hz] at hfv
    (refine' fin (w := w) (s := s) (D := D) F N hret ?ha ?hb (ROut.listE ?hc ?hd); (case ha => k_asm); (case hb => k_asm); (case hc => k_mem); (case hd => exact RdAll.mono (by walk_at "m_rdsub") hfv))
  case step =>
    rintro i m9 nw v9 oI9 h9 tk9 E9 hi hsrc ⟨o1, o2, x1, x2, rest, lf, fv, nf, d1, d2, ap1, ap2, hm1, hm2, hmf, hfv, hfl⟩ hP F9 N9 off9
    obtain ⟨q, hq, hqm, hvq, hdrop⟩ := hw.get_map hP
    obtain ⟨qn, qi⟩ := q
    simp only [enc2] at hvq
    obtain ⟨at9, tv9, nt9, rfl, hat9, htv9⟩ := hvq.tuple_inv
    obtain ⟨u0, u1, rfl, hu0, hu1⟩ := htv9.two
    obtain ⟨t0, rfl⟩ := hu0.str_inv
    obtain ⟨t1, rfl⟩ := hu1.int_inv
    have hT9 : IsTup s.heap at9 #[.str qn.str t0, .int qi t1] := ⟨_, hD _ _ hat9, rfl, _, rfl⟩
    k_steps
    rename News _ _ _ _ => N3
    rename Fr _ _ _ _ => F3
    rename_i oN dN h3' oP dP
    refine' CSrc.pair (its := ws) (n := n') rfl ?hF ?hN (.inl (hD _ _ hb)) ?kk ?kx ?ky ?kxy ?hits ?_
    case hF => exact F3
    case hN => exact N3
    case kk => exact rfl
    case kx => exact rfl
    case ky => exact rfl
    case kxy => decide
    case hits =>
      intro v hv
      obtain ⟨j, hj⟩ := List.mem_iff_getElem?.mp hv
      obtain ⟨q', -, -, hvq', -⟩ := hw.get_map hj
      simp only [enc2] at hvq'
      obtain ⟨at8, tv8, nt8, rfl, hat8, htv8⟩ := hvq'.tuple_inv
      obtain ⟨u0, u1, rfl, -, -⟩ := htv8.two
      exact ⟨at8, u0, u1, nt8, rfl, hD _ _ hat8⟩
    rintro I C D9 s₂ ⟨hh, tt, rfl⟩ hIC hID hCD off
    dsimp only
    replace off := off.mem
    refine CRest.ind hID hCD (ClK D ps L1 I9 oI9 oP oN rest qn qi) ?hsz ?step ?done ?hS₀ ?start
    case hsz =>
      rintro j ys nw hj ⟨hl, -⟩
      rw [sizeLine_eq]
      omega
    case hS₀ => exact .inl (hD _ _ hb)
    case start =>
      refine ⟨Nat.le_refl _, rest, ap1, ap2, ?_, fun _ h => h, RdAll.nil⟩
      exact Ap.of fun p hp => off9 p (by k_mem)
    case done =>
      rintro ys nw hsrc4 ⟨hyl, rest', ap3, ap4, ap5, hsub, hys⟩
      have hmf' := hsub _ hmf
      have hz : ps.take ws.length = ps := by rw [hwl]; exact List.take_length ..
      rw [hz] at hys
      have hi' : i * 1000 ≤ 1000 * 1000 := Nat.mul_le_mul_right _ (by omega)
      k_steps
      rename News _ _ _ _ => N8
      rename Fr _ _ _ _ => F8
      rename D9 < _ ∧ _ => l9
      obtain ⟨-, l2, l3, l4, -⟩ := l9
      have ne99 : ∀ p ∈ (I9, oI9) :: (L1 + 1 + 1, oP) :: (L1 + 1, oN) :: rest', p.1 ≠ D9 := by assumption
      have ne9 : I9 ≠ D9 := ne99 (I9, oI9) (List.mem_cons_self ..)
      have ne91 : L1 + 1 + 1 ≠ D9 := ne99 (L1 + 1 + 1, oP) (by simp)
      have ne92 : L1 + 1 ≠ D9 := ne99 (L1 + 1, oN) (by simp)
      have off91 := off9 _ (List.mem_cons_self ..)
      have off92 := off9 _ (List.mem_cons_of_mem _ (List.mem_cons_self ..))
      refine' FEnd.cells2 F8 N8 ?hoff ?hS ?hK
      case hoff => exact Ap.all ⟨off91, off92, Ne.symm (Nat.ne_of_lt l2), Ne.symm ne9, ap5⟩
      case hS => exact .inl (hD _ _ hb)
      case hK =>
        refine ⟨_, _, _, _, _, _, fv ++ ys, _, dP, dN, ⟨Ne.symm (Nat.ne_of_lt l3), Ne.symm ne91, ap3⟩, ⟨Ne.symm (Nat.ne_of_lt l4), Ne.symm ne92, ap4⟩, hm1, rfl, by k_mem, ?_, ?_⟩
        · rw [List.take_add_one, hq]
          simp only [Option.toList_some, List.flatMap_append, List.flatMap_cons, List.flatMap_nil, List.append_nil, List.map_append, clashes1]
          refine RdAll.append (RdAll.mono ?_ hfv) (RdAll.mono (by walk_at "m_rdsub") hys)
          exact fun b o h => h.imp id fun h => List.mem_cons_of_mem _ (List.mem_cons_of_mem _ (hsub _ h))
        · rw [List.length_append, Nat.add_mul]; omega
    case step =>
      rintro j ys nw v oI oC mC h4 tk4 E4 hj hsrc4 ⟨hyl, rest', ap3, ap4, ap5, hsub, hys⟩ hv4 hns hB F4 N4 off4
      obtain ⟨q', hq', hqm', hvq', hdrop'⟩ := hw.get_map hv4
      obtain ⟨qn', qi'⟩ := q'
      simp only [enc2] at hvq'
      obtain ⟨at8, tv8, nt8, rfl, hat8, htv8⟩ := hvq'.tuple_inv
      obtain ⟨u0, u1, rfl, hu2, hu3⟩ := htv8.two
      obtain ⟨t2, rfl⟩ := hu2.str_inv
      obtain ⟨t3, rfl⟩ := hu3.int_inv
      obtain ⟨t', v1', v2', nt', e1, e2, hb1, hb2⟩ := hB
      cases e1
      rw [hD _ _ hat8] at e2
      have e3 := tupO_inj e2
      cases e3
      clear e2
      have htake : ps.take (j + 1) = ps.take j ++ [(qn', qi')] := by rw [List.take_add_one, hq']; rfl
      k_steps
      · rename_i D' h' F' N' l1
        rename (qn'.str == qn.str) = true => e1
        rename (qi : Int) < (qi' : Int) => e2
        obtain rfl : qn' = qn := by
          by_cases e : qn' = qn
          · exact e
          · exact absurd (eq_of_beq e1) (Nm.str_ne e)
        refine' CEnd.cells3 ?hF ?hns ?hN ?hoff ?hS ?_
        case hF => exact F'
        case hns => exact hns
        case hN => exact N'
        case hoff =>
          refine Off3.of fun p hp => ?_
          have z := off4.mem
          simp only [List.mem_cons] at hp
          rcases hp with rfl | rfl | rfl | rfl | hp
          · exact z _ (by simp)
          · exact z _ (by simp)
          · exact z _ (by simp)
          · obtain ⟨q1, q2, q3, -⟩ := l1
            exact ⟨Ne.symm (Nat.ne_of_lt q1), Ne.symm (Nat.ne_of_lt q2), Ne.symm (Nat.ne_of_lt q3)⟩
          · exact z _ (by simp [hp])
        case hS => exact .inl (hD _ _ hb)
        have hf : clfilter qn' qi (ps.take (j + 1)) = clfilter qn' qi (ps.take j) ++ [(qn', qi, qi')] := by
          rw [htake]; simp only [clfilter, List.filter_append, List.map_append]
          have e3 : qi < qi' := by omega
          simp [e3]
        obtain ⟨-, -, -, q4, q5, q6, -⟩ := l1
        refine ⟨by rw [List.length_append, List.length_singleton]; omega, _, ⟨Ne.symm (Nat.ne_of_lt q5), ap3⟩, ⟨Ne.symm (Nat.ne_of_lt q6), ap4⟩, ⟨Ne.symm (Nat.ne_of_lt q4), ap5⟩, fun p hp => List.mem_cons_of_mem _ (hsub p hp), ?_⟩
        rw [hf, List.map_append]
        refine RdAll.append (RdAll.mono (by walk_at "m_rdsub") hys) (RdAll.one' ?_)
        rw [enc3]
        refine Rd.tuple (n := 0) (.inr (List.mem_cons_self ..)) ?_
        exact .cons (Rd.str _ _) (.cons (Rd.int _ _) (.cons (Rd.int _ _) .nil))
      · rename ¬ _ => e2
        have hf : clfilter qn qi (ps.take (j + 1)) = clfilter qn qi (ps.take j) := by
          rw [htake]; simp only [clfilter, List.filter_append, List.map_append]
          have e3 : ¬ qi < qi' := by omega
          simp [e3]
        refine CEnd.intro F4 hns N4 _ (fun _ h => h) off4 hsrc4 ⟨by omega, _, ap3, ap4, ap5, hsub, ?_⟩
        rw [hf]; exact hys
      · rename (_ == _) = false => e2
        have hf : clfilter qn qi (ps.take (j + 1)) = clfilter qn qi (ps.take j) := by
          rw [htake]; simp only [clfilter, List.filter_append, List.map_append]
          have e3 : ¬ qn' = qn := fun e => by rw [e] at e2; simp at e2
          simp [e3]
        refine CEnd.intro F4 hns N4 _ (fun _ h => h) off4 hsrc4 ⟨by omega, _, ap3, ap4, ap5, hsub, ?_⟩
        rw [hf]; exact hys
theorem words_pairs1 : True := by
  w_top off
  k_with_none
  k_with "m_enter" => (
      refine wpAny_call ?_;
      k_dflt (refine' enterP0 ?q0k4 ?q0k5 ?q0kH ?q0k6 ?q0k7 ?q0k8 ?q0k9 ?q0kB ?_ ?q0c2 ?q0c3 ?q0c4 ?q0c5; (case q0kH => assumption); (case q0k4 => k_asm); (case q0k5 => k_asm); (case q0k6 => k_is); (case q0k7 => k_is); (case q0k8 => (simp only [recursionLimit]; omega)); (case q0k9 => exact BindsTo.of_eq rfl); (case q0c5 => decide); (case q0kB => exact locs rfl); (case q0c2 => exact rfl); (case q0c3 => exact rfl); (case q0c4 => exact rfl); k_whole);
      rename Frag.In _ _ => xX; rename Top _ _ _ _ _ _ => xT; clear xX xT;
      intro L' h' tk' F' N' X' T'; (try dsimp only); (try k_fold))
  k_with "m_enter0" => (
      refine wpAny_call ?_;
      k_dflt (refine' enterP0 ?q1k4 ?q1k5 ?q1kH ?q1k6 ?q1k7 ?q1k8 ?q1k9 ?q1kB ?_ ?q1c2 ?q1c3 ?q1c4 ?q1c5; (case q1kH => assumption); (case q1k4 => k_asm); (case q1k5 => k_asm); (case q1k6 => k_is); (case q1k7 => k_is); (case q1k8 => (simp only [recursionLimit]; omega)); (case q1k9 => exact BindsTo.of_eq rfl); (case q1c5 => decide); (case q1kB => exact locs rfl); (case q1c2 => exact rfl); (case q1c3 => exact rfl); (case q1c4 => exact rfl); k_whole);
      rename Frag.In _ _ => xX; rename Top _ _ _ _ _ _ => xT; clear xX xT)
  k_with "m_enterC" => (
      refine wpAny_call ?_;
      k_dflt (refine' enterC0 ?q2k4 ?q2k5 ?q2kH ?q2k6 ?q2k7 ?q2k8 ?q2k9 ?q2kB ?q2kD ?_ ?q2c2 ?q2c3 ?q2c4; (case q2kH => assumption); (case q2k4 => k_asm); (case q2k5 => k_asm); (case q2k6 => k_is); (case q2k7 => k_is); (case q2k8 => (simp only [recursionLimit]; omega)); (case q2k9 => exact BindsTo.of_eq rfl); (case q2kB => exact rfl); (case q2kD => decide +kernel); (case q2c2 => exact rfl); (case q2c3 => exact rfl); (case q2c4 => exact rfl); k_whole);
      rename Frag.In _ _ => xX; rename Top _ _ _ _ _ _ => xT; clear xX xT;
      intro L' h' tk' cells' F' N' Y' X' T'; k_cells Y'; (try simp only [List.cons_append, List.nil_append] at N'); (try dsimp only); (try k_fold))
  k_with "m_enterC0" => (
      refine wpAny_call ?_;
      k_dflt (refine' enterC0 ?q3k4 ?q3k5 ?q3kH ?q3k6 ?q3k7 ?q3k8 ?q3k9 ?q3kB ?q3kD ?_ ?q3c2 ?q3c3 ?q3c4; (case q3kH => assumption); (case q3k4 => k_asm); (case q3k5 => k_asm); (case q3k6 => k_is); (case q3k7 => k_is); (case q3k8 => (simp only [recursionLimit]; omega)); (case q3k9 => exact BindsTo.of_eq rfl); (case q3kB => exact rfl); (case q3kD => decide +kernel); (case q3c2 => exact rfl); (case q3c3 => exact rfl); (case q3c4 => exact rfl); k_whole);
      rename Frag.In _ _ => xX; rename Top _ _ _ _ _ _ => xT; clear xX xT)
  k_with "call ref" => k_dflt (k_extra "m_call")
  k_with "exec Assign cons ListComp" => (k_dflt (refine' comp_assign ?q5kF (emitOne _) ?q5k0 ?q5k1 ?q5k2 ?q5k3 ?q5k4 ?q5k5 ?q5k6 ?q5k7 ?q5k8 ?_; (case q5kF => k_asm); (case q5k0 => exact rfl); (case q5k1 => (intros; rfl)); (case q5k2 => exact rfl); (case q5k3 => with_unfolding_all rfl); (case q5k4 => decide); (case q5k5 => exact rfl); (case q5k6 => decide); (case q5k7 => exact rfl); (case q5k8 => exact rfl); k_whole))
  k_with "eval ListComp" => (k_dflt (refine' comp_eval ?q6kF (emitOne _) ?q6k1 ?q6k3 ?q6k4 ?q6k5 ?q6k6 ?_; (case q6kF => k_asm); (case q6k1 => (intros; rfl)); (case q6k3 => with_unfolding_all rfl); (case q6k4 => decide); (case q6k5 => exact rfl); (case q6k6 => decide); k_whole))
  k_with "exec For Name Subscript cons nil" => (k_dflt (refine' for_rule ?q7kF ?_; (case q7kF => k_asm); k_whole))
  k_with "exec For Name Name cons nil" => (k_dflt (refine' for_rule ?q8kF ?_; (case q8kF => k_asm); k_whole))
  k_with "exec For Name IfExp cons nil" => (k_dflt (refine' for_rule ?q9kF ?_; (case q9kF => k_asm); k_whole))
  k_with "exec For Name Call cons nil" => (k_dflt (refine' for_rule ?q10kF ?_; (case q10kF => k_asm); k_whole))
  k_with "exec For Name ListComp cons nil" => (k_dflt (refine' for_rule ?q11kF ?_; (case q11kF => k_asm); k_whole))
  k_with "exec For Tuple Name cons nil" => (k_dflt (refine' for_rule ?q12kF ?_; (case q12kF => k_asm); k_whole))
  k_with "FSrc" => k_dflt (k_extra "m_fsrc")
  k_with "FRest" => k_dflt (k_extra "m_frest")
  k_with "FEnd" => k_dflt (k_extra "m_fend")
  k_with "CSrc" => k_dflt (k_extra "m_src")
  k_with "CRest" => k_dflt (k_extra "m_rest")
  k_with "CEnd" => k_dflt (k_extra "m_cend")
  k_with "FinA" => (unfold FinA; intro h9 tk9 F9 N9 ne9; (try rw [lst_eq] at N9))
  k_with "FinE" => (unfold FinE; intro h9 tk9 F9 N9 ne9; (try rw [lst_eq] at N9))
  k_with "execs cons Assign cons" => refine wpAny_execs_cons ?_
  k_with "execs cons Assign nil" => refine wpAny_execs_cons ?_
  k_with "execs cons If cons" => refine wpAny_execs_cons ?_
  k_with "execs cons If nil" => refine wpAny_execs_cons ?_
  k_with "execs cons For cons" => refine wpAny_execs_cons ?_
  k_with "execs cons For nil" => refine wpAny_execs_cons ?_
  k_with "execs cons Return cons" => refine wpAny_execs_cons ?_
  k_with "execs cons Return nil" => refine wpAny_execs_cons ?_
  k_with "execs cons Expr cons" => refine wpAny_execs_cons ?_
  k_with "execs cons Expr nil" => refine wpAny_execs_cons ?_
  k_with "ite" => first | (rw [if_neg (by decide +kernel)]) | (rw [if_pos (by decide +kernel)])
  k_with "subscriptTail Name Constant ref int" => (k_dflt (refine' item_tupleT ?q32k1 ?q32k2 ?q32k3 ?q32k4 ?q32k5 ?_; (case q32k1 => exact Fr.tup (by k_asm) (by assumption)); (case q32k2 => decide); (case q32k3 => decide); (case q32k4 => rfl); (case q32k5 => rfl); k_whole))
  k_with "eval Name" => (k_dflt (refine' nameX_L ?q33k1 ?q33k2 ?_; (case q33k1 => k_asm); (case q33k2 => first | exact rfl | assumption); k_whole))
  k_with "binaryOp Add ref ref" => (k_dflt (refine' my_add ?q34F ?q34N ?q34a ?q34b ?q34z ?_; (case q34F => k_asm); (case q34N => k_asm); (case q34a => k_mem); (case q34b => k_mem); (case q34z => (rw [sizeLine_eq]; (try simp only [List.length_append, List.length_nil, List.length_cons]); omega)); k_whole; intro r9 h9 F9 N9 l9; (try k_lt l9)))
  k_with "subscriptTail Subscript" => (k_dflt (refine kba_turn (value' := PySem.Expr.Name (PySem.Str.ofString "_") ⟨0, 0, 0, 0⟩) (fun _ => rfl) ?_))
  k_with "subscriptTail Name Slice ref ref" => (k_dflt (refine' slice_tuple ?q36F ?q36N ?q36t ?q36pa ?q36pb ?q36pc ?q36h0 ?q36hno ?q36hz ?q36hsz ?_ ?q36hs ?q36hg; (case q36F => k_asm); (case q36N => k_asm); (case q36t => exact Fr.tup (by k_asm) (by assumption)); (case q36pa => first | exact IsPart.none | exact IsPart.int _ _); (case q36pb => first | exact IsPart.none | exact IsPart.int _ _); (case q36pc => first | exact IsPart.none | exact IsPart.int _ _); (case q36h0 => rfl); (case q36hno => rfl); (case q36hz => with_unfolding_all first | exact (rfl : _ = []) | exact (rfl : _ = [_]) | exact (rfl : _ = [_, _]) | exact (rfl : _ = [_, _, _])); (case q36hsz => (rw [sizeLine_eq]; exact Nat.le_of_ble_eq_true rfl)); (case q36hs => with_unfolding_all rfl); (case q36hg => (intro _; with_unfolding_all rfl)); k_whole; intro r9 h9 F9 N9 l9; (try k_lt l9)))
  k_with "m_sub" => (intro q9 h9; simp only [List.mem_cons, List.mem_append, h9, true_or, or_true])
  k_with "m_rdsub" => (intro b o h; first | exact h | exact Or.inl h | (refine Or.elim h Or.inl (fun h => Or.inr ?_); simp only [List.mem_cons, List.mem_append, h, true_or, or_true]))
  k_with "m_rd" => first
      | exact Rd.int _ _ | exact Rd.str _ _ | exact Rd.bool _ | assumption
      | (refine' Rd.mono ?q39hs ?q39hv; (case q39hv => assumption); (case q39hs => walk_at "m_rdsub"))
      | (refine Rd.tuple (Or.inr (by k_mem)) ?_; walk_at "m_rds")
  k_with "m_rds" => first
      | exact RdAll.nil
      | ((refine RdAll.cons ?_ ?_); (walk_at "m_rd"); (walk_at "m_rds"))
  k_with "call builtin:len" => (k_dflt (refine' len_tupK ?q41k1 ?q41k2 ?q41k3 ?_; (case q41k1 => exact Fr.tup (by k_asm) (by assumption)); (case q41k2 => assumption); (case q41k3 => omega); k_whole))
  k_with "call type:range" => (k_dflt (first | (refine' range1_rows ?q42k1 ?q42k2 ?_; (case q42k1 => k_asm); (case q42k2 => k_asm); k_whole; intro h9 tk9 t9 u9 v9 hr9 F9 N9 hk9) | (refine' range2_rows ?q42k1 ?q42k2 ?_; (case q42k1 => k_asm); (case q42k2 => k_asm); k_whole; intro h9 tk9 t9 u9 v9 hr9 F9 N9 hk9)))
  k_with "subscriptTail Name Name ref int" => (k_dflt (refine' item_sym ?q43k1 ?q43k2 ?q43k3 ?q43k4 ?_; (case q43k1 => exact Fr.tup (by k_asm) (by assumption)); (case q43k4 => assumption); (case q43k2 => omega); (case q43k3 => omega); k_whole))
  k_with "compareOp Eq ref ref" => (k_dflt (refine' list_eq_nil ?y1N ?y1a ?y1b ?y1u ?_; (case y1N => k_asm); (case y1a => k_mem); (case y1b => k_mem); (case y1u => (show _ < 9900; (try dsimp only); omega)); k_whole))
  k_with "m_enterD" => (
      k_dflt (refine' enterC1 ?z3k4 ?z3k5 ?z3kH ?z3k6 ?z3k7 ?z3k8 ?z3k9 ?z3kB ?z3kD ?_ ?z3c2 ?z3c3 ?z3c4; (case z3kH => assumption); (case z3k4 => k_asm); (case z3k5 => k_asm); (case z3k6 => k_is); (case z3k7 => k_is); (case z3k8 => (simp only [recursionLimit]; omega)); (case z3k9 => exact BindsTo.of_eq rfl); (case z3kB => exact rfl); (case z3kD => decide +kernel); (case z3c2 => exact rfl); (case z3c3 => exact rfl); (case z3c4 => exact rfl); k_whole);
      rename Frag.In _ _ => xX; rename Top _ _ _ _ _ _ => xT; clear xX xT)
  k_with "m_enterB" => (
      k_dflt (refine' enterP1 ?z4k4 ?z4k5 ?z4kH ?z4k6 ?z4k7 ?z4k8 ?z4k9 ?z4kB ?_ ?z4c2 ?z4c3 ?z4c4 ?z4c5; (case z4kH => assumption); (case z4k4 => k_asm); (case z4k5 => k_asm); (case z4k6 => k_is); (case z4k7 => k_is); (case z4k8 => (simp only [recursionLimit]; omega)); (case z4k9 => exact BindsTo.of_eq rfl); (case z4c5 => decide); (case z4kB => exact locs rfl); (case z4c2 => exact rfl); (case z4c3 => exact rfl); (case z4c4 => exact rfl); k_whole);
      rename Frag.In _ _ => xX; rename Top _ _ _ _ _ _ => xT; clear xX xT)
  k_with "m_enterG" => (
      k_dflt (refine' enterG ?z5k4 ?z5k5 ?z5kH ?z5F ?z5N ?z5k6 ?z5k7 ?z5k8 ?z5k9 ?z5kB ?_ ?z5c2 ?z5c3 ?z5c4 ?z5c5; (case z5kH => assumption); (case z5F => assumption); (case z5N => assumption); (case z5k4 => k_asm); (case z5k5 => k_asm); (case z5k6 => k_is); (case z5k7 => k_is); (case z5k8 => (simp only [recursionLimit]; omega)); (case z5k9 => exact BindsTo.of_eq rfl); (case z5c5 => decide); (case z5kB => exact locs rfl); (case z5c2 => exact rfl); (case z5c3 => exact rfl); (case z5c4 => exact rfl); k_whole))
  k_with "m_enterGC" => (
      k_dflt (refine' enterGC ?z6k4 ?z6k5 ?z6kH ?z6F ?z6N ?z6k6 ?z6k7 ?z6k8 ?z6k9 ?z6kB ?z6kD ?_ ?z6c2 ?z6c3 ?z6c4; (case z6kH => assumption); (case z6F => assumption); (case z6N => assumption); (case z6k4 => k_asm); (case z6k5 => k_asm); (case z6k6 => k_is); (case z6k7 => k_is); (case z6k8 => (simp only [recursionLimit]; omega)); (case z6k9 => exact BindsTo.of_eq rfl); (case z6kB => exact rfl); (case z6kD => decide +kernel); (case z6c2 => exact rfl); (case z6c3 => exact rfl); (case z6c4 => exact rfl); k_whole))
  k_with "m_enterE" => (
      k_dflt (refine' enterE ?z8k4 ?z8k5 ?z8kH ?z8F ?z8N ?z8k6 ?z8k7 ?z8k8 ?z8k9 ?z8kB ?_ ?z8c2 ?z8c3 ?z8c4 ?z8c5; (case z8kH => assumption); (case z8F => assumption); (case z8N => assumption); (case z8k4 => k_asm); (case z8k5 => k_asm); (case z8k6 => k_is); (case z8k7 => k_is); (case z8k8 => (simp only [recursionLimit]; omega)); (case z8k9 => exact BindsTo.of_eq rfl); (case z8c5 => decide); (case z8kB => exact locs rfl); (case z8c2 => exact rfl); (case z8c3 => exact rfl); (case z8c4 => exact rfl); k_whole))
  k_with "m_enterEC" => (
      k_dflt (refine' enterEC ?z9k4 ?z9k5 ?z9kH ?z9F ?z9N ?z9k6 ?z9k7 ?z9k8 ?z9k9 ?z9kB ?z9kD ?_ ?z9c2 ?z9c3 ?z9c4; (case z9kH => assumption); (case z9F => assumption); (case z9N => assumption); (case z9k4 => k_asm); (case z9k5 => k_asm); (case z9k6 => k_is); (case z9k7 => k_is); (case z9k8 => (simp only [recursionLimit]; omega)); (case z9k9 => exact BindsTo.of_eq rfl); (case z9kB => exact rfl); (case z9kD => decide +kernel); (case z9c2 => exact rfl); (case z9c3 => exact rfl); (case z9c4 => exact rfl); k_whole))
  k_with "m_in" => first
    | with_reducible apply in_hd
    | (with_reducible apply in_l; walk_at "m_in")
    | (with_reducible apply in_r; walk_at "m_in")
    | (with_reducible apply in_tl; walk_at "m_in")
    | apply in_hd
    | assumption
  k_with "m_sub3" => first
    | with_reducible apply sub_id
    | (with_reducible apply sub_l; walk_at "m_sub3")
    | (with_reducible apply sub_r; walk_at "m_sub3")
    | (with_reducible apply sub_tl; walk_at "m_sub3")
  k_with "m_perm2" => ((repeat' (first | with_reducible apply sub_nil | with_reducible apply sub_app | with_reducible apply sub_cons)); all_goals (first | walk_at "m_in" | walk_at "m_sub3"))
  k_with "m_perm" => (intro p hp; simp only [List.cons_append, List.nil_append, List.append_assoc, List.append_nil, List.mem_cons, List.mem_append, List.not_mem_nil, or_false, or_assoc] at hp ⊢; (repeat' (first | (cases hp with | inl hp => ?_ | inr hp => ?_) | fail)); all_goals (repeat (first | apply hp | apply Or.inl hp | apply Or.inr)))
  k_with "m_notin" => first | exact notIn_of2 (by assumption) | (refine notIn_of ?_ ?_ ?_ ?_ ?_ <;> first | omega | assumption)
  k_with "m_off" => (refine Ap.all ?_; simp only [Ap, and_true]; omega)
  k_with "m_front" => first
    | assumption
    | exact rot2 (by assumption)
    | exact rot3 (by assumption)
    | exact rot4 (by assumption)
    | exact rot5 (by assumption)
    | exact rot6 (by assumption)
    | exact rot7 (by assumption)
    | exact rot8 (by assumption)
    | exact rot9 (by assumption)
  k_with "call builtin:list.append" => (k_dflt (refine' append_L ?zaF ?zaN ?zao ?zaz ?_; (case zaF => k_asm); (case zaN => walk_at "m_front"); (case zao => first | k_all | walk_at "m_off"); (case zaz => omega); k_whole; intro h9 F9 N9))
  k_with "compareOp NotIn int ref" => (k_dflt (refine' notin_L ?zbN ?zbm ?zbI ?_; (case zbN => k_asm); (case zbm => k_mem); (case zbI => assumption); k_whole))
  k_with "call builtin:len" => (k_dflt (refine' len_listK ?z7N ?z7l ?z7z ?_; (case z7N => k_asm); (case z7l => k_mem); (case z7z => omega); k_whole))
  trivial
noncomputable abbrev B183 : List Stmt := fnBody (.mk : IsFn (stmtAt 13) _ _ _)
noncomputable abbrev S183 : Scope := fnScope (.mk : IsFn (stmtAt 13) _ _ _)
noncomputable abbrev O183 : Stmt := nthS (.s (.s (.s .z)) : IsNth B183 3 _)
noncomputable abbrev OB183 : List Stmt := forB (.mk : IsForS O183 _ _ _)
noncomputable abbrev I183 : Stmt := nthS (.s .z : IsNth OB183 1 _)
noncomputable abbrev IB183 : List Stmt := forB (.mk : IsForS I183 _ _ _)

/-- the state of the comprehension «between» -/
def BtwJ {α : Type} (D : Addr → Obj → Prop) (enc : α → PyData) (l : List (Pt α)) (base : List (Addr × Obj)) (j : Nat) (ys : List Value) (nw : List (Addr × Obj)) : Prop :=
  ys.length ≤ j ∧ ∃ tl, nw = base ++ tl ∧ (∀ x ∈ base, ∀ p ∈ tl, p.1 ≠ x.1) ∧ RdAll D ys (((l.take j).filter fun p => !p.nothing).map (Pt.data enc))

/-- the state of a product's comprehension -/
def ProdJ {α : Type} (D : Addr → Obj → Prop) (enc : α → PyData) (e f : List α) (base src : List (Addr × Obj)) (i : Nat) (ys : List Value) (nw : List (Addr × Obj)) : Prop :=
  ys.length = i * f.length ∧ ∃ tl, nw = base ++ tl ∧ (∀ x ∈ base, ∀ p ∈ tl, p.1 ≠ x.1) ∧ RdAll (AndL D (src ++ tl)) ys ((prod (e.take i) f).map (encP enc))

theorem pairs_in {w : World} {mean : ExcName → Option Value} {mg mb : Str → Option Value} {H h₀ : Heap} (RT : Root w mean mg mb H) (hH : H.StaysIn h₀) {α : Type} (enc : α → PyData)
    {ps : List (Pt α)} (pok : ∀ p ∈ ps, p.ok) (ph : ∀ p ∈ ps, p.height ≤ 10) (pl : ∀ p ∈ ps, p.leaves ≤ 100) (plen : ps.length ≤ 3)
    {D : Addr → Obj → Prop} (hD : ∀ b o, D b o → h₀.get? b = some o) {a b : Addr} {ws : List Value} {n' na : Nat} (hb : D b (tupO ws n')) (hw : RdAll D ws (ps.map (Pt.data enc))) {sq : Bool} {t0 : Tok} {v2 : Value} (ha : D a (tupO [.str (kindStr sq) t0, .ref b, v2] na))
    {i k : Nat} (hik : i + 1 + k < ps.length) {q r : Pt α} (hq : ps[i]? = some q) (hr : ps[i + 1 + k]? = some r)
    {L1 : Addr} {s : Shared} {m : Str → Option Value} {oL oP oA : Obj} {rest : List (Addr × Obj)} (F : Fr h₀ L1 s.heap m) (N : News h₀ L1 s.heap ((L1 + 1 + 1 + 1, oL) :: (L1 + 1 + 1, oP) :: (L1 + 1, oA) :: rest))
    {tL ti : Tok} (dL : oL.data = .cell (some (.int ((i : Int) + 1 + k) tL))) (dP : oP.data = .cell (some (.ref b))) (dA : oA.data = .cell (some (.ref a))) (ap3 : Ap (L1 + 1 + 1 + 1) rest) (ap2 : Ap (L1 + 1 + 1) rest) (ap1 : Ap (L1 + 1) rest)
    {lf : Addr} {fv : List Value} {nf : Nat} {acc : List (α × α)} (mf : m "found" = some (.ref lf)) (mat : m "at" = some (.int i ti)) {rs : List (Addr × Obj)} (hsub : ∀ p ∈ rs, p ∈ rest) (hmem : (lf, lstO fv nf) ∈ rs) (hfv : RdAll (AndL D rs) fv (acc.map (encP enc))) (hacc : acc.length ≤ 200000)
    {dp un : Nat} (hdp : dp + 15 < 900) (hun : un + 150 < 9000) {fr : Option (List Env)} {gd : Option (List Code)} {Q : Flow → Shared → Prop}
    (hret : ∀ h tk m' tl lf' fv' nf', Fr h₀ L1 h m' → News h₀ L1 h ((L1 + 1 + 1 + 1, oL) :: (L1 + 1 + 1, oP) :: (L1 + 1, oA) :: (rest ++ tl)) → (∀ x ∈ (L1 + 1 + 1 + 1, oL) :: (L1 + 1 + 1, oP) :: (L1 + 1, oA) :: rest, ∀ p ∈ tl, p.1 ≠ x.1) →
      m' "found" = some (.ref lf') → m' "at" = some (.int i ti) → (lf', lstO fv' nf') ∈ rs ++ tl →
      RdAll (AndL D (rs ++ tl)) fv' ((acc ++ if sq && ((ps.drop (i + 1)).take k).all Pt.nothing then prod (q.edge false) (r.edge true) else []).map (encP enc)) → Q .next { s with heap := h, toks := tk }) :
    wpAny (model PySem.Challenge.rw_nu0043_01.row.prog w) (AA dp fr gd un) (execs IB183 (envOfC "_law_pairs" S183 L1 183 (.ref 182))) Q NoE s := by
  have NP := nothing_pure RT enc
  have EP := edge_pure RT enc
  obtain ⟨X0, T0⟩ := RT
  have X := X0.keeps hH
  have T := T0.keeps hH
  clear X0 T0
  have hT : IsTup h₀ a #[.str (kindStr sq) t0, .ref b, v2] := ⟨_, hD _ _ ha, rfl, _, rfl⟩
  have hB : IsTup h₀ b ws.toArray := ⟨_, hD _ _ hb, rfl, _, rfl⟩
  dsimp only [IB183, forB, S183, fnScope]
  have wl := hw.length
  rw [List.length_map] at wl
  k_with "m_call" => (refine' Pure.use (NP _ _ (Nat.lt_succ_self _) ?nokk) (RdAll.one' ?nR) ?ndp ?nun ?nH ?nF ?nN ?nDD ?_; (case nR => with_reducible assumption); (case nokk => assumption); (case ndp => omega); (case nun => omega); (case nH => with_reducible assumption); (case nF => k_asm); (case nN => k_asm); (case nDD => exact fun b o e => Fr.keep (by k_asm) b o (hD b o e)); intro r9 tl9 h9 tk9 F9 N9 hne9 hst9 ho9; obtain rfl := ho9.bool_inv)
  k_steps
  refine' slice_sym (i := i + 1) (j := i + 1 + k) ?sF ?sN ?sT ?s1 ?s2 ?s3 ?s4 ?s5 ?s6 ?_ ?s7 ?s8
  case sF => exact F
  case sN => exact N
  case sT => exact hB.keeps F.keep
  case s1 => omega
  case s2 => omega
  case s3 => omega
  case s4 => omega
  case s5 => omega
  case s6 => omega
  case s7 => with_unfolding_all rfl
  case s8 => (intro _; with_unfolding_all rfl)
  intro r9 h9 F9 N9 l9
  k_lt l9
  have hw2 := (hw.drop (i + 1)).take (i + 1 + k - (i + 1))
  rw [← List.map_drop, ← List.map_take, show i + 1 + k - (i + 1) = k by omega] at hw2
  rw [show i + 1 + k - (i + 1) = k by omega] at N9
  generalize hl : (ps.drop (i + 1)).take k = l at *
  generalize (ws.drop (i + 1)).take k = its at *
  refine' CSrc.name (tup := true) (its := its) (n := 0) rfl ?cF ?cN (.inr ?cm) rfl rfl ?_
  case cF => exact F9
  case cN => exact N9
  case cm => exact List.Mem.head _
  rintro I C D9 s₂ ⟨hh, tt, rfl⟩ hIC hID hCD off
  dsimp only
  have lok : ∀ p ∈ l, p ∈ ps := fun p hp => by
    rw [← hl] at hp
    exact List.mem_of_mem_drop (List.mem_of_mem_take hp)
  have hll := hw2.length
  rw [List.length_map] at hll
  have hlk : l.length = k := by rw [← hl, List.length_take, List.length_drop]; omega
  refine CRest.ind hID hCD (BtwJ D enc l ((r9, tupO its 0) :: (L1 + 1 + 1 + 1, oL) :: (L1 + 1 + 1, oP) :: (L1 + 1, oA) :: rest)) ?hsz ?step ?done ?hS₀ ?start
  case hsz =>
    rintro j ys nw hj ⟨hl, -⟩
    rw [sizeLine_eq]; omega
  case start => exact ⟨Nat.le_refl _, [], (List.append_nil _).symm, (by simp), RdAll.nil⟩
  case hS₀ => exact .inr (List.Mem.head _)
  case step =>
    rintro j ys nw v oI oC mC h8 tk8 E8 hj hsrc ⟨hyl, tl, rfl, hfr, hys⟩ hP hns hB F8 N8 off8
    obtain ⟨p, hp, hpl, hvp, -⟩ := hw2.get_map hP
    have hnokk := pok _ (lok _ hpl)
    have hph := ph _ (lok _ hpl)
    have htk : (l.take (j + 1)) = l.take j ++ [p] := by rw [List.take_add_one, hp]; rfl
    k_steps
    all_goals (
      refine CEnd.intro F9 hns N9 _ (fun _ h => h) (off_app off8 hne9) (hsrc.more fun q h => List.mem_append.mpr (.inl h)) ⟨?_, tl ++ tl9, List.append_assoc .., ?_, ?_⟩)
    · omega
    · exact fun x hx y hy => (List.mem_append.mp hy).elim (hfr x hx y) fun hy => hne9 x (.tail _ (.tail _ (.tail _ (List.mem_append.mpr (.inl hx))))) y hy
    · rename (_ = true) => e9
      rw [htk, List.filter_append]
      simpa [e9] using hys
    · rw [List.length_append, List.length_singleton]; omega
    · exact fun x hx y hy => (List.mem_append.mp hy).elim (hfr x hx y) fun hy => hne9 x (.tail _ (.tail _ (.tail _ (List.mem_append.mpr (.inl hx))))) y hy
    · rename (_ = false) => e9
      rw [htk, List.filter_append, List.map_append]
      refine hys.append ?_
      simpa [e9] using RdAll.one' hvp
  case done =>
    rintro ys nw hsrc ⟨hyl, tl, rfl, hfr, hys⟩
    clear hsrc off hIC hID hCD F9
    obtain ⟨vq, hvq⟩ : ∃ vq, ws[i]? = some vq := ⟨_, List.getElem?_eq_getElem (by omega)⟩
    obtain ⟨vr, hvr⟩ : ∃ vr, ws[i + 1 + k]? = some vr := ⟨_, List.getElem?_eq_getElem (by omega)⟩
    obtain ⟨q', hq', hqm, hrq, -⟩ := hw.get_map hvq
    rw [hq] at hq'
    cases hq'
    obtain ⟨r', hr', hrm, hrr, -⟩ := hw.get_map hvr
    rw [hr] at hr'
    cases hr'
    have hB9 := hB
    have qok := pok _ hqm
    have rok := pok _ hrm
    have qh := ph _ hqm
    have rh := ph _ hrm
    have ql : q.leaves ≤ 1000 := Nat.le_trans (pl _ hqm) (by decide)
    have rl : r.leaves ≤ 1000 := Nat.le_trans (pl _ hrm) (by decide)
    k_with "m_call" => (refine' Pure.use (EP _ _ (Nat.lt_succ_self _) ?eokk ?elv _) (RdAll.cons ?eR (RdAll.one' (Rd.bool _))) ?edp ?eun ?eH ?eF ?eN ?eDD ?_; (case eR => with_reducible assumption); (case eokk => assumption); (case elv => assumption); (case edp => omega); (case eun => omega); (case eH => with_reducible assumption); (case eF => k_asm); (case eN => k_asm); (case eDD => exact fun b o e => Fr.keep (by k_asm) b o (hD b o e)); intro r9 tl9 h9 tk9 F9 N9 hne9 hst9 ho9; obtain ⟨a9, vs9, n9, rfl, hm9, hvs9⟩ := ho9.list_inv; have hl9 := hvs9.length; rw [List.length_map] at hl9)
    k_with "subscriptTail Name Name ref int" => (k_dflt (refine' item_sym ?i1k ?i2k ?i3k hvq ?_; (case i1k => exact Fr.tup (by k_asm) (by assumption)); (case i2k => omega); (case i3k => omega); k_whole))
    k_with "subscriptTail Name Name ref int" => (k_dflt (refine' item_sym ?i4k ?i5k ?i6k hvr ?_; (case i4k => exact Fr.tup (by k_asm) (by assumption)); (case i5k => omega); (case i6k => omega); k_whole))
    k_with "eval ListComp" => (apply of_hold)
    k_steps
    · unfold Hold
      refine' comp_eval2 ?y2kF ?y2k3 ?y2k4 ?y2k5 ?y2k6 ?_
      case y2kF => k_asm
      case y2k3 => with_unfolding_all rfl
      case y2k4 => decide
      case y2k5 => exact rfl
      case y2k6 => decide
      k_steps
      have F8 := F9
      have N8 := N9
      generalize hbase : (_ :: (D9, lstO ys ys.length) :: ((r9, tupO its 0) :: (L1 + 1 + 1 + 1, oL) :: (L1 + 1 + 1, oP) :: (L1 + 1, oA) :: rest ++ tl)) ++ tl9 = base at N8
      have hb9 : ∀ p ∈ tl9, p ∈ base := fun p hp => by rw [← hbase]; exact List.mem_append.mpr (.inr hp)
      obtain ⟨tlE, htE⟩ : ∃ tlE, tlE = tl9 := ⟨_, rfl⟩
      subst htE
      have hvE := hvs9
      have hsubE : ∀ x ∈ (L1 + 1 + 1 + 1, oL) :: (L1 + 1 + 1, oP) :: (L1 + 1, oA) :: rest, ∀ p ∈ tlE, p.1 ≠ x.1 := fun x hx => hne9 x (.tail _ (.tail _ (List.mem_append.mpr (.inl (.tail _ hx)))))
      have hlE := hl9
      have hcL : (L1 + 1 + 1 + 1, oL) ∈ base := by rw [← hbase]; k_mem
      have hcP : (L1 + 1 + 1, oP) ∈ base := by rw [← hbase]; k_mem
      have hcA : (L1 + 1, oA) ∈ base := by rw [← hbase]; k_mem
      have hcR : ∀ p ∈ rest, p ∈ base := fun p hp => by rw [← hbase]; k_mem
      have hcf := hcR _ (hsub _ hmem)
      have eR : (r.edge true).length ≤ 100 := Nat.le_trans (Pt.edge_len true _ r (Nat.lt_succ_self _)) (pl _ hrm)
      have eQ : (q.edge false).length ≤ 100 := Nat.le_trans (Pt.edge_len false _ q (Nat.lt_succ_self _)) (pl _ hqm)
      refine' CSrc.name (tup := false) (its := vs9) (n := n9) rfl ?pF ?pN (.inr ?pm) rfl rfl ?_
      case pF => exact F8
      case pN => exact N8
      case pm => exact hb9 _ hm9
      rintro I8 C8 D8 s₂ ⟨hh, tt, rfl⟩ hIC hID hCD off
      dsimp only
      refine CRest.two rfl rfl rfl rfl (by decide) rfl rfl (fun _ => rfl) hIC hID hCD (ProdJ D enc (q.edge false) (r.edge true) base tlE) ?step ?done ?hS₀ ?start
      case start => exact ⟨(Nat.zero_mul _).symm, [], (List.append_nil _).symm, (by simp), RdAll.nil⟩
      case hS₀ => exact .inr (hb9 _ hm9)
      case step =>
        clear F9 N9 hne9 hst9 hbase
        rintro j ys' nw v oI oC mC h7 tk7 E7 hj hsrc ⟨hyl', tl', rfl, hfr', hys'⟩ hP hns hB F7 N7 off7
        k_steps
        obtain ⟨x, hx, -, rx, -⟩ := hvE.get_map hP
        have hpr : prod ((q.edge false).take (j + 1)) (r.edge true) = prod ((q.edge false).take j) (r.edge true) ++ (r.edge true).map fun y => (x, y) := by
          rw [List.take_add_one, hx]; simp [prod, List.flatMap_append]
        have hj' : j ≤ 100 := by omega
        have hjm : j * (r.edge true).length ≤ 100 * 100 := Nat.mul_le_mul hj' eR
        refine' PSrc.intro (AndL (AndL D tlE) tl9) F9 hns hB N9 (off_app off7 hne9) (.inr (List.mem_append.mpr (.inr hm9))) ?p1 (rx.mono fun b o h => .inl h) (hvs9.mono fun b o h => h.imp .inl id) ?p2
        case p1 => rw [sizeLine_eq]; omega
        case p2 =>
          intro tl2 us hfr2 hus hul
          refine ⟨hsrc.more fun p hp => List.mem_append.mpr (.inl (List.mem_append.mpr (.inl hp))), ?_, tl' ++ tl9 ++ tl2, (by show ((base ++ tl') ++ tl9) ++ tl2 = _; simp only [List.append_assoc]), ?_, ?_⟩
          · rw [List.length_append, hul, hl9, hyl', Nat.succ_mul]
          · intro x hx p hp
            rcases List.mem_append.mp hp with hp | hp
            · rcases List.mem_append.mp hp with hp | hp
              · exact hfr' x hx p hp
              · exact hne9 x (.tail _ (.tail _ (.tail _ (List.mem_append.mpr (.inl hx))))) p hp
            · exact hfr2 x (List.mem_append.mpr (.inl (List.mem_append.mpr (.inl hx)))) p hp
          · rw [hpr, List.map_append, ← List.append_assoc, ← List.append_assoc]
            refine RdAll.append (hys'.mono fun b o h => h.imp id fun h => List.mem_append.mpr (.inl (List.mem_append.mpr (.inl h)))) ?_
            rw [List.map_map] at hus
            rw [List.map_map]
            refine RdAll.mono ?_ hus
            rintro b o (((h | h) | h) | h)
            · exact .inl h
            · exact .inr (List.mem_append.mpr (.inl (List.mem_append.mpr (.inl (List.mem_append.mpr (.inl h))))))
            · exact .inr (List.mem_append.mpr (.inl (List.mem_append.mpr (.inr h))))
            · exact .inr (List.mem_append.mpr (.inr h))
      case done =>
        clear F9 N9 hne9 hst9
        rintro ys' nw hsrc ⟨hyl', tl', rfl, hfr', hys'⟩
        have hfl := hfv.length
        rw [List.length_map] at hfl
        have hyl2 : ys'.length ≤ 100 * 100 := by rw [hyl', hlE]; exact Nat.mul_le_mul eQ eR
        k_steps
        rename Fr _ _ _ _ => FF
        rename News _ _ _ _ => NN
        have hcells : ∀ x ∈ (L1 + 1 + 1 + 1, oL) :: (L1 + 1 + 1, oP) :: (L1 + 1, oA) :: rest, x ∈ base := by
          simp only [List.forall_mem_cons]
          exact ⟨hcL, hcP, hcA, hcR⟩
        have hlt := ktn_ltOf l9.2
        refine hret _ _ _ ((r9, lstO (fv ++ ys') 0) :: (tlE ++ tl')) r9 (fv ++ ys') 0 FF (fun p hp => NN p ?_) ?_ rfl mat (by k_mem) ?_
        · have : p ∈ ((L1 + 1 + 1 + 1, oL) :: (L1 + 1 + 1, oP) :: (L1 + 1, oA) :: rest) ++ ((r9, lstO (fv ++ ys') 0) :: (tlE ++ tl')) := hp
          rcases List.mem_append.mp this with h | h
          · exact .tail _ (.tail _ (List.mem_append.mpr (.inl (hcells _ h))))
          · rcases List.mem_cons.mp h with rfl | h
            · exact List.Mem.head _
            · rcases List.mem_append.mp h with h | h
              · exact .tail _ (.tail _ (List.mem_append.mpr (.inl (hb9 _ h))))
              · exact .tail _ (.tail _ (List.mem_append.mpr (.inr h)))
        · intro x hx p hp
          rcases List.mem_cons.mp hp with rfl | h
          · exact Ne.symm (Nat.ne_of_lt (hlt x (List.mem_append.mpr (.inl (hcells _ hx)))))
          · rcases List.mem_append.mp h with h | h
            · exact hsubE x hx p h
            · exact hfr' x (hcells _ hx) p h
        · rename (kindStr sq == _) = true => e1
          have hsq : sq = true := by cases sq with | true => rfl | false => exact absurd e1 (by decide)
          rename ys.isEmpty = true => e2
          have hys0 : ys = [] := List.isEmpty_iff.mp e2
          subst hys0
          have hall : l.all Pt.nothing = true := by
            have q1 := hys.length
            rw [List.length_map, hll, List.take_length] at q1
            have q2 : l.filter (fun p => !p.nothing) = [] := List.length_eq_zero_iff.mp q1.symm
            rw [List.filter_eq_nil_iff] at q2
            exact List.all_eq_true.mpr fun p hp => by simpa using q2 p hp
          rw [hlE, List.take_length] at hys'
          simp only [hsq, hall, Bool.and_self, if_true, List.map_append]
          exact RdAll.append (hfv.mono fun b o h => h.imp id fun h => List.mem_append.mpr (.inl h)) (hys'.mono fun b o h => h.imp id fun h => List.mem_append.mpr (.inr (.tail _ h)))
    all_goals (
      rename Fr _ _ _ _ => FF
      rename News _ _ _ _ => NN
      refine hret _ _ _ [] lf fv nf FF (fun p hp => NN p ?_) (fun _ _ _ h => nomatch h) mf mat (by k_mem) ?_)
    · rw [List.append_nil] at hp
      exact .tail _ (.tail _ (List.mem_append.mpr (.inl (.tail _ hp))))
    · rename ys.isEmpty = false => e2
      have hall : l.all Pt.nothing = false := by
        cases h : l.all Pt.nothing with
        | false => rfl
        | true =>
          rw [List.all_eq_true] at h
          have q2 : (l.take its.length).filter (fun p => !p.nothing) = [] := by
            rw [List.filter_eq_nil_iff]
            intro p hp
            simp [h p (List.mem_of_mem_take hp)]
          rw [q2] at hys
          rw [hys.nil_inv] at e2
          exact absurd e2 (by decide)
      rw [hall, Bool.and_false, List.append_nil]
      simpa using hfv
    · rw [List.append_nil] at hp
      exact .tail _ (List.mem_append.mpr (.inl (.tail _ hp)))
    · rename (kindStr sq == _) = false => e1
      have hsq : sq = false := by cases sq with | false => rfl | true => exact absurd e1 (by decide)
      rw [hsq, Bool.false_and, List.append_nil]
      simpa using hfv

theorem words_pairs2 : True := by
  w_top off
  k_with_none
  k_with "m_enter" => (
      refine wpAny_call ?_;
      k_dflt (refine' enterP0 ?q0k4 ?q0k5 ?q0kH ?q0k6 ?q0k7 ?q0k8 ?q0k9 ?q0kB ?_ ?q0c2 ?q0c3 ?q0c4 ?q0c5; (case q0kH => assumption); (case q0k4 => k_asm); (case q0k5 => k_asm); (case q0k6 => k_is); (case q0k7 => k_is); (case q0k8 => (simp only [recursionLimit]; omega)); (case q0k9 => exact BindsTo.of_eq rfl); (case q0c5 => decide); (case q0kB => exact locs rfl); (case q0c2 => exact rfl); (case q0c3 => exact rfl); (case q0c4 => exact rfl); k_whole);
      rename Frag.In _ _ => xX; rename Top _ _ _ _ _ _ => xT; clear xX xT;
      intro L' h' tk' F' N' X' T'; (try dsimp only); (try k_fold))
  k_with "m_enter0" => (
      refine wpAny_call ?_;
      k_dflt (refine' enterP0 ?q1k4 ?q1k5 ?q1kH ?q1k6 ?q1k7 ?q1k8 ?q1k9 ?q1kB ?_ ?q1c2 ?q1c3 ?q1c4 ?q1c5; (case q1kH => assumption); (case q1k4 => k_asm); (case q1k5 => k_asm); (case q1k6 => k_is); (case q1k7 => k_is); (case q1k8 => (simp only [recursionLimit]; omega)); (case q1k9 => exact BindsTo.of_eq rfl); (case q1c5 => decide); (case q1kB => exact locs rfl); (case q1c2 => exact rfl); (case q1c3 => exact rfl); (case q1c4 => exact rfl); k_whole);
      rename Frag.In _ _ => xX; rename Top _ _ _ _ _ _ => xT; clear xX xT)
  k_with "m_enterC" => (
      refine wpAny_call ?_;
      k_dflt (refine' enterC0 ?q2k4 ?q2k5 ?q2kH ?q2k6 ?q2k7 ?q2k8 ?q2k9 ?q2kB ?q2kD ?_ ?q2c2 ?q2c3 ?q2c4; (case q2kH => assumption); (case q2k4 => k_asm); (case q2k5 => k_asm); (case q2k6 => k_is); (case q2k7 => k_is); (case q2k8 => (simp only [recursionLimit]; omega)); (case q2k9 => exact BindsTo.of_eq rfl); (case q2kB => exact rfl); (case q2kD => decide +kernel); (case q2c2 => exact rfl); (case q2c3 => exact rfl); (case q2c4 => exact rfl); k_whole);
      rename Frag.In _ _ => xX; rename Top _ _ _ _ _ _ => xT; clear xX xT;
      intro L' h' tk' cells' F' N' Y' X' T'; k_cells Y'; (try simp only [List.cons_append, List.nil_append] at N'); (try dsimp only); (try k_fold))
  k_with "m_enterC0" => (
      refine wpAny_call ?_;
      k_dflt (refine' enterC0 ?q3k4 ?q3k5 ?q3kH ?q3k6 ?q3k7 ?q3k8 ?q3k9 ?q3kB ?q3kD ?_ ?q3c2 ?q3c3 ?q3c4; (case q3kH => assumption); (case q3k4 => k_asm); (case q3k5 => k_asm); (case q3k6 => k_is); (case q3k7 => k_is); (case q3k8 => (simp only [recursionLimit]; omega)); (case q3k9 => exact BindsTo.of_eq rfl); (case q3kB => exact rfl); (case q3kD => decide +kernel); (case q3c2 => exact rfl); (case q3c3 => exact rfl); (case q3c4 => exact rfl); k_whole);
      rename Frag.In _ _ => xX; rename Top _ _ _ _ _ _ => xT; clear xX xT)
  k_with "call ref" => k_dflt (k_extra "m_call")
  k_with "exec Assign cons ListComp" => (k_dflt (refine' comp_assign ?q5kF (emitOne _) ?q5k0 ?q5k1 ?q5k2 ?q5k3 ?q5k4 ?q5k5 ?q5k6 ?q5k7 ?q5k8 ?_; (case q5kF => k_asm); (case q5k0 => exact rfl); (case q5k1 => (intros; rfl)); (case q5k2 => exact rfl); (case q5k3 => with_unfolding_all rfl); (case q5k4 => decide); (case q5k5 => exact rfl); (case q5k6 => decide); (case q5k7 => exact rfl); (case q5k8 => exact rfl); k_whole))
  k_with "eval ListComp" => (k_dflt (refine' comp_eval ?q6kF (emitOne _) ?q6k1 ?q6k3 ?q6k4 ?q6k5 ?q6k6 ?_; (case q6kF => k_asm); (case q6k1 => (intros; rfl)); (case q6k3 => with_unfolding_all rfl); (case q6k4 => decide); (case q6k5 => exact rfl); (case q6k6 => decide); k_whole))
  k_with "exec For Name Subscript cons nil" => (k_dflt (refine' for_rule ?q7kF ?_; (case q7kF => k_asm); k_whole))
  k_with "exec For Name Name cons nil" => (k_dflt (refine' for_rule ?q8kF ?_; (case q8kF => k_asm); k_whole))
  k_with "exec For Name IfExp cons nil" => (k_dflt (refine' for_rule ?q9kF ?_; (case q9kF => k_asm); k_whole))
  k_with "exec For Name Call cons nil" => (k_dflt (refine' for_rule ?q10kF ?_; (case q10kF => k_asm); k_whole))
  k_with "exec For Name ListComp cons nil" => (k_dflt (refine' for_rule ?q11kF ?_; (case q11kF => k_asm); k_whole))
  k_with "exec For Tuple Name cons nil" => (k_dflt (refine' for_rule ?q12kF ?_; (case q12kF => k_asm); k_whole))
  k_with "FSrc" => k_dflt (k_extra "m_fsrc")
  k_with "FRest" => k_dflt (k_extra "m_frest")
  k_with "FEnd" => k_dflt (k_extra "m_fend")
  k_with "CSrc" => k_dflt (k_extra "m_src")
  k_with "CRest" => k_dflt (k_extra "m_rest")
  k_with "CEnd" => k_dflt (k_extra "m_cend")
  k_with "FinA" => (unfold FinA; intro h9 tk9 F9 N9 ne9; (try rw [lst_eq] at N9))
  k_with "FinE" => (unfold FinE; intro h9 tk9 F9 N9 ne9; (try rw [lst_eq] at N9))
  k_with "execs cons Assign cons" => refine wpAny_execs_cons ?_
  k_with "execs cons Assign nil" => refine wpAny_execs_cons ?_
  k_with "execs cons If cons" => refine wpAny_execs_cons ?_
  k_with "execs cons If nil" => refine wpAny_execs_cons ?_
  k_with "execs cons For cons" => refine wpAny_execs_cons ?_
  k_with "execs cons For nil" => refine wpAny_execs_cons ?_
  k_with "execs cons Return cons" => refine wpAny_execs_cons ?_
  k_with "execs cons Return nil" => refine wpAny_execs_cons ?_
  k_with "execs cons Expr cons" => refine wpAny_execs_cons ?_
  k_with "execs cons Expr nil" => refine wpAny_execs_cons ?_
  k_with "ite" => first | (rw [if_neg (by decide +kernel)]) | (rw [if_pos (by decide +kernel)])
  k_with "subscriptTail Name Constant ref int" => (k_dflt (refine' item_tupleT ?q32k1 ?q32k2 ?q32k3 ?q32k4 ?q32k5 ?_; (case q32k1 => exact Fr.tup (by k_asm) (by assumption)); (case q32k2 => decide); (case q32k3 => decide); (case q32k4 => rfl); (case q32k5 => rfl); k_whole))
  k_with "eval Name" => (k_dflt (refine' nameX_L ?q33k1 ?q33k2 ?_; (case q33k1 => k_asm); (case q33k2 => first | exact rfl | assumption); k_whole))
  k_with "binaryOp Add ref ref" => (k_dflt (refine' my_add ?q34F ?q34N ?q34a ?q34b ?q34z ?_; (case q34F => k_asm); (case q34N => k_asm); (case q34a => k_mem); (case q34b => k_mem); (case q34z => (rw [sizeLine_eq]; (try simp only [List.length_append, List.length_nil, List.length_cons]); omega)); k_whole; intro r9 h9 F9 N9 l9; (try k_lt l9)))
  k_with "subscriptTail Subscript" => (k_dflt (refine kba_turn (value' := PySem.Expr.Name (PySem.Str.ofString "_") ⟨0, 0, 0, 0⟩) (fun _ => rfl) ?_))
  k_with "subscriptTail Name Slice ref ref" => (k_dflt (refine' slice_tuple ?q36F ?q36N ?q36t ?q36pa ?q36pb ?q36pc ?q36h0 ?q36hno ?q36hz ?q36hsz ?_ ?q36hs ?q36hg; (case q36F => k_asm); (case q36N => k_asm); (case q36t => exact Fr.tup (by k_asm) (by assumption)); (case q36pa => first | exact IsPart.none | exact IsPart.int _ _); (case q36pb => first | exact IsPart.none | exact IsPart.int _ _); (case q36pc => first | exact IsPart.none | exact IsPart.int _ _); (case q36h0 => rfl); (case q36hno => rfl); (case q36hz => with_unfolding_all first | exact (rfl : _ = []) | exact (rfl : _ = [_]) | exact (rfl : _ = [_, _]) | exact (rfl : _ = [_, _, _])); (case q36hsz => (rw [sizeLine_eq]; exact Nat.le_of_ble_eq_true rfl)); (case q36hs => with_unfolding_all rfl); (case q36hg => (intro _; with_unfolding_all rfl)); k_whole; intro r9 h9 F9 N9 l9; (try k_lt l9)))
  k_with "m_sub" => (intro q9 h9; simp only [List.mem_cons, List.mem_append, h9, true_or, or_true])
  k_with "m_rdsub" => (intro b o h; first | exact h | exact Or.inl h | (refine Or.elim h Or.inl (fun h => Or.inr ?_); simp only [List.mem_cons, List.mem_append, h, true_or, or_true]))
  k_with "m_rd" => first
      | exact Rd.int _ _ | exact Rd.str _ _ | exact Rd.bool _ | assumption
      | (refine' Rd.mono ?q39hs ?q39hv; (case q39hv => assumption); (case q39hs => walk_at "m_rdsub"))
      | (refine Rd.tuple (Or.inr (by k_mem)) ?_; walk_at "m_rds")
  k_with "m_rds" => first
      | exact RdAll.nil
      | ((refine RdAll.cons ?_ ?_); (walk_at "m_rd"); (walk_at "m_rds"))
  k_with "call builtin:len" => (k_dflt (refine' len_tupK ?q41k1 ?q41k2 ?q41k3 ?_; (case q41k1 => exact Fr.tup (by k_asm) (by assumption)); (case q41k2 => assumption); (case q41k3 => omega); k_whole))
  k_with "call type:range" => (k_dflt (first | (refine' range1_rows ?q42k1 ?q42k2 ?_; (case q42k1 => k_asm); (case q42k2 => k_asm); k_whole; intro h9 tk9 t9 u9 v9 hr9 F9 N9 hk9) | (refine' range2_rows ?q42k1 ?q42k2 ?_; (case q42k1 => k_asm); (case q42k2 => k_asm); k_whole; intro h9 tk9 t9 u9 v9 hr9 F9 N9 hk9)))
  k_with "subscriptTail Name Name ref int" => (k_dflt (refine' item_sym ?q43k1 ?q43k2 ?q43k3 ?q43k4 ?_; (case q43k1 => exact Fr.tup (by k_asm) (by assumption)); (case q43k4 => assumption); (case q43k2 => omega); (case q43k3 => omega); k_whole))
  k_with "compareOp Eq ref ref" => (k_dflt (refine' list_eq_nil ?y1N ?y1a ?y1b ?y1u ?_; (case y1N => k_asm); (case y1a => k_mem); (case y1b => k_mem); (case y1u => (show _ < 9900; (try dsimp only); omega)); k_whole))
  k_with "m_enterD" => (
      k_dflt (refine' enterC1 ?z3k4 ?z3k5 ?z3kH ?z3k6 ?z3k7 ?z3k8 ?z3k9 ?z3kB ?z3kD ?_ ?z3c2 ?z3c3 ?z3c4; (case z3kH => assumption); (case z3k4 => k_asm); (case z3k5 => k_asm); (case z3k6 => k_is); (case z3k7 => k_is); (case z3k8 => (simp only [recursionLimit]; omega)); (case z3k9 => exact BindsTo.of_eq rfl); (case z3kB => exact rfl); (case z3kD => decide +kernel); (case z3c2 => exact rfl); (case z3c3 => exact rfl); (case z3c4 => exact rfl); k_whole);
      rename Frag.In _ _ => xX; rename Top _ _ _ _ _ _ => xT; clear xX xT)
  k_with "m_enterB" => (
      k_dflt (refine' enterP1 ?z4k4 ?z4k5 ?z4kH ?z4k6 ?z4k7 ?z4k8 ?z4k9 ?z4kB ?_ ?z4c2 ?z4c3 ?z4c4 ?z4c5; (case z4kH => assumption); (case z4k4 => k_asm); (case z4k5 => k_asm); (case z4k6 => k_is); (case z4k7 => k_is); (case z4k8 => (simp only [recursionLimit]; omega)); (case z4k9 => exact BindsTo.of_eq rfl); (case z4c5 => decide); (case z4kB => exact locs rfl); (case z4c2 => exact rfl); (case z4c3 => exact rfl); (case z4c4 => exact rfl); k_whole);
      rename Frag.In _ _ => xX; rename Top _ _ _ _ _ _ => xT; clear xX xT)
  k_with "m_enterG" => (
      k_dflt (refine' enterG ?z5k4 ?z5k5 ?z5kH ?z5F ?z5N ?z5k6 ?z5k7 ?z5k8 ?z5k9 ?z5kB ?_ ?z5c2 ?z5c3 ?z5c4 ?z5c5; (case z5kH => assumption); (case z5F => assumption); (case z5N => assumption); (case z5k4 => k_asm); (case z5k5 => k_asm); (case z5k6 => k_is); (case z5k7 => k_is); (case z5k8 => (simp only [recursionLimit]; omega)); (case z5k9 => exact BindsTo.of_eq rfl); (case z5c5 => decide); (case z5kB => exact locs rfl); (case z5c2 => exact rfl); (case z5c3 => exact rfl); (case z5c4 => exact rfl); k_whole))
  k_with "m_enterGC" => (
      k_dflt (refine' enterGC ?z6k4 ?z6k5 ?z6kH ?z6F ?z6N ?z6k6 ?z6k7 ?z6k8 ?z6k9 ?z6kB ?z6kD ?_ ?z6c2 ?z6c3 ?z6c4; (case z6kH => assumption); (case z6F => assumption); (case z6N => assumption); (case z6k4 => k_asm); (case z6k5 => k_asm); (case z6k6 => k_is); (case z6k7 => k_is); (case z6k8 => (simp only [recursionLimit]; omega)); (case z6k9 => exact BindsTo.of_eq rfl); (case z6kB => exact rfl); (case z6kD => decide +kernel); (case z6c2 => exact rfl); (case z6c3 => exact rfl); (case z6c4 => exact rfl); k_whole))
  k_with "m_enterE" => (
      k_dflt (refine' enterE ?z8k4 ?z8k5 ?z8kH ?z8F ?z8N ?z8k6 ?z8k7 ?z8k8 ?z8k9 ?z8kB ?_ ?z8c2 ?z8c3 ?z8c4 ?z8c5; (case z8kH => assumption); (case z8F => assumption); (case z8N => assumption); (case z8k4 => k_asm); (case z8k5 => k_asm); (case z8k6 => k_is); (case z8k7 => k_is); (case z8k8 => (simp only [recursionLimit]; omega)); (case z8k9 => exact BindsTo.of_eq rfl); (case z8c5 => decide); (case z8kB => exact locs rfl); (case z8c2 => exact rfl); (case z8c3 => exact rfl); (case z8c4 => exact rfl); k_whole))
  k_with "m_enterEC" => (
      k_dflt (refine' enterEC ?z9k4 ?z9k5 ?z9kH ?z9F ?z9N ?z9k6 ?z9k7 ?z9k8 ?z9k9 ?z9kB ?z9kD ?_ ?z9c2 ?z9c3 ?z9c4; (case z9kH => assumption); (case z9F => assumption); (case z9N => assumption); (case z9k4 => k_asm); (case z9k5 => k_asm); (case z9k6 => k_is); (case z9k7 => k_is); (case z9k8 => (simp only [recursionLimit]; omega)); (case z9k9 => exact BindsTo.of_eq rfl); (case z9kB => exact rfl); (case z9kD => decide +kernel); (case z9c2 => exact rfl); (case z9c3 => exact rfl); (case z9c4 => exact rfl); k_whole))
  k_with "m_in" => first
    | with_reducible apply in_hd
    | (with_reducible apply in_l; walk_at "m_in")
    | (with_reducible apply in_r; walk_at "m_in")
    | (with_reducible apply in_tl; walk_at "m_in")
    | apply in_hd
    | assumption
  k_with "m_sub3" => first
    | with_reducible apply sub_id
    | (with_reducible apply sub_l; walk_at "m_sub3")
    | (with_reducible apply sub_r; walk_at "m_sub3")
    | (with_reducible apply sub_tl; walk_at "m_sub3")
  k_with "m_perm2" => ((repeat' (first | with_reducible apply sub_nil | with_reducible apply sub_app | with_reducible apply sub_cons)); all_goals (first | walk_at "m_in" | walk_at "m_sub3"))
  k_with "m_perm" => (intro p hp; simp only [List.cons_append, List.nil_append, List.append_assoc, List.append_nil, List.mem_cons, List.mem_append, List.not_mem_nil, or_false, or_assoc] at hp ⊢; (repeat' (first | (cases hp with | inl hp => ?_ | inr hp => ?_) | fail)); all_goals (repeat (first | apply hp | apply Or.inl hp | apply Or.inr)))
  k_with "m_notin" => first | exact notIn_of2 (by assumption) | (refine notIn_of ?_ ?_ ?_ ?_ ?_ <;> first | omega | assumption)
  k_with "m_off" => (refine Ap.all ?_; simp only [Ap, and_true]; omega)
  k_with "m_front" => first
    | assumption
    | exact rot2 (by assumption)
    | exact rot3 (by assumption)
    | exact rot4 (by assumption)
    | exact rot5 (by assumption)
    | exact rot6 (by assumption)
    | exact rot7 (by assumption)
    | exact rot8 (by assumption)
    | exact rot9 (by assumption)
  k_with "call builtin:list.append" => (k_dflt (refine' append_L ?zaF ?zaN ?zao ?zaz ?_; (case zaF => k_asm); (case zaN => walk_at "m_front"); (case zao => first | k_all | walk_at "m_off"); (case zaz => omega); k_whole; intro h9 F9 N9))
  k_with "compareOp NotIn int ref" => (k_dflt (refine' notin_L ?zbN ?zbm ?zbI ?_; (case zbN => k_asm); (case zbm => k_mem); (case zbI => assumption); k_whole))
  k_with "call builtin:len" => (k_dflt (refine' len_listK ?z7N ?z7l ?z7z ?_; (case z7N => k_asm); (case z7l => k_mem); (case z7z => omega); k_whole))
  trivial
/-- what the first k later places add -/
noncomputable def lateK {β : Type} (sq : Bool) (e : List β) (l : List (List β × Bool)) : Nat → List (β × β)
  | 0 => []
  | k + 1 => lateK sq e l k ++ (if sq && (l.take k).all (·.2) then prod e ((l[k]?.map (·.1)).getD []) else [])
theorem lateK_false {β : Type} (e : List β) (l : List (List β × Bool)) : ∀ k, lateK false e l k = []
  | 0 => rfl
  | k + 1 => by rw [lateK, lateK_false e l k]; simp
theorem lateK_cons {β : Type} (e : List β) (x : List β × Bool) (l : List (List β × Bool)) : ∀ k, lateK true e (x :: l) (k + 1) = prod e x.1 ++ if x.2 then lateK true e l k else []
  | 0 => by simp [lateK]
  | k + 1 => by
    rw [lateK, lateK_cons e x l k, lateK]
    cases hx : x.2 <;> simp only [List.take_succ_cons, List.all_cons, hx, List.getElem?_cons_succ, Bool.true_and, Bool.false_and, Bool.false_eq_true, if_false, if_true, List.append_nil, List.append_assoc]
theorem lateK_all {β : Type} (e : List β) : ∀ l : List (List β × Bool), lateK true e l l.length = latePairs e l
  | [] => rfl
  | (b, nul) :: l => by
    rw [List.length_cons, lateK_cons, latePairs, lateK_all e l]
theorem lateK_end {β : Type} (sq : Bool) (e : List β) (l : List (List β × Bool)) : lateK sq e l l.length = if sq then latePairs e l else [] := by
  cases sq
  · simp [lateK_false]
  · simp [lateK_all]
theorem lateK_len {β : Type} (sq : Bool) (e : List β) (l : List (List β × Bool)) {B : Nat} (hl : ∀ x ∈ l, x.1.length ≤ B) : ∀ k, (lateK sq e l k).length ≤ k * (e.length * B)
  | 0 => Nat.zero_le _
  | k + 1 => by
    have ih := lateK_len sq e l hl k
    have h1 : (prod e ((l[k]?.map (·.1)).getD [])).length ≤ e.length * B := by
      rw [prod_len]
      refine Nat.mul_le_mul_left _ ?_
      cases h : l[k]? with
      | none => exact Nat.zero_le _
      | some x => exact hl x (List.mem_of_getElem? h)
    rw [lateK, List.length_append, Nat.succ_mul]
    have h2 : (if (sq && (l.take k).all (·.2)) = true then prod e ((l[k]?.map (·.1)).getD []) else []).length ≤ e.length * B := by
      split
      · exact h1
      · exact Nat.zero_le _
    omega
/-- the state of _law_pairs between its turns -/
inductive PJ {α : Type} (D : Addr → Obj → Prop) (enc : α → PyData) (L1 : Addr) (oP oA : Obj) (rest : List (Addr × Obj)) (acc : List (α × α)) (m : Str → Option Value) : List (Addr × Obj) → Prop
  | mk (oL : Obj) (xL : Option Value) (tl : List (Addr × Obj)) (lf : Addr) (fv : List Value) (nf : Nat) : oL.data = .cell xL → Ap (L1 + 1 + 1 + 1) (rest ++ tl) → Ap (L1 + 1 + 1) (rest ++ tl) → Ap (L1 + 1) (rest ++ tl) →
    (∀ x ∈ rest, ∀ p ∈ tl, p.1 ≠ x.1) → m "found" = some (.ref lf) → (lf, lstO fv nf) ∈ tl → RdAll (AndL D tl) fv (acc.map (encP enc)) → PJ D enc L1 oP oA rest acc m ((L1 + 1 + 1 + 1, oL) :: (L1 + 1 + 1, oP) :: (L1 + 1, oA) :: (rest ++ tl))

theorem PJ.grown {α : Type} {D : Addr → Obj → Prop} {enc : α → PyData} {L1 : Addr} {oL oL' oP oA : Obj} {xL : Option Value} {rest tl ex : List (Addr × Obj)} {acc : List (α × α)} {m : Str → Option Value} {lf : Addr} {fv : List Value} {nf : Nat}
    (dL : oL'.data = .cell xL) (ap3 : Ap (L1 + 1 + 1 + 1) (rest ++ tl)) (ap2 : Ap (L1 + 1 + 1) (rest ++ tl)) (ap1 : Ap (L1 + 1) (rest ++ tl)) (hfr : ∀ x ∈ rest, ∀ p ∈ tl, p.1 ≠ x.1)
    (hex : ∀ x ∈ (L1 + 1 + 1 + 1, oL) :: (L1 + 1 + 1, oP) :: (L1 + 1, oA) :: (rest ++ tl), ∀ p ∈ ex, p.1 ≠ x.1) (mf : m "found" = some (.ref lf)) (hmem : (lf, lstO fv nf) ∈ tl ++ ex)
    (rd : RdAll (AndL D (tl ++ ex)) fv (acc.map (encP enc))) : PJ D enc L1 oP oA rest acc m ((L1 + 1 + 1 + 1, oL') :: (L1 + 1 + 1, oP) :: (L1 + 1, oA) :: (rest ++ (tl ++ ex))) := by
  have g : ∀ d o, (d, o) ∈ (L1 + 1 + 1 + 1, oL) :: (L1 + 1 + 1, oP) :: (L1 + 1, oA) :: (rest ++ tl) → Ap d (rest ++ tl) → Ap d (rest ++ (tl ++ ex)) := fun d o hd h => by
    rw [← List.append_assoc, Ap.app]
    exact ⟨h, Ap.of fun p hp => hex _ hd p hp⟩
  refine ⟨oL', xL, tl ++ ex, lf, fv, nf, dL, g _ oL (.head _) ap3, g _ oP (.tail _ (.head _)) ap2, g _ oA (.tail _ (.tail _ (.head _))) ap1, fun x hx p hp => ?_, mf, hmem, rd⟩
  rcases List.mem_append.mp hp with hp | hp
  · exact hfr x hx p hp
  · exact hex x (.tail _ (.tail _ (.tail _ (List.mem_append.mpr (.inl hx))))) p hp

theorem pairs_out {w : World} {mean : ExcName → Option Value} {mg mb : Str → Option Value} {H h₀ : Heap} (RT : Root w mean mg mb H) (hH : H.StaysIn h₀) {α : Type} (enc : α → PyData)
    {ps : List (Pt α)} (pok : ∀ p ∈ ps, p.ok) (ph : ∀ p ∈ ps, p.height ≤ 10) (pl : ∀ p ∈ ps, p.leaves ≤ 100) (plen : ps.length ≤ 3)
    {rk : Nat} (hrk : 15 ≤ rk) (IH : ∀ p ∈ ps, Pure w H rk 183 [p.data enc] (.list (p.pairs.map (encP enc))))
    {D : Addr → Obj → Prop} (hD : ∀ b o, D b o → h₀.get? b = some o) {a b : Addr} {ws : List Value} {n' na : Nat} (hb : D b (tupO ws n')) (hw : RdAll D ws (ps.map (Pt.data enc))) {sq : Bool} {t0 : Tok} {v2 : Value} (ha : D a (tupO [.str (kindStr sq) t0, .ref b, v2] na))
    {i : Nat} {q : Pt α} (hq : ps[i]? = some q)
    {L1 : Addr} {s : Shared} {m : Str → Option Value} {oP oA : Obj} {rest nw : List (Addr × Obj)} (F : Fr h₀ L1 s.heap m) (N : News h₀ L1 s.heap nw)
    {ti : Tok} (dP : oP.data = .cell (some (.ref b))) (dA : oA.data = .cell (some (.ref a))) {acc : List (α × α)} (J : PJ D enc L1 oP oA rest acc m nw) (mat : m "at" = some (.int i ti)) (hacc : acc.length ≤ 100000) (hqp : q.pairs.length ≤ 50000)
    {dp un : Nat} (hdp : dp + rk < 900) (hun : un + 10 * rk < 9000) {fr : Option (List Env)} {gd : Option (List Code)} {Q : Flow → Shared → Prop}
    (hret : ∀ h tk m' nw', Fr h₀ L1 h m' → News h₀ L1 h nw' →
      PJ D enc L1 oP oA rest (acc ++ q.pairs ++ if sq then latePairs (q.edge false) ((ps.drop (i + 1)).map fun r => (r.edge true, r.nothing)) else []) m' nw' → Q .next { s with heap := h, toks := tk }) :
    wpAny (model PySem.Challenge.rw_nu0043_01.row.prog w) (AA dp fr gd un) (execs OB183 (envOfC "_law_pairs" S183 L1 183 (.ref 182))) Q NoE s := by
  have RT0 := RT
  obtain ⟨X0, T0⟩ := RT
  have X := X0.keeps hH
  have T := T0.keeps hH
  clear X0 T0
  have hT : IsTup h₀ a #[.str (kindStr sq) t0, .ref b, v2] := ⟨_, hD _ _ ha, rfl, _, rfl⟩
  have hB : IsTup h₀ b ws.toArray := ⟨_, hD _ _ hb, rfl, _, rfl⟩
  have wl := hw.length
  rw [List.length_map] at wl
  obtain ⟨oL, xL, tl, lf, fv, nf, dL, ap3, ap2, ap1, hfr, mf, hmem, hfv⟩ := J
  have hil : i < ps.length := (List.getElem?_eq_some_iff.mp hq).1
  obtain ⟨vq, hvq⟩ : ∃ vq, ws[i]? = some vq := ⟨_, List.getElem?_eq_getElem (by omega)⟩
  obtain ⟨q', hq', hqm, hrq, -⟩ := hw.get_map hvq
  rw [hq] at hq'
  cases hq'
  have hfl := hfv.length
  rw [List.length_map] at hfl
  k_with "m_call" => (refine' Pure.use (IH _ hqm) (RdAll.one' ?pR) ?pdp ?pun ?pH ?pF ?pN ?pDD ?_; (case pR => with_reducible assumption); (case pdp => omega); (case pun => omega); (case pH => with_reducible assumption); (case pF => k_asm); (case pN => k_asm); (case pDD => exact fun b o e => Fr.keep (by k_asm) b o (hD b o e)); intro r9 tl9 h9 tk9 F9 N9 hne9 hst9 ho9; obtain ⟨a9, vs9, n9, rfl, hm9, hvs9⟩ := ho9.list_inv; have hl9 := hvs9.length; rw [List.length_map] at hl9)
  dsimp only [OB183, forB, S183, fnScope]
  k_steps
  rename IsRange _ _ _ _ _ _ _ _ => hr
  rename Fr _ _ _ _ => FF
  rename News _ _ _ _ => NN
  have hcells := hne9
  generalize hex : tl9 ++ [(r9, lstO (fv ++ vs9) 0)] = ex
  have hex1 : ∀ x ∈ (L1 + 1 + 1 + 1, oL) :: (L1 + 1 + 1, oP) :: (L1 + 1, oA) :: (rest ++ tl), ∀ p ∈ ex, p.1 ≠ x.1 := fun x hx p hp => by
    rw [← hex] at hp
    rcases List.mem_append.mp hp with hp | hp
    · exact hne9 x hx p hp
    · obtain rfl := List.mem_singleton.mp hp
      exact Ne.symm (Nat.ne_of_lt (l9 x (List.mem_append.mpr (.inl hx))))
  have NN2 : News h₀ L1 h9 ((L1 + 1 + 1 + 1, oL) :: (L1 + 1 + 1, oP) :: (L1 + 1, oA) :: (rest ++ (tl ++ ex))) := fun p hp => NN p (by
    have hp : p ∈ ((L1 + 1 + 1 + 1, oL) :: (L1 + 1 + 1, oP) :: (L1 + 1, oA) :: (rest ++ (tl ++ ex))) := hp
    rw [← List.append_assoc] at hp
    have hp : p ∈ ((L1 + 1 + 1 + 1, oL) :: (L1 + 1 + 1, oP) :: (L1 + 1, oA) :: (rest ++ tl)) ++ ex := hp
    rcases List.mem_append.mp hp with h | h
    · exact .tail _ (List.mem_append.mpr (.inl h))
    · rw [← hex] at h
      rcases List.mem_append.mp h with h | h
      · exact .tail _ (List.mem_append.mpr (.inr h))
      · obtain rfl := List.mem_singleton.mp h
        exact List.Mem.head _)
  have J0 : PJ D enc L1 oP oA rest (acc ++ q.pairs) (fun y => if y = Str.ofString "found" then some (.ref r9) else m y) ((L1 + 1 + 1 + 1, oL) :: (L1 + 1 + 1, oP) :: (L1 + 1, oA) :: (rest ++ (tl ++ ex))) := by
    refine PJ.grown (lf := r9) (fv := fv ++ vs9) (nf := 0) dL ap3 ap2 ap1 hfr hex1 rfl (by rw [← hex]; simp) ?_
    rw [List.map_append]
    refine RdAll.append (hfv.mono fun b o h => h.imp id fun h => List.mem_append.mpr (.inl h)) (hvs9.mono fun b o h => h.imp id fun h => List.mem_append.mpr (.inr ?_))
    rw [← hex]; exact List.mem_append.mpr (.inl h)
  generalize tl ++ ex = tl3 at *
  clear NN hcells hne9 l9 hmem hfv hfr ap1 ap2 ap3 hvs9 hm9 ho9 hex1 hst9
  refine' FSrc.range (a := ((i + 1 : Nat) : Int)) (b := ((ps.length : Nat) : Int)) (n := ps.length - (i + 1)) rfl ?rF ?rN ?rR (range_small (by omega) (by omega)) (range_size (by omega)) ?_
  case rF => exact FF
  case rN => exact NN2
  case rR => exact hr
  intro I9 off9
  refine FRest.ind (fun k m nw => PJ D enc L1 oP oA rest (acc ++ q.pairs ++ lateK sq (q.edge false) ((ps.drop (i + 1)).map fun r => (r.edge true, r.nothing)) k) m nw ∧ m "at" = some (.int i ti)) ?step ?done trivial ⟨by rw [lateK, List.append_nil]; exact J0, mat⟩
  case done =>
    rintro m' nw h tk - ⟨J, -⟩ F N off
    k_steps
    have hlen : ps.length - (i + 1) = ((ps.drop (i + 1)).map fun r => (r.edge true, r.nothing)).length := by rw [List.length_map, List.length_drop]
    rw [hlen, lateK_end] at J
    exact hret _ _ _ _ F N J
  case step =>
    rintro k m' nw v oI h tk E' hk - ⟨⟨oL, xL, tl, lf, fv, nf, dL, ap3, ap2, ap1, hfr, mf, hmem, hfv⟩, mat'⟩ ⟨tv, rfl⟩ F N off
    k_with "execs cons Assign cons" => (apply of_hold)
    have off' := Ap.of off
    simp only [Ap] at off'
    obtain ⟨o3, o2, o1, oR⟩ := off'
    k_steps
    unfold Hold
    rename Fr _ _ _ _ => F5
    rename News _ _ _ _ => N5
    rename (_ = Data.cell (some (Value.int _ _))) => d5
    have d6 := d5
    rw [show ((i + 1 : Nat) : Int) = (i : Int) + 1 from rfl] at d6
    have hr9 : i + 1 + k < ps.length := by omega
    obtain ⟨r, hr9'⟩ : ∃ r, ps[i + 1 + k]? = some r := ⟨_, List.getElem?_eq_getElem hr9⟩
    have hlk : lateK sq (q.edge false) ((ps.drop (i + 1)).map fun r => (r.edge true, r.nothing)) (k + 1) = lateK sq (q.edge false) ((ps.drop (i + 1)).map fun r => (r.edge true, r.nothing)) k ++
        if sq && ((ps.drop (i + 1)).take k).all Pt.nothing then prod (q.edge false) (r.edge true) else [] := by
      rw [lateK, ← List.map_take, List.all_map, List.getElem?_map, List.getElem?_drop, hr9']
      rfl
    have hlb : (lateK sq (q.edge false) ((ps.drop (i + 1)).map fun r => (r.edge true, r.nothing)) k).length ≤ 30000 := by
      refine Nat.le_trans (lateK_len _ _ _ (B := 100) (fun x hx => ?_) k) ?_
      · obtain ⟨r, hr, rfl⟩ := List.mem_map.mp hx
        exact Nat.le_trans (Pt.edge_len true _ r (Nat.lt_succ_self _)) (pl _ (List.mem_of_mem_drop hr))
      · have e1 : (q.edge false).length ≤ 100 := Nat.le_trans (Pt.edge_len false _ q (Nat.lt_succ_self _)) (pl _ hqm)
        exact Nat.mul_le_mul (show k ≤ 3 by omega) (Nat.mul_le_mul_right 100 e1)
    refine wpAny_mono (pairs_in RT0 hH enc pok ph pl plen hD hb hw ha hr9 hq hr9' (rest := (I9, oI) :: (rest ++ tl)) F5 (fun p hp => N5 p ?_) d6 dP dA ⟨Ne.symm o3, ap3⟩ ⟨Ne.symm o2, ap2⟩ ⟨Ne.symm o1, ap1⟩ mf mat' (rs := tl) (fun _ h => .tail _ (List.mem_append.mpr (.inr h))) hmem hfv ?_ (by omega) (by omega) ?_) (fun _ _ h => h) fun _ _ e => e.elim
    · simp only [List.mem_cons] at hp ⊢; grind
    · rw [List.length_append, List.length_append]; omega
    · intro h7 tk7 m7 tl7 lf7 fv7 nf7 F7 N7 fr7 mf7 mat7 hm7 rd7
      rw [List.append_assoc (acc ++ q.pairs) _ _, ← hlk] at rd7
      have fr8 : ∀ x ∈ (L1 + 1 + 1 + 1, oL) :: (L1 + 1 + 1, oP) :: (L1 + 1, oA) :: (rest ++ tl), ∀ p ∈ tl7, p.1 ≠ x.1 := fun x hx p hp => by
        rcases List.mem_cons.mp hx with rfl | hx
        · exact fr7 _ (.head _) p hp
        · rcases List.mem_cons.mp hx with rfl | hx
          · exact fr7 _ (.tail _ (.head _)) p hp
          · rcases List.mem_cons.mp hx with rfl | hx
            · exact fr7 _ (.tail _ (.tail _ (.head _))) p hp
            · exact fr7 _ (.tail _ (.tail _ (.tail _ (.tail _ hx)))) p hp
      have fI : ∀ p ∈ tl7, p.1 ≠ I9 := fr7 _ (.tail _ (.tail _ (.tail _ (.head _))))
      refine FEnd.next F7 N7 ((L1 + 1 + 1 + 1, _) :: (L1 + 1 + 1, oP) :: (L1 + 1, oA) :: (rest ++ (tl ++ tl7))) (fun p hp => ?_) ?_ trivial ⟨PJ.grown d5 ap3 ap2 ap1 hfr fr8 mf7 hm7 rd7, mat7⟩
      · rw [← List.append_assoc] at hp
        simp only [List.mem_cons, List.mem_append] at hp ⊢
        grind
      · rw [← List.append_assoc]
        simp only [List.forall_mem_cons]
        exact ⟨o3, o2, o1, fun p hp => (List.mem_append.mp hp).elim (oR.all p) (fI p)⟩
theorem words_pairs3 : True := by
  w_top off
  k_with_none
  k_with "m_enter" => (
      refine wpAny_call ?_;
      k_dflt (refine' enterP0 ?q0k4 ?q0k5 ?q0kH ?q0k6 ?q0k7 ?q0k8 ?q0k9 ?q0kB ?_ ?q0c2 ?q0c3 ?q0c4 ?q0c5; (case q0kH => assumption); (case q0k4 => k_asm); (case q0k5 => k_asm); (case q0k6 => k_is); (case q0k7 => k_is); (case q0k8 => (simp only [recursionLimit]; omega)); (case q0k9 => exact BindsTo.of_eq rfl); (case q0c5 => decide); (case q0kB => exact locs rfl); (case q0c2 => exact rfl); (case q0c3 => exact rfl); (case q0c4 => exact rfl); k_whole);
      rename Frag.In _ _ => xX; rename Top _ _ _ _ _ _ => xT; clear xX xT;
      intro L' h' tk' F' N' X' T'; (try dsimp only); (try k_fold))
  k_with "m_enter0" => (
      refine wpAny_call ?_;
      k_dflt (refine' enterP0 ?q1k4 ?q1k5 ?q1kH ?q1k6 ?q1k7 ?q1k8 ?q1k9 ?q1kB ?_ ?q1c2 ?q1c3 ?q1c4 ?q1c5; (case q1kH => assumption); (case q1k4 => k_asm); (case q1k5 => k_asm); (case q1k6 => k_is); (case q1k7 => k_is); (case q1k8 => (simp only [recursionLimit]; omega)); (case q1k9 => exact BindsTo.of_eq rfl); (case q1c5 => decide); (case q1kB => exact locs rfl); (case q1c2 => exact rfl); (case q1c3 => exact rfl); (case q1c4 => exact rfl); k_whole);
      rename Frag.In _ _ => xX; rename Top _ _ _ _ _ _ => xT; clear xX xT)
  k_with "m_enterC" => (
      refine wpAny_call ?_;
      k_dflt (refine' enterC0 ?q2k4 ?q2k5 ?q2kH ?q2k6 ?q2k7 ?q2k8 ?q2k9 ?q2kB ?q2kD ?_ ?q2c2 ?q2c3 ?q2c4; (case q2kH => assumption); (case q2k4 => k_asm); (case q2k5 => k_asm); (case q2k6 => k_is); (case q2k7 => k_is); (case q2k8 => (simp only [recursionLimit]; omega)); (case q2k9 => exact BindsTo.of_eq rfl); (case q2kB => exact rfl); (case q2kD => decide +kernel); (case q2c2 => exact rfl); (case q2c3 => exact rfl); (case q2c4 => exact rfl); k_whole);
      rename Frag.In _ _ => xX; rename Top _ _ _ _ _ _ => xT; clear xX xT;
      intro L' h' tk' cells' F' N' Y' X' T'; k_cells Y'; (try simp only [List.cons_append, List.nil_append] at N'); (try dsimp only); (try k_fold))
  k_with "m_enterC0" => (
      refine wpAny_call ?_;
      k_dflt (refine' enterC0 ?q3k4 ?q3k5 ?q3kH ?q3k6 ?q3k7 ?q3k8 ?q3k9 ?q3kB ?q3kD ?_ ?q3c2 ?q3c3 ?q3c4; (case q3kH => assumption); (case q3k4 => k_asm); (case q3k5 => k_asm); (case q3k6 => k_is); (case q3k7 => k_is); (case q3k8 => (simp only [recursionLimit]; omega)); (case q3k9 => exact BindsTo.of_eq rfl); (case q3kB => exact rfl); (case q3kD => decide +kernel); (case q3c2 => exact rfl); (case q3c3 => exact rfl); (case q3c4 => exact rfl); k_whole);
      rename Frag.In _ _ => xX; rename Top _ _ _ _ _ _ => xT; clear xX xT)
  k_with "call ref" => k_dflt (k_extra "m_call")
  k_with "exec Assign cons ListComp" => (k_dflt (refine' comp_assign ?q5kF (emitOne _) ?q5k0 ?q5k1 ?q5k2 ?q5k3 ?q5k4 ?q5k5 ?q5k6 ?q5k7 ?q5k8 ?_; (case q5kF => k_asm); (case q5k0 => exact rfl); (case q5k1 => (intros; rfl)); (case q5k2 => exact rfl); (case q5k3 => with_unfolding_all rfl); (case q5k4 => decide); (case q5k5 => exact rfl); (case q5k6 => decide); (case q5k7 => exact rfl); (case q5k8 => exact rfl); k_whole))
  k_with "eval ListComp" => (k_dflt (refine' comp_eval ?q6kF (emitOne _) ?q6k1 ?q6k3 ?q6k4 ?q6k5 ?q6k6 ?_; (case q6kF => k_asm); (case q6k1 => (intros; rfl)); (case q6k3 => with_unfolding_all rfl); (case q6k4 => decide); (case q6k5 => exact rfl); (case q6k6 => decide); k_whole))
  k_with "exec For Name Subscript cons nil" => (k_dflt (refine' for_rule ?q7kF ?_; (case q7kF => k_asm); k_whole))
  k_with "exec For Name Name cons nil" => (k_dflt (refine' for_rule ?q8kF ?_; (case q8kF => k_asm); k_whole))
  k_with "exec For Name IfExp cons nil" => (k_dflt (refine' for_rule ?q9kF ?_; (case q9kF => k_asm); k_whole))
  k_with "exec For Name Call cons nil" => (k_dflt (refine' for_rule ?q10kF ?_; (case q10kF => k_asm); k_whole))
  k_with "exec For Name ListComp cons nil" => (k_dflt (refine' for_rule ?q11kF ?_; (case q11kF => k_asm); k_whole))
  k_with "exec For Tuple Name cons nil" => (k_dflt (refine' for_rule ?q12kF ?_; (case q12kF => k_asm); k_whole))
  k_with "FSrc" => k_dflt (k_extra "m_fsrc")
  k_with "FRest" => k_dflt (k_extra "m_frest")
  k_with "FEnd" => k_dflt (k_extra "m_fend")
  k_with "CSrc" => k_dflt (k_extra "m_src")
  k_with "CRest" => k_dflt (k_extra "m_rest")
  k_with "CEnd" => k_dflt (k_extra "m_cend")
  k_with "FinA" => (unfold FinA; intro h9 tk9 F9 N9 ne9; (try rw [lst_eq] at N9))
  k_with "FinE" => (unfold FinE; intro h9 tk9 F9 N9 ne9; (try rw [lst_eq] at N9))
  k_with "execs cons Assign cons" => refine wpAny_execs_cons ?_
  k_with "execs cons Assign nil" => refine wpAny_execs_cons ?_
  k_with "execs cons If cons" => refine wpAny_execs_cons ?_
  k_with "execs cons If nil" => refine wpAny_execs_cons ?_
  k_with "execs cons For cons" => refine wpAny_execs_cons ?_
  k_with "execs cons For nil" => refine wpAny_execs_cons ?_
  k_with "execs cons Return cons" => refine wpAny_execs_cons ?_
  k_with "execs cons Return nil" => refine wpAny_execs_cons ?_
  k_with "execs cons Expr cons" => refine wpAny_execs_cons ?_
  k_with "execs cons Expr nil" => refine wpAny_execs_cons ?_
  k_with "ite" => first | (rw [if_neg (by decide +kernel)]) | (rw [if_pos (by decide +kernel)])
  k_with "subscriptTail Name Constant ref int" => (k_dflt (refine' item_tupleT ?q32k1 ?q32k2 ?q32k3 ?q32k4 ?q32k5 ?_; (case q32k1 => exact Fr.tup (by k_asm) (by assumption)); (case q32k2 => decide); (case q32k3 => decide); (case q32k4 => rfl); (case q32k5 => rfl); k_whole))
  k_with "eval Name" => (k_dflt (refine' nameX_L ?q33k1 ?q33k2 ?_; (case q33k1 => k_asm); (case q33k2 => first | exact rfl | assumption); k_whole))
  k_with "binaryOp Add ref ref" => (k_dflt (refine' my_add ?q34F ?q34N ?q34a ?q34b ?q34z ?_; (case q34F => k_asm); (case q34N => k_asm); (case q34a => k_mem); (case q34b => k_mem); (case q34z => (rw [sizeLine_eq]; (try simp only [List.length_append, List.length_nil, List.length_cons]); omega)); k_whole; intro r9 h9 F9 N9 l9; (try k_lt l9)))
  k_with "subscriptTail Subscript" => (k_dflt (refine kba_turn (value' := PySem.Expr.Name (PySem.Str.ofString "_") ⟨0, 0, 0, 0⟩) (fun _ => rfl) ?_))
  k_with "subscriptTail Name Slice ref ref" => (k_dflt (refine' slice_tuple ?q36F ?q36N ?q36t ?q36pa ?q36pb ?q36pc ?q36h0 ?q36hno ?q36hz ?q36hsz ?_ ?q36hs ?q36hg; (case q36F => k_asm); (case q36N => k_asm); (case q36t => exact Fr.tup (by k_asm) (by assumption)); (case q36pa => first | exact IsPart.none | exact IsPart.int _ _); (case q36pb => first | exact IsPart.none | exact IsPart.int _ _); (case q36pc => first | exact IsPart.none | exact IsPart.int _ _); (case q36h0 => rfl); (case q36hno => rfl); (case q36hz => with_unfolding_all first | exact (rfl : _ = []) | exact (rfl : _ = [_]) | exact (rfl : _ = [_, _]) | exact (rfl : _ = [_, _, _])); (case q36hsz => (rw [sizeLine_eq]; exact Nat.le_of_ble_eq_true rfl)); (case q36hs => with_unfolding_all rfl); (case q36hg => (intro _; with_unfolding_all rfl)); k_whole; intro r9 h9 F9 N9 l9; (try k_lt l9)))
  k_with "m_sub" => (intro q9 h9; simp only [List.mem_cons, List.mem_append, h9, true_or, or_true])
  k_with "m_rdsub" => (intro b o h; first | exact h | exact Or.inl h | (refine Or.elim h Or.inl (fun h => Or.inr ?_); simp only [List.mem_cons, List.mem_append, h, true_or, or_true]))
  k_with "m_rd" => first
      | exact Rd.int _ _ | exact Rd.str _ _ | exact Rd.bool _ | assumption
      | (refine' Rd.mono ?q39hs ?q39hv; (case q39hv => assumption); (case q39hs => walk_at "m_rdsub"))
      | (refine Rd.tuple (Or.inr (by k_mem)) ?_; walk_at "m_rds")
  k_with "m_rds" => first
      | exact RdAll.nil
      | ((refine RdAll.cons ?_ ?_); (walk_at "m_rd"); (walk_at "m_rds"))
  k_with "call builtin:len" => (k_dflt (refine' len_tupK ?q41k1 ?q41k2 ?q41k3 ?_; (case q41k1 => exact Fr.tup (by k_asm) (by assumption)); (case q41k2 => assumption); (case q41k3 => omega); k_whole))
  k_with "call type:range" => (k_dflt (first | (refine' range1_rows ?q42k1 ?q42k2 ?_; (case q42k1 => k_asm); (case q42k2 => k_asm); k_whole; intro h9 tk9 t9 u9 v9 hr9 F9 N9 hk9) | (refine' range2_rows ?q42k1 ?q42k2 ?_; (case q42k1 => k_asm); (case q42k2 => k_asm); k_whole; intro h9 tk9 t9 u9 v9 hr9 F9 N9 hk9)))
  k_with "subscriptTail Name Name ref int" => (k_dflt (refine' item_sym ?q43k1 ?q43k2 ?q43k3 ?q43k4 ?_; (case q43k1 => exact Fr.tup (by k_asm) (by assumption)); (case q43k4 => assumption); (case q43k2 => omega); (case q43k3 => omega); k_whole))
  k_with "compareOp Eq ref ref" => (k_dflt (refine' list_eq_nil ?y1N ?y1a ?y1b ?y1u ?_; (case y1N => k_asm); (case y1a => k_mem); (case y1b => k_mem); (case y1u => (show _ < 9900; (try dsimp only); omega)); k_whole))
  k_with "m_enterD" => (
      k_dflt (refine' enterC1 ?z3k4 ?z3k5 ?z3kH ?z3k6 ?z3k7 ?z3k8 ?z3k9 ?z3kB ?z3kD ?_ ?z3c2 ?z3c3 ?z3c4; (case z3kH => assumption); (case z3k4 => k_asm); (case z3k5 => k_asm); (case z3k6 => k_is); (case z3k7 => k_is); (case z3k8 => (simp only [recursionLimit]; omega)); (case z3k9 => exact BindsTo.of_eq rfl); (case z3kB => exact rfl); (case z3kD => decide +kernel); (case z3c2 => exact rfl); (case z3c3 => exact rfl); (case z3c4 => exact rfl); k_whole);
      rename Frag.In _ _ => xX; rename Top _ _ _ _ _ _ => xT; clear xX xT)
  k_with "m_enterB" => (
      k_dflt (refine' enterP1 ?z4k4 ?z4k5 ?z4kH ?z4k6 ?z4k7 ?z4k8 ?z4k9 ?z4kB ?_ ?z4c2 ?z4c3 ?z4c4 ?z4c5; (case z4kH => assumption); (case z4k4 => k_asm); (case z4k5 => k_asm); (case z4k6 => k_is); (case z4k7 => k_is); (case z4k8 => (simp only [recursionLimit]; omega)); (case z4k9 => exact BindsTo.of_eq rfl); (case z4c5 => decide); (case z4kB => exact locs rfl); (case z4c2 => exact rfl); (case z4c3 => exact rfl); (case z4c4 => exact rfl); k_whole);
      rename Frag.In _ _ => xX; rename Top _ _ _ _ _ _ => xT; clear xX xT)
  k_with "m_enterG" => (
      k_dflt (refine' enterG ?z5k4 ?z5k5 ?z5kH ?z5F ?z5N ?z5k6 ?z5k7 ?z5k8 ?z5k9 ?z5kB ?_ ?z5c2 ?z5c3 ?z5c4 ?z5c5; (case z5kH => assumption); (case z5F => assumption); (case z5N => assumption); (case z5k4 => k_asm); (case z5k5 => k_asm); (case z5k6 => k_is); (case z5k7 => k_is); (case z5k8 => (simp only [recursionLimit]; omega)); (case z5k9 => exact BindsTo.of_eq rfl); (case z5c5 => decide); (case z5kB => exact locs rfl); (case z5c2 => exact rfl); (case z5c3 => exact rfl); (case z5c4 => exact rfl); k_whole))
  k_with "m_enterGC" => (
      k_dflt (refine' enterGC ?z6k4 ?z6k5 ?z6kH ?z6F ?z6N ?z6k6 ?z6k7 ?z6k8 ?z6k9 ?z6kB ?z6kD ?_ ?z6c2 ?z6c3 ?z6c4; (case z6kH => assumption); (case z6F => assumption); (case z6N => assumption); (case z6k4 => k_asm); (case z6k5 => k_asm); (case z6k6 => k_is); (case z6k7 => k_is); (case z6k8 => (simp only [recursionLimit]; omega)); (case z6k9 => exact BindsTo.of_eq rfl); (case z6kB => exact rfl); (case z6kD => decide +kernel); (case z6c2 => exact rfl); (case z6c3 => exact rfl); (case z6c4 => exact rfl); k_whole))
  k_with "m_enterE" => (
      k_dflt (refine' enterE ?z8k4 ?z8k5 ?z8kH ?z8F ?z8N ?z8k6 ?z8k7 ?z8k8 ?z8k9 ?z8kB ?_ ?z8c2 ?z8c3 ?z8c4 ?z8c5; (case z8kH => assumption); (case z8F => assumption); (case z8N => assumption); (case z8k4 => k_asm); (case z8k5 => k_asm); (case z8k6 => k_is); (case z8k7 => k_is); (case z8k8 => (simp only [recursionLimit]; omega)); (case z8k9 => exact BindsTo.of_eq rfl); (case z8c5 => decide); (case z8kB => exact locs rfl); (case z8c2 => exact rfl); (case z8c3 => exact rfl); (case z8c4 => exact rfl); k_whole))
  k_with "m_enterEC" => (
      k_dflt (refine' enterEC ?z9k4 ?z9k5 ?z9kH ?z9F ?z9N ?z9k6 ?z9k7 ?z9k8 ?z9k9 ?z9kB ?z9kD ?_ ?z9c2 ?z9c3 ?z9c4; (case z9kH => assumption); (case z9F => assumption); (case z9N => assumption); (case z9k4 => k_asm); (case z9k5 => k_asm); (case z9k6 => k_is); (case z9k7 => k_is); (case z9k8 => (simp only [recursionLimit]; omega)); (case z9k9 => exact BindsTo.of_eq rfl); (case z9kB => exact rfl); (case z9kD => decide +kernel); (case z9c2 => exact rfl); (case z9c3 => exact rfl); (case z9c4 => exact rfl); k_whole))
  k_with "m_in" => first
    | with_reducible apply in_hd
    | (with_reducible apply in_l; walk_at "m_in")
    | (with_reducible apply in_r; walk_at "m_in")
    | (with_reducible apply in_tl; walk_at "m_in")
    | apply in_hd
    | assumption
  k_with "m_sub3" => first
    | with_reducible apply sub_id
    | (with_reducible apply sub_l; walk_at "m_sub3")
    | (with_reducible apply sub_r; walk_at "m_sub3")
    | (with_reducible apply sub_tl; walk_at "m_sub3")
  k_with "m_perm2" => ((repeat' (first | with_reducible apply sub_nil | with_reducible apply sub_app | with_reducible apply sub_cons)); all_goals (first | walk_at "m_in" | walk_at "m_sub3"))
  k_with "m_perm" => (intro p hp; simp only [List.cons_append, List.nil_append, List.append_assoc, List.append_nil, List.mem_cons, List.mem_append, List.not_mem_nil, or_false, or_assoc] at hp ⊢; (repeat' (first | (cases hp with | inl hp => ?_ | inr hp => ?_) | fail)); all_goals (repeat (first | apply hp | apply Or.inl hp | apply Or.inr)))
  k_with "m_notin" => first | exact notIn_of2 (by assumption) | (refine notIn_of ?_ ?_ ?_ ?_ ?_ <;> first | omega | assumption)
  k_with "m_off" => (refine Ap.all ?_; simp only [Ap, and_true]; omega)
  k_with "m_front" => first
    | assumption
    | exact rot2 (by assumption)
    | exact rot3 (by assumption)
    | exact rot4 (by assumption)
    | exact rot5 (by assumption)
    | exact rot6 (by assumption)
    | exact rot7 (by assumption)
    | exact rot8 (by assumption)
    | exact rot9 (by assumption)
  k_with "call builtin:list.append" => (k_dflt (refine' append_L ?zaF ?zaN ?zao ?zaz ?_; (case zaF => k_asm); (case zaN => walk_at "m_front"); (case zao => first | k_all | walk_at "m_off"); (case zaz => omega); k_whole; intro h9 F9 N9))
  k_with "compareOp NotIn int ref" => (k_dflt (refine' notin_L ?zbN ?zbm ?zbI ?_; (case zbN => k_asm); (case zbm => k_mem); (case zbI => assumption); k_whole))
  k_with "call builtin:len" => (k_dflt (refine' len_listK ?z7N ?z7l ?z7z ?_; (case z7N => k_asm); (case z7l => k_mem); (case z7z => omega); k_whole))
  trivial
theorem Pure.more {w : World} {H : Heap} {r r' : Nat} {f : Addr} {ds : List PyData} {d : PyData} (C : Pure w H r f ds d) (h : r ≤ r') : Pure w H r' f ds d :=
  fun dp un fr gd h₀ L m news D s vs Q E hdp hun => C dp un fr gd h₀ L m news D s vs Q E (by omega) (by omega)
theorem Pt.rest_len {α : Type} {sq : Bool} {ps : List (Pt α)} {mk : Mk} : (rowPairs sq (ps.map fun p => (p.pairs, p.edge false, p.edge true, p.nothing))).length ≤ (Pt.node sq ps mk).pairs.length := by
  rw [Pt.pairs, List.length_append]; omega
theorem mkRep {mk : Mk} : ([Str.ofString "*", Str.ofString "+"].any fun x => x == mk.str) = mk.rep := by cases mk <;> decide
theorem enter183 {w : World} {mean : ExcName → Option Value} {mg mb : Str → Option Value} {H : Heap} (RT : Root w mean mg mb H) {s : Shared} (hH' : H.StaysIn s.heap) {dp un : Nat} (hdp : dp < 900) {fr : Option (List Env)} {gd : Option (List Code)} {v : Value} {Q E : Value → Shared → Prop}
    (h : ∀ L1 h₁ tk oL oP oA fr' gd', Fr s.heap L1 h₁ (fun _ => none) → News s.heap L1 h₁ [(L1 + 1 + 1 + 1, oL), (L1 + 1 + 1, oP), (L1 + 1, oA)] → oL.data = .cell none → oP.data = .cell none → oA.data = .cell (some v) →
      (KK w.params).In s.heap → Top VV (looseW VV []) mean mg mb s.heap → wpAny (model PySem.Challenge.rw_nu0043_01.row.prog w) (AA (dp + 1) fr' gd' (un + 3)) (execs B183 (envOfC "_law_pairs" S183 L1 183 (.ref 182))) (fun fl s' => Q (retv fl) s') NoE { s with heap := h₁, toks := tk }) :
    wpAny (model PySem.Challenge.rw_nu0043_01.row.prog w) (AA dp fr gd un) (call (.ref 183) [v]) Q E s := by
  obtain ⟨X, T⟩ := RT
  walk_at "m_enterD"
  intro L1 h1 tk1 cells1 fr1 gd1 F1 N1 Y1 X1 T1
  k_cells Y1
  (try simp only [List.cons_append, List.nil_append] at N1)
  rename (_ = Data.cell _) => d1
  exact h L1 h1 tk1 _ _ _ fr1 gd1 F1 N1 (by assumption) (by assumption) (by assumption) X1 T1
theorem pairs_pure {w : World} {mean : ExcName → Option Value} {mg mb : Str → Option Value} {H : Heap} (RT : Root w mean mg mb H) {α : Type} (enc : α → PyData) :
    ∀ n, ∀ p : Pt α, p.height < n → p.ok → p.height ≤ 3 → p.leaves ≤ 50 → Pure w H (p.height + 16) 183 [p.data enc] (.list (p.pairs.map (encP enc))) := by
  intro n
  induction n with
  | zero => intro p h; exact absurd h (Nat.not_lt_zero _)
  | succ n IH =>
  intro p hpn pok hh3 hlv
  have EP := edge_pure RT enc
  have RT0 := RT
  obtain ⟨X, T⟩ := RT
  intro dp un fr gd h₀ L m news D s vs Q E hdp hun hH F N hD hR hret
  obtain ⟨v, rfl, hv⟩ := RdAll.one hR
  have hH' : H.StaysIn s.heap := fun b o e => F.keep b o (hH b o e)
  cases p with
  | name x mk =>
    simp only [Pt.data] at hv
    obtain ⟨a, vs, na, rfl, ha, hv⟩ := hv.tuple_inv
    obtain ⟨v0, v1, v2, rfl, hv0, hv1, hv2⟩ := hv.three
    obtain ⟨t0, rfl⟩ := hv0.str_inv
    obtain ⟨t2, rfl⟩ := hv2.str_inv
    have hT : IsTup s.heap a #[.str "name" t0, v1, .str mk.str t2] := ⟨_, hD _ _ ha, rfl, _, rfl⟩
    refine enter183 RT0 hH' (by omega) ?_
    intro L1 h1 tk1 oL oP oA fr1 gd1 F1 N1 dL dP dA X1 T1
    clear X T
    dsimp only [B183, fnBody, S183, fnScope]
    k_steps
    all_goals (
      rename News _ _ _ _ => NN
      rename Fr _ _ _ _ => FF
      rename (List.any _ _ = _) => e1
      rw [mkRep] at e1
      show Q _ _
      refine fin (w := w) (s := s) (D := D) F N hret FF NN (ROut.listE (.head _) ?_)
      rw [Pt.pairs, e1])
    · exact RdAll.one' (Rd.tuple (n := 0) (.inr (.tail _ (.head _))) (.cons (hv1.mono fun _ _ h => .inl h) (.cons (hv1.mono fun _ _ h => .inl h) .nil)))
    · exact RdAll.nil
  | node sq ps mk =>
    simp only [Pt.data] at hv
    obtain ⟨a, vs, na, rfl, ha, hv⟩ := hv.tuple_inv
    obtain ⟨v0, v1, v2, rfl, hv0, hv1, hv2⟩ := hv.three
    obtain ⟨t0, rfl⟩ := hv0.str_inv
    obtain ⟨t2, rfl⟩ := hv2.str_inv
    obtain ⟨b, ws, n', rfl, hb, hw⟩ := hv1.tuple_inv
    have hT : IsTup s.heap a #[.str (kindStr sq) t0, .ref b, .str mk.str t2] := ⟨_, hD _ _ ha, rfl, _, rfl⟩
    have hB : IsTup s.heap b ws.toArray := ⟨_, hD _ _ hb, rfl, _, rfl⟩
    rw [Pt.ok] at pok
    have hwl := hw.length
    rw [List.length_map] at hwl
    have hpl3 : ps.length ≤ 3 := by rcases pok.1 with h | h <;> omega
    have hkid : ∀ q ∈ ps, q.height < (Pt.node sq ps mk).height := fun q hq => Pt.height_kid hq
    have hlkid : ∀ q ∈ ps, q.leaves ≤ (Pt.node sq ps mk).leaves := fun q hq => Pt.leaves_kid hq
    have hkn : (kindStr sq == Str.ofString "name") = false := by cases sq <;> decide
    refine enter183 RT0 hH' (by omega) ?_
    intro L1 h1 tk1 oL oP oA fr1 gd1 F1 N1 dL dP dA X1 T1
    clear X T
    dsimp only [B183, fnBody, S183, fnScope]
    have hb6 : (rowPairs sq (ps.map fun p => (p.pairs, p.edge false, p.edge true, p.nothing))).length ≤ 20000 := by
      have h1 := Nat.le_trans Pt.rest_len (Pt.pairs_len _ (Pt.node sq ps mk) (Nat.lt_succ_self _))
      have h2 := Nat.mul_le_mul hlv hlv
      have h3 := Nat.mul_le_mul (Nat.mul_le_mul_left 2 hh3) h2
      omega
    have hq6 : ∀ q ∈ ps, q.pairs.length ≤ 50000 := fun q hq => by
      have h0 := hkid q hq
      have h9 := hlkid q hq
      have h1 : q.leaves * q.leaves ≤ 50 * 50 := Nat.mul_le_mul (by omega) (by omega)
      have h2 := Nat.mul_le_mul (Nat.mul_le_mul_left 2 (show q.height ≤ 3 by omega)) h1
      have h3 := Pt.pairs_len _ q (Nat.lt_succ_self _)
      omega
    k_steps
    rename IsRange _ _ _ _ _ _ _ _ => hr
    rename Fr _ _ _ _ => FF
    rename News _ _ _ _ => NN
    rename (_ = Data.cell (some _)) => dP1
    rename (_ < _ ∧ _ < _ ∧ _ < _) => l1
    rename_i l0 _ _ _ oP1 _ _
    have NN2 : News s.heap L1 h9 ((L1 + 1 + 1 + 1, oL) :: (L1 + 1 + 1, oP1) :: (L1 + 1, oA) :: ([] ++ [(l0, lstO [] 0)])) := fun p hp => NN p (by simp only [List.mem_cons, List.nil_append] at hp ⊢; grind)
    refine' FSrc.range (a := ((0 : Nat) : Int)) (b := ((ps.length : Nat) : Int)) (n := ps.length) rfl ?rF ?rN ?rR (range_small (by omega) (by omega)) (range_size (by omega)) ?_
    case rF => exact FF
    case rN => exact NN2
    case rR => exact hr
    intro I9 off9
    refine FRest.ind (fun i m nw => ∃ acc, PJ D enc L1 oP1 oA [] acc m nw ∧ acc ++ rowPairs sq ((ps.drop i).map fun p => (p.pairs, p.edge false, p.edge true, p.nothing)) = rowPairs sq (ps.map fun p => (p.pairs, p.edge false, p.edge true, p.nothing))) ?step ?done trivial ?start
    case start =>
      refine ⟨[], ⟨oL, _, [(l0, lstO [] 0)], l0, [], 0, dL, ⟨?_, trivial⟩, ⟨?_, trivial⟩, ⟨?_, trivial⟩, (fun _ h => nomatch h), rfl, .head _, RdAll.nil⟩, rfl⟩
      · exact Ne.symm (Nat.ne_of_lt l1.1)
      · exact Ne.symm (Nat.ne_of_lt l1.2.1)
      · exact Ne.symm (Nat.ne_of_lt l1.2.2)
    case step =>
      rintro i m' nw v oI h tk E' hi - ⟨acc, J, hacc⟩ ⟨tv, rfl⟩ F5 N5 off
      obtain ⟨oL2, xL, tl, lf, fv, nf, dL2, ap3, ap2, ap1, hfr, mf, hmem, hfv⟩ := J
      obtain ⟨q, hq⟩ : ∃ q, ps[i]? = some q := ⟨_, List.getElem?_eq_getElem hi⟩
      have hqm := List.mem_of_getElem? hq
      have hdrop : ps.drop i = q :: ps.drop (i + 1) := by
        obtain ⟨h1, h2⟩ := List.getElem?_eq_some_iff.mp hq
        rw [List.drop_eq_getElem_cons h1, h2]
      rw [hdrop, List.map_cons, rowPairs] at hacc
      have hal := congrArg List.length hacc
      simp only [List.length_append] at hal
      rw [show ((0 : Nat) : Int) + (i : Int) = i by omega]
      k_with "execs cons Assign cons" => (apply of_hold)
      k_steps
      unfold Hold
      rename Fr _ _ _ _ => F6
      rename News _ _ _ _ => N6
      have off' := Ap.of off
      simp only [Ap] at off'
      obtain ⟨o3, o2, o1, oR⟩ := off'
      rw [List.nil_append] at oR ap1 ap2 ap3
      refine wpAny_mono (pairs_out RT0 hH' enc pok.2 (fun p hp => by have := hkid p hp; omega) (fun p hp => by have := hlkid p hp; omega) hpl3 (rk := (Pt.node sq ps mk).height + 15) (by omega) (fun p hp => (IH p (by have := hkid p hp; omega) (pok.2 p hp) (by have := hkid p hp; omega) (by have := hlkid p hp; omega)).more (by have := hkid p hp; omega))
        hD hb hw ha hq (m := fun y => if y = Str.ofString "at" then some (Value.int (i : Int) tv) else m' y) (rest := [(I9, oI)]) (nw := (L1 + 1 + 1 + 1, oL2) :: (L1 + 1 + 1, oP1) :: (L1 + 1, oA) :: ([(I9, oI)] ++ tl)) F6 (fun p hp => N6 p ?_) dP1 dA
        ⟨oL2, xL, tl, lf, fv, nf, dL2, ⟨Ne.symm o3, ap3⟩, ⟨Ne.symm o2, ap2⟩, ⟨Ne.symm o1, ap1⟩, ?_, mf, hmem, hfv⟩ rfl (by omega) (hq6 q hqm) (by omega) (by omega) ?_) (fun _ _ h => h) fun _ _ e => e.elim
      · simp only [List.mem_cons, List.cons_append, List.nil_append] at hp ⊢; grind
      · intro x hx p hp
        obtain rfl := List.mem_singleton.mp hx
        exact oR.all p hp
      · rintro h7 tk7 m7 nw7 F7 N7 ⟨oL7, xL7, tl7, lf7, fv7, nf7, dL7, ap37, ap27, ap17, fr7, mf7, hm7, rd7⟩
        refine FEnd.next F7 N7 ((L1 + 1 + 1 + 1, oL7) :: (L1 + 1 + 1, oP1) :: (L1 + 1, oA) :: ([] ++ tl7)) (fun p hp => ?_) ?_ trivial
          ⟨_, ⟨oL7, xL7, tl7, lf7, fv7, nf7, dL7, (Ap.app.mp ap37).2, (Ap.app.mp ap27).2, (Ap.app.mp ap17).2, (fun _ h => nomatch h), mf7, hm7, rd7⟩, ?_⟩
        · simp only [List.mem_cons, List.cons_append, List.nil_append] at hp ⊢; grind
        · simp only [List.forall_mem_cons]
          exact ⟨o3, o2, o1, fr7 _ (.head _)⟩
        · rw [← hacc, List.map_map]
          simp only [List.append_assoc, Function.comp_def]
    case done =>
      rintro m' nw h tk - ⟨acc, J, hacc⟩ F5 N5 off
      obtain ⟨oL2, xL, tl, lf, fv, nf, dL2, ap3, ap2, ap1, hfr, mf, hmem, hfv⟩ := J
      rw [List.drop_length, List.map_nil, rowPairs, List.append_nil] at hacc
      subst hacc
      have hfl := hfv.length
      rw [List.length_map] at hfl
      have hpm := hv
      have elv : (Pt.node sq ps mk).leaves ≤ 1000 := by omega
      have eok : (Pt.node sq ps mk).ok := by rw [Pt.ok]; exact pok
      have hrp : Rd D (.ref a) ((Pt.node sq ps mk).data enc) := by
        obtain ⟨v', hv', hr'⟩ := RdAll.one hR
        cases hv'
        exact hr'
      k_with "m_call" => (refine' Pure.use (EP _ _ (Nat.lt_succ_self _) ?eokk ?elv _) (RdAll.cons ?eR (RdAll.one' (Rd.bool _))) ?edp ?eun ?eH ?eF ?eN ?eDD ?_; (case eR => with_reducible assumption); (case eokk => assumption); (case elv => assumption); (case edp => omega); (case eun => omega); (case eH => with_reducible assumption); (case eF => k_asm); (case eN => k_asm); (case eDD => exact fun b o e => Fr.keep (by k_asm) b o (hD b o e)); intro r9 tl9 h9 tk9 F9 N9 hne9 hst9 ho9; obtain ⟨a9, vs9, n9, rfl, hm9, hvs9⟩ := ho9.list_inv; have hl9 := hvs9.length; rw [List.length_map] at hl9)
      k_with "eval ListComp" => (apply of_hold)
      clear off
      k_steps
      · unfold Hold
        refine' comp_eval2 ?y2kF ?y2k3 ?y2k4 ?y2k5 ?y2k6 ?_
        case y2kF => k_asm
        case y2k3 => with_unfolding_all rfl
        case y2k4 => decide
        case y2k5 => exact rfl
        case y2k6 => decide
        k_steps
        have F8 := F9
        have N8 := N9
        obtain ⟨tlE, htE⟩ : ∃ tlE, tlE = tl9 := ⟨_, rfl⟩
        subst htE
        generalize hbase : (_ :: (L1 + 1 + 1 + 1, oL2) :: (L1 + 1 + 1, oP1) :: (L1 + 1, oA) :: ([] ++ tl)) ++ tlE = base at N8
        have hb9 : ∀ p ∈ tlE, p ∈ base := fun p hp => by rw [← hbase]; exact List.mem_append.mpr (.inr hp)
        have hvE := hvs9
        have hlE := hl9
        have hcA : (L1 + 1, oA) ∈ base := by rw [← hbase]; k_mem
        have hcR : ∀ p ∈ tl, p ∈ base := fun p hp => by rw [← hbase]; k_mem
        have hcf := hcR _ hmem
        have eR : ((Pt.node sq ps mk).edge true).length ≤ 50 := Nat.le_trans (Pt.edge_len true _ _ (Nat.lt_succ_self _)) hlv
        have eQ : ((Pt.node sq ps mk).edge false).length ≤ 50 := Nat.le_trans (Pt.edge_len false _ _ (Nat.lt_succ_self _)) hlv
        generalize hEq : (Pt.node sq ps mk).edge false = ef at *
        generalize hEr : (Pt.node sq ps mk).edge true = er at *
        refine' CSrc.name (tup := false) (its := vs9) (n := n9) rfl ?pF ?pN (.inr ?pm) rfl rfl ?_
        case pF => exact F8
        case pN => exact N8
        case pm => exact hb9 _ hm9
        rintro I8 C8 D8 s₂ ⟨hh, tt, rfl⟩ hIC hID hCD off
        dsimp only
        refine CRest.two rfl rfl rfl rfl (by decide) rfl rfl (fun _ => rfl) hIC hID hCD (ProdJ D enc ef er base tlE) ?step ?done ?hS₀ ?start
        case start => exact ⟨(Nat.zero_mul _).symm, [], (List.append_nil _).symm, (by simp), RdAll.nil⟩
        case hS₀ => exact .inr (hb9 _ hm9)
        case step =>
          clear F9 N9 hne9 hst9 hbase
          rintro j ys' nw v oI oC mC h7 tk7 E7 hj hsrc ⟨hyl', tl', rfl, hfr', hys'⟩ hP hns hB F7 N7 off7
          k_steps
          obtain ⟨x, hx, -, rx, -⟩ := hvE.get_map hP
          have hpr : prod (ef.take (j + 1)) er = prod (ef.take j) er ++ er.map fun y => (x, y) := by
            rw [List.take_add_one, hx]; simp [prod, List.flatMap_append]
          have hj' : j ≤ 50 := by omega
          have hjm : j * er.length ≤ 50 * 50 := Nat.mul_le_mul hj' eR
          rw [hEr] at hl9 hvs9
          refine' PSrc.intro (AndL (AndL D tlE) tl9) F9 hns hB N9 (off_app off7 hne9) (.inr (List.mem_append.mpr (.inr hm9))) ?p1 (rx.mono fun b o h => .inl h) (hvs9.mono fun b o h => h.imp .inl id) ?p2
          case p1 => rw [sizeLine_eq]; omega
          case p2 =>
            intro tl2 us hfr2 hus hul
            refine ⟨hsrc.more fun p hp => List.mem_append.mpr (.inl (List.mem_append.mpr (.inl hp))), ?_, tl' ++ tl9 ++ tl2, (by show ((base ++ tl') ++ tl9) ++ tl2 = _; simp only [List.append_assoc]), ?_, ?_⟩
            · rw [List.length_append, hul, hl9, hyl', Nat.succ_mul]
            · intro x hx p hp
              rcases List.mem_append.mp hp with hp | hp
              · rcases List.mem_append.mp hp with hp | hp
                · exact hfr' x hx p hp
                · exact hne9 x (.tail _ (.tail _ (.tail _ (List.mem_append.mpr (.inl hx))))) p hp
              · exact hfr2 x (List.mem_append.mpr (.inl (List.mem_append.mpr (.inl hx)))) p hp
            · rw [hpr, List.map_append, ← List.append_assoc, ← List.append_assoc]
              refine RdAll.append (hys'.mono fun b o h => h.imp id fun h => List.mem_append.mpr (.inl (List.mem_append.mpr (.inl h)))) ?_
              rw [List.map_map] at hus
              rw [List.map_map]
              refine RdAll.mono ?_ hus
              rintro b o (((h | h) | h) | h)
              · exact .inl h
              · exact .inr (List.mem_append.mpr (.inl (List.mem_append.mpr (.inl (List.mem_append.mpr (.inl h))))))
              · exact .inr (List.mem_append.mpr (.inl (List.mem_append.mpr (.inr h))))
              · exact .inr (List.mem_append.mpr (.inr h))
        case done =>
          clear F9 N9 hne9 hst9
          rintro ys' nw hsrc ⟨hyl', tl', rfl, hfr', hys'⟩
          rw [hlE, List.take_length] at hys'
          have hyl2 : ys'.length ≤ 50 * 50 := by rw [hyl', hlE]; exact Nat.mul_le_mul eQ eR
          k_steps
          rename (List.any _ _ = _) => e1
          rename Fr _ _ _ _ => FF
          rename News _ _ _ _ => NN
          rw [mkRep] at e1
          show Q _ _
          refine fin (w := w) (s := s) (D := D) F N hret FF NN (ROut.listE (.head _) ?_)
          rw [Pt.pairs, e1, if_pos rfl, List.map_append, hEq, hEr]
          refine RdAll.append (hfv.mono fun b o h => h.imp id fun h => .tail _ (.tail _ (List.mem_append.mpr (.inl (hcR _ h))))) (hys'.mono fun b o h => h.imp id fun h => ?_)
          rcases List.mem_append.mp h with h | h
          · exact .tail _ (.tail _ (List.mem_append.mpr (.inl (hb9 _ h))))
          · exact .tail _ (.tail _ (List.mem_append.mpr (.inr h)))
      · rename (List.any _ _ = _) => e1
        rename Fr _ _ _ _ => FF
        rename News _ _ _ _ => NN
        rw [mkRep] at e1
        show Q _ _
        refine fin (w := w) (s := s) (D := D) F N hret FF NN (ROut.listE (.tail _ (.tail _ (.tail _ (.tail _ hmem)))) ?_)
        rw [Pt.pairs, e1]
        simp only [Bool.false_eq_true, if_false, List.append_nil]
        exact hfv.mono fun b o h => h.imp id fun h => .tail _ (.tail _ (.tail _ (.tail _ h)))
theorem words_addall : True := by
  w_top off
  k_with_none
  k_with "m_enter" => (
      refine wpAny_call ?_;
      k_dflt (refine' enterP0 ?q0k4 ?q0k5 ?q0kH ?q0k6 ?q0k7 ?q0k8 ?q0k9 ?q0kB ?_ ?q0c2 ?q0c3 ?q0c4 ?q0c5; (case q0kH => assumption); (case q0k4 => k_asm); (case q0k5 => k_asm); (case q0k6 => k_is); (case q0k7 => k_is); (case q0k8 => (simp only [recursionLimit]; omega)); (case q0k9 => exact BindsTo.of_eq rfl); (case q0c5 => decide); (case q0kB => exact locs rfl); (case q0c2 => exact rfl); (case q0c3 => exact rfl); (case q0c4 => exact rfl); k_whole);
      rename Frag.In _ _ => xX; rename Top _ _ _ _ _ _ => xT; clear xX xT;
      intro L' h' tk' F' N' X' T'; (try dsimp only); (try k_fold))
  k_with "m_enter0" => (
      refine wpAny_call ?_;
      k_dflt (refine' enterP0 ?q1k4 ?q1k5 ?q1kH ?q1k6 ?q1k7 ?q1k8 ?q1k9 ?q1kB ?_ ?q1c2 ?q1c3 ?q1c4 ?q1c5; (case q1kH => assumption); (case q1k4 => k_asm); (case q1k5 => k_asm); (case q1k6 => k_is); (case q1k7 => k_is); (case q1k8 => (simp only [recursionLimit]; omega)); (case q1k9 => exact BindsTo.of_eq rfl); (case q1c5 => decide); (case q1kB => exact locs rfl); (case q1c2 => exact rfl); (case q1c3 => exact rfl); (case q1c4 => exact rfl); k_whole);
      rename Frag.In _ _ => xX; rename Top _ _ _ _ _ _ => xT; clear xX xT)
  k_with "m_enterC" => (
      refine wpAny_call ?_;
      k_dflt (refine' enterC0 ?q2k4 ?q2k5 ?q2kH ?q2k6 ?q2k7 ?q2k8 ?q2k9 ?q2kB ?q2kD ?_ ?q2c2 ?q2c3 ?q2c4; (case q2kH => assumption); (case q2k4 => k_asm); (case q2k5 => k_asm); (case q2k6 => k_is); (case q2k7 => k_is); (case q2k8 => (simp only [recursionLimit]; omega)); (case q2k9 => exact BindsTo.of_eq rfl); (case q2kB => exact rfl); (case q2kD => decide +kernel); (case q2c2 => exact rfl); (case q2c3 => exact rfl); (case q2c4 => exact rfl); k_whole);
      rename Frag.In _ _ => xX; rename Top _ _ _ _ _ _ => xT; clear xX xT;
      intro L' h' tk' cells' F' N' Y' X' T'; k_cells Y'; (try simp only [List.cons_append, List.nil_append] at N'); (try dsimp only); (try k_fold))
  k_with "m_enterC0" => (
      refine wpAny_call ?_;
      k_dflt (refine' enterC0 ?q3k4 ?q3k5 ?q3kH ?q3k6 ?q3k7 ?q3k8 ?q3k9 ?q3kB ?q3kD ?_ ?q3c2 ?q3c3 ?q3c4; (case q3kH => assumption); (case q3k4 => k_asm); (case q3k5 => k_asm); (case q3k6 => k_is); (case q3k7 => k_is); (case q3k8 => (simp only [recursionLimit]; omega)); (case q3k9 => exact BindsTo.of_eq rfl); (case q3kB => exact rfl); (case q3kD => decide +kernel); (case q3c2 => exact rfl); (case q3c3 => exact rfl); (case q3c4 => exact rfl); k_whole);
      rename Frag.In _ _ => xX; rename Top _ _ _ _ _ _ => xT; clear xX xT)
  k_with "call ref" => k_dflt (k_extra "m_call")
  k_with "exec Assign cons ListComp" => (k_dflt (refine' comp_assign ?q5kF (emitOne _) ?q5k0 ?q5k1 ?q5k2 ?q5k3 ?q5k4 ?q5k5 ?q5k6 ?q5k7 ?q5k8 ?_; (case q5kF => k_asm); (case q5k0 => exact rfl); (case q5k1 => (intros; rfl)); (case q5k2 => exact rfl); (case q5k3 => with_unfolding_all rfl); (case q5k4 => decide); (case q5k5 => exact rfl); (case q5k6 => decide); (case q5k7 => exact rfl); (case q5k8 => exact rfl); k_whole))
  k_with "eval ListComp" => (k_dflt (refine' comp_eval ?q6kF (emitOne _) ?q6k1 ?q6k3 ?q6k4 ?q6k5 ?q6k6 ?_; (case q6kF => k_asm); (case q6k1 => (intros; rfl)); (case q6k3 => with_unfolding_all rfl); (case q6k4 => decide); (case q6k5 => exact rfl); (case q6k6 => decide); k_whole))
  k_with "exec For Name Subscript cons nil" => (k_dflt (refine' for_rule ?q7kF ?_; (case q7kF => k_asm); k_whole))
  k_with "exec For Name Name cons nil" => (k_dflt (refine' for_rule ?q8kF ?_; (case q8kF => k_asm); k_whole))
  k_with "exec For Name IfExp cons nil" => (k_dflt (refine' for_rule ?q9kF ?_; (case q9kF => k_asm); k_whole))
  k_with "exec For Name Call cons nil" => (k_dflt (refine' for_rule ?q10kF ?_; (case q10kF => k_asm); k_whole))
  k_with "exec For Name ListComp cons nil" => (k_dflt (refine' for_rule ?q11kF ?_; (case q11kF => k_asm); k_whole))
  k_with "exec For Tuple Name cons nil" => (k_dflt (refine' for_rule ?q12kF ?_; (case q12kF => k_asm); k_whole))
  k_with "FSrc" => k_dflt (k_extra "m_fsrc")
  k_with "FRest" => k_dflt (k_extra "m_frest")
  k_with "FEnd" => k_dflt (k_extra "m_fend")
  k_with "CSrc" => k_dflt (k_extra "m_src")
  k_with "CRest" => k_dflt (k_extra "m_rest")
  k_with "CEnd" => k_dflt (k_extra "m_cend")
  k_with "FinA" => (unfold FinA; intro h9 tk9 F9 N9 ne9; (try rw [lst_eq] at N9))
  k_with "FinE" => (unfold FinE; intro h9 tk9 F9 N9 ne9; (try rw [lst_eq] at N9))
  k_with "execs cons Assign cons" => refine wpAny_execs_cons ?_
  k_with "execs cons Assign nil" => refine wpAny_execs_cons ?_
  k_with "execs cons If cons" => refine wpAny_execs_cons ?_
  k_with "execs cons If nil" => refine wpAny_execs_cons ?_
  k_with "execs cons For cons" => refine wpAny_execs_cons ?_
  k_with "execs cons For nil" => refine wpAny_execs_cons ?_
  k_with "execs cons Return cons" => refine wpAny_execs_cons ?_
  k_with "execs cons Return nil" => refine wpAny_execs_cons ?_
  k_with "execs cons Expr cons" => refine wpAny_execs_cons ?_
  k_with "execs cons Expr nil" => refine wpAny_execs_cons ?_
  k_with "ite" => first | (rw [if_neg (by decide +kernel)]) | (rw [if_pos (by decide +kernel)])
  k_with "subscriptTail Name Constant ref int" => (k_dflt (refine' item_tupleT ?q32k1 ?q32k2 ?q32k3 ?q32k4 ?q32k5 ?_; (case q32k1 => exact Fr.tup (by k_asm) (by assumption)); (case q32k2 => decide); (case q32k3 => decide); (case q32k4 => rfl); (case q32k5 => rfl); k_whole))
  k_with "eval Name" => (k_dflt (refine' nameX_L ?q33k1 ?q33k2 ?_; (case q33k1 => k_asm); (case q33k2 => first | exact rfl | assumption); k_whole))
  k_with "binaryOp Add ref ref" => (k_dflt (refine' my_add ?q34F ?q34N ?q34a ?q34b ?q34z ?_; (case q34F => k_asm); (case q34N => k_asm); (case q34a => k_mem); (case q34b => k_mem); (case q34z => (rw [sizeLine_eq]; (try simp only [List.length_append, List.length_nil, List.length_cons]); omega)); k_whole; intro r9 h9 F9 N9 l9; (try k_lt l9)))
  k_with "subscriptTail Subscript" => (k_dflt (refine kba_turn (value' := PySem.Expr.Name (PySem.Str.ofString "_") ⟨0, 0, 0, 0⟩) (fun _ => rfl) ?_))
  k_with "subscriptTail Name Slice ref ref" => (k_dflt (refine' slice_tuple ?q36F ?q36N ?q36t ?q36pa ?q36pb ?q36pc ?q36h0 ?q36hno ?q36hz ?q36hsz ?_ ?q36hs ?q36hg; (case q36F => k_asm); (case q36N => k_asm); (case q36t => exact Fr.tup (by k_asm) (by assumption)); (case q36pa => first | exact IsPart.none | exact IsPart.int _ _); (case q36pb => first | exact IsPart.none | exact IsPart.int _ _); (case q36pc => first | exact IsPart.none | exact IsPart.int _ _); (case q36h0 => rfl); (case q36hno => rfl); (case q36hz => with_unfolding_all first | exact (rfl : _ = []) | exact (rfl : _ = [_]) | exact (rfl : _ = [_, _]) | exact (rfl : _ = [_, _, _])); (case q36hsz => (rw [sizeLine_eq]; exact Nat.le_of_ble_eq_true rfl)); (case q36hs => with_unfolding_all rfl); (case q36hg => (intro _; with_unfolding_all rfl)); k_whole; intro r9 h9 F9 N9 l9; (try k_lt l9)))
  k_with "m_sub" => (intro q9 h9; simp only [List.mem_cons, List.mem_append, h9, true_or, or_true])
  k_with "m_rdsub" => (intro b o h; first | exact h | exact Or.inl h | (refine Or.elim h Or.inl (fun h => Or.inr ?_); simp only [List.mem_cons, List.mem_append, h, true_or, or_true]))
  k_with "m_rd" => first
      | exact Rd.int _ _ | exact Rd.str _ _ | exact Rd.bool _ | assumption
      | (refine' Rd.mono ?q39hs ?q39hv; (case q39hv => assumption); (case q39hs => walk_at "m_rdsub"))
      | (refine Rd.tuple (Or.inr (by k_mem)) ?_; walk_at "m_rds")
  k_with "m_rds" => first
      | exact RdAll.nil
      | ((refine RdAll.cons ?_ ?_); (walk_at "m_rd"); (walk_at "m_rds"))
  k_with "call builtin:len" => (k_dflt (refine' len_tupK ?q41k1 ?q41k2 ?q41k3 ?_; (case q41k1 => exact Fr.tup (by k_asm) (by assumption)); (case q41k2 => assumption); (case q41k3 => omega); k_whole))
  k_with "call type:range" => (k_dflt (first | (refine' range1_rows ?q42k1 ?q42k2 ?_; (case q42k1 => k_asm); (case q42k2 => k_asm); k_whole; intro h9 tk9 t9 u9 v9 hr9 F9 N9 hk9) | (refine' range2_rows ?q42k1 ?q42k2 ?_; (case q42k1 => k_asm); (case q42k2 => k_asm); k_whole; intro h9 tk9 t9 u9 v9 hr9 F9 N9 hk9)))
  k_with "subscriptTail Name Name ref int" => (k_dflt (refine' item_sym ?q43k1 ?q43k2 ?q43k3 ?q43k4 ?_; (case q43k1 => exact Fr.tup (by k_asm) (by assumption)); (case q43k4 => assumption); (case q43k2 => omega); (case q43k3 => omega); k_whole))
  k_with "compareOp Eq ref ref" => (k_dflt (refine' list_eq_nil ?y1N ?y1a ?y1b ?y1u ?_; (case y1N => k_asm); (case y1a => k_mem); (case y1b => k_mem); (case y1u => (show _ < 9900; (try dsimp only); omega)); k_whole))
  k_with "m_enterD" => (
      k_dflt (refine' enterC1 ?z3k4 ?z3k5 ?z3kH ?z3k6 ?z3k7 ?z3k8 ?z3k9 ?z3kB ?z3kD ?_ ?z3c2 ?z3c3 ?z3c4; (case z3kH => assumption); (case z3k4 => k_asm); (case z3k5 => k_asm); (case z3k6 => k_is); (case z3k7 => k_is); (case z3k8 => (simp only [recursionLimit]; omega)); (case z3k9 => exact BindsTo.of_eq rfl); (case z3kB => exact rfl); (case z3kD => decide +kernel); (case z3c2 => exact rfl); (case z3c3 => exact rfl); (case z3c4 => exact rfl); k_whole);
      rename Frag.In _ _ => xX; rename Top _ _ _ _ _ _ => xT; clear xX xT)
  k_with "m_enterB" => (
      k_dflt (refine' enterP1 ?z4k4 ?z4k5 ?z4kH ?z4k6 ?z4k7 ?z4k8 ?z4k9 ?z4kB ?_ ?z4c2 ?z4c3 ?z4c4 ?z4c5; (case z4kH => assumption); (case z4k4 => k_asm); (case z4k5 => k_asm); (case z4k6 => k_is); (case z4k7 => k_is); (case z4k8 => (simp only [recursionLimit]; omega)); (case z4k9 => exact BindsTo.of_eq rfl); (case z4c5 => decide); (case z4kB => exact locs rfl); (case z4c2 => exact rfl); (case z4c3 => exact rfl); (case z4c4 => exact rfl); k_whole);
      rename Frag.In _ _ => xX; rename Top _ _ _ _ _ _ => xT; clear xX xT)
  k_with "m_enterG" => (
      k_dflt (refine' enterG ?z5k4 ?z5k5 ?z5kH ?z5F ?z5N ?z5k6 ?z5k7 ?z5k8 ?z5k9 ?z5kB ?_ ?z5c2 ?z5c3 ?z5c4 ?z5c5; (case z5kH => assumption); (case z5F => assumption); (case z5N => assumption); (case z5k4 => k_asm); (case z5k5 => k_asm); (case z5k6 => k_is); (case z5k7 => k_is); (case z5k8 => (simp only [recursionLimit]; omega)); (case z5k9 => exact BindsTo.of_eq rfl); (case z5c5 => decide); (case z5kB => exact locs rfl); (case z5c2 => exact rfl); (case z5c3 => exact rfl); (case z5c4 => exact rfl); k_whole))
  k_with "m_enterGC" => (
      k_dflt (refine' enterGC ?z6k4 ?z6k5 ?z6kH ?z6F ?z6N ?z6k6 ?z6k7 ?z6k8 ?z6k9 ?z6kB ?z6kD ?_ ?z6c2 ?z6c3 ?z6c4; (case z6kH => assumption); (case z6F => assumption); (case z6N => assumption); (case z6k4 => k_asm); (case z6k5 => k_asm); (case z6k6 => k_is); (case z6k7 => k_is); (case z6k8 => (simp only [recursionLimit]; omega)); (case z6k9 => exact BindsTo.of_eq rfl); (case z6kB => exact rfl); (case z6kD => decide +kernel); (case z6c2 => exact rfl); (case z6c3 => exact rfl); (case z6c4 => exact rfl); k_whole))
  k_with "m_enterE" => (
      k_dflt (refine' enterE ?z8k4 ?z8k5 ?z8kH ?z8F ?z8N ?z8k6 ?z8k7 ?z8k8 ?z8k9 ?z8kB ?_ ?z8c2 ?z8c3 ?z8c4 ?z8c5; (case z8kH => assumption); (case z8F => assumption); (case z8N => assumption); (case z8k4 => k_asm); (case z8k5 => k_asm); (case z8k6 => k_is); (case z8k7 => k_is); (case z8k8 => (simp only [recursionLimit]; omega)); (case z8k9 => exact BindsTo.of_eq rfl); (case z8c5 => decide); (case z8kB => exact locs rfl); (case z8c2 => exact rfl); (case z8c3 => exact rfl); (case z8c4 => exact rfl); k_whole))
  k_with "m_enterEC" => (
      k_dflt (refine' enterEC ?z9k4 ?z9k5 ?z9kH ?z9F ?z9N ?z9k6 ?z9k7 ?z9k8 ?z9k9 ?z9kB ?z9kD ?_ ?z9c2 ?z9c3 ?z9c4; (case z9kH => assumption); (case z9F => assumption); (case z9N => assumption); (case z9k4 => k_asm); (case z9k5 => k_asm); (case z9k6 => k_is); (case z9k7 => k_is); (case z9k8 => (simp only [recursionLimit]; omega)); (case z9k9 => exact BindsTo.of_eq rfl); (case z9kB => exact rfl); (case z9kD => decide +kernel); (case z9c2 => exact rfl); (case z9c3 => exact rfl); (case z9c4 => exact rfl); k_whole))
  k_with "m_in" => first
    | with_reducible apply in_hd
    | (with_reducible apply in_l; walk_at "m_in")
    | (with_reducible apply in_r; walk_at "m_in")
    | (with_reducible apply in_tl; walk_at "m_in")
    | apply in_hd
    | assumption
  k_with "m_sub3" => first
    | with_reducible apply sub_id
    | (with_reducible apply sub_l; walk_at "m_sub3")
    | (with_reducible apply sub_r; walk_at "m_sub3")
    | (with_reducible apply sub_tl; walk_at "m_sub3")
  k_with "m_perm2" => ((repeat' (first | with_reducible apply sub_nil | with_reducible apply sub_app | with_reducible apply sub_cons)); all_goals (first | walk_at "m_in" | walk_at "m_sub3"))
  k_with "m_perm" => (intro p hp; simp only [List.cons_append, List.nil_append, List.append_assoc, List.append_nil, List.mem_cons, List.mem_append, List.not_mem_nil, or_false, or_assoc] at hp ⊢; (repeat' (first | (cases hp with | inl hp => ?_ | inr hp => ?_) | fail)); all_goals (repeat (first | apply hp | apply Or.inl hp | apply Or.inr)))
  k_with "m_notin" => first | exact notIn_of2 (by assumption) | (refine notIn_of ?_ ?_ ?_ ?_ ?_ <;> first | omega | assumption)
  k_with "m_off" => (refine Ap.all ?_; simp only [Ap, and_true]; omega)
  k_with "m_front" => first
    | assumption
    | exact rot2 (by assumption)
    | exact rot3 (by assumption)
    | exact rot4 (by assumption)
    | exact rot5 (by assumption)
    | exact rot6 (by assumption)
    | exact rot7 (by assumption)
    | exact rot8 (by assumption)
    | exact rot9 (by assumption)
  k_with "call builtin:list.append" => (k_dflt (refine' append_L ?zaF ?zaN ?zao ?zaz ?_; (case zaF => k_asm); (case zaN => walk_at "m_front"); (case zao => first | k_all | walk_at "m_off"); (case zaz => omega); k_whole; intro h9 F9 N9))
  k_with "compareOp NotIn int ref" => (k_dflt (refine' notin_L ?zbN ?zbm ?zbI ?_; (case zbN => k_asm); (case zbm => k_mem); (case zbI => assumption); k_whole))
  k_with "call builtin:len" => (k_dflt (refine' len_listK ?z7N ?z7l ?z7z ?_; (case z7N => k_asm); (case z7l => k_mem); (case z7z => omega); k_whole))
  trivial
inductive AddJ (lp lq : Addr) (ns ms : List Int) : Nat → (Str → Option Value) → List (Addr × Obj) → Prop
  | mk {i : Nat} {m : Str → Option Value} (vs' : List Value) (n' : Nat) : IntsAre vs' (ded ns (ms.take i)) → m "places" = some (.ref lp) → m "more" = some (.ref lq) → AddJ lp lq ns ms i m [(lp, lstO vs' n')]
theorem add_all_ok {w : World} {mean : ExcName → Option Value} {mg mb : Str → Option Value} {H : Heap} (RT : Root w mean mg mb H) {dp un : Nat} {fr : Option (List Env)} {gd : Option (List Code)} (hdp : dp + 5 < 900) (hun : un + 100 < 9000)
    {h₀ : Heap} {L : Addr} {m : Str → Option Value} {s : Shared} {lp lq : Addr} {vs ws : List Value} {ns ms : List Int} {n k : Nat} {news : List (Addr × Obj)} (hH : H.StaysIn h₀) (F : Fr h₀ L s.heap m) (N : News h₀ L s.heap ((lp, lstO vs n) :: news)) (hoff : ∀ p ∈ news, p.1 ≠ lp)
    (hq : s.heap.get? lq = some (lstO ws k)) (hqp : lq ≠ lp) (hv : IntsAre vs ns) (hw : IntsAre ws ms) (hz : ns.length + ms.length < 64) {Q E : Value → Shared → Prop}
    (hret : ∀ vs' n' h' tk', IntsAre vs' (addAll ns ms) → Fr h₀ L h' m → News h₀ L h' ((lp, lstO vs' n') :: news) → Q .none { s with heap := h', toks := tk' }) :
    wpAny (model PySem.Challenge.rw_nu0043_01.row.prog w) (AA dp fr gd un) (call (.ref 28) [.ref lp, .ref lq]) Q E s := by
  obtain ⟨X, T⟩ := RT
  have N0 : News h₀ L s.heap [(lp, lstO vs n)] := fun p hp => N p (List.mem_cons.mpr (.inl (List.mem_singleton.mp hp)))
  walk_at "m_enterE"
  intro L1 h1 tk1 g fr1 gd1 hg hHg F1 N1 hlt X1 T1
  clear X T
  have hqg : g.get? lq = some (lstO ws k) := by
    rw [hg, er_other _ (by simpa [adrs] using hqp)]
    exact hq
  have hwl := hw.length
  k_steps
  refine' FSrc.seq (tup := false) (its := ws) (n := k) rfl ?hF ?hN (.inl hqg) ?_
  case hF => k_asm
  case hN => k_asm
  intro I9 off9
  refine FRest.ind (AddJ lp lq ns ms) ?step ?done ?hS₀ ?start
  case hS₀ => exact .inl hqg
  case start => exact ⟨_, _, hv, rfl, rfl⟩
  case done =>
    rintro m9 nw h9 tk9 - ⟨vs', n', hI, hm1, hm2⟩ F9 N9 off9
    have hz1 : ms.take ws.length = ms := by rw [hwl]; exact List.take_length ..
    rw [hz1] at hI
    have hl := hI.length
    have hd := ded_len ns ms
    k_steps
    rename Fr g _ _ _ => F8
    rename News g _ _ _ => N8
    rename IntsAre _ (_ : List Int) => hI8
    rename List.Perm _ _ => hp8
    rename List.Pairwise _ _ => hs8
    rw [sort_uniq (hp8.trans (addAll_perm ns ms).symm) hs8 (addAll_sorted ns ms)] at hI8
    obtain ⟨F2, N2, -⟩ := backE1 (tl := []) hg F N hoff F8 N8 (fun _ h => by cases h)
    rw [List.append_nil] at N2
    exact hret _ _ _ _ hI8 F2 N2
  case step =>
    rintro i m9 nw v9 oI9 h9 tk9 E9 hi - ⟨vs', n', hI, hm1, hm2⟩ hP F9 N9 off9
    obtain ⟨x, t, rfl, hx, htake⟩ := ints_get hw hP
    have hl := hI.length
    have hd := ded_len ns (ms.take i)
    have ht : (ms.take i).length ≤ ms.length := by rw [List.length_take]; omega
    have hlpI : lp ≠ I9 := off9 _ (List.mem_singleton.mpr rfl)
    have hoI : ∀ p ∈ [(I9, oI9)], p.1 ≠ lp := by
      intro p hp
      rw [List.mem_singleton.mp hp]
      exact Ne.symm (off9 _ (List.mem_singleton.mpr rfl))
    k_steps
    · rename Fr g _ _ _ => F8
      rename News g _ _ _ => N8
      rename (List.any _ _ = _) => e1
      refine FEnd.next F8 N8 [(lp, lstO vs' n')] (fun _ h => h) off9 (.inl hqg) ⟨_, _, ?_, hm1, hm2⟩
      rw [htake, ded_snoc, e1, if_pos rfl]; exact hI
    · rename Fr g _ _ _ => F8
      rename News g _ _ _ => N8
      rename (List.any _ _ = _) => e1
      refine FEnd.next F8 N8 [(lp, lstO (vs' ++ [Value.int x t]) (n' + 1))] ?_ (fun p hp => by rw [List.mem_singleton.mp hp]; exact hlpI) (.inl hqg) ⟨_, _, ?_, hm1, hm2⟩
      · intro p hp
        rcases List.mem_cons.mp hp with rfl | hp
        · exact .tail _ (.head _)
        · rw [List.mem_singleton.mp hp]; exact .head _
      · rw [htake, ded_snoc, e1, if_neg (by decide)]; exact ints_snoc hI _ _
theorem words_join : True := by
  w_top off
  k_with_none
  k_with "m_enter" => (
      refine wpAny_call ?_;
      k_dflt (refine' enterP0 ?q0k4 ?q0k5 ?q0kH ?q0k6 ?q0k7 ?q0k8 ?q0k9 ?q0kB ?_ ?q0c2 ?q0c3 ?q0c4 ?q0c5; (case q0kH => assumption); (case q0k4 => k_asm); (case q0k5 => k_asm); (case q0k6 => k_is); (case q0k7 => k_is); (case q0k8 => (simp only [recursionLimit]; omega)); (case q0k9 => exact BindsTo.of_eq rfl); (case q0c5 => decide); (case q0kB => exact locs rfl); (case q0c2 => exact rfl); (case q0c3 => exact rfl); (case q0c4 => exact rfl); k_whole);
      rename Frag.In _ _ => xX; rename Top _ _ _ _ _ _ => xT; clear xX xT;
      intro L' h' tk' F' N' X' T'; (try dsimp only); (try k_fold))
  k_with "m_enter0" => (
      refine wpAny_call ?_;
      k_dflt (refine' enterP0 ?q1k4 ?q1k5 ?q1kH ?q1k6 ?q1k7 ?q1k8 ?q1k9 ?q1kB ?_ ?q1c2 ?q1c3 ?q1c4 ?q1c5; (case q1kH => assumption); (case q1k4 => k_asm); (case q1k5 => k_asm); (case q1k6 => k_is); (case q1k7 => k_is); (case q1k8 => (simp only [recursionLimit]; omega)); (case q1k9 => exact BindsTo.of_eq rfl); (case q1c5 => decide); (case q1kB => exact locs rfl); (case q1c2 => exact rfl); (case q1c3 => exact rfl); (case q1c4 => exact rfl); k_whole);
      rename Frag.In _ _ => xX; rename Top _ _ _ _ _ _ => xT; clear xX xT)
  k_with "m_enterC" => (
      refine wpAny_call ?_;
      k_dflt (refine' enterC0 ?q2k4 ?q2k5 ?q2kH ?q2k6 ?q2k7 ?q2k8 ?q2k9 ?q2kB ?q2kD ?_ ?q2c2 ?q2c3 ?q2c4; (case q2kH => assumption); (case q2k4 => k_asm); (case q2k5 => k_asm); (case q2k6 => k_is); (case q2k7 => k_is); (case q2k8 => (simp only [recursionLimit]; omega)); (case q2k9 => exact BindsTo.of_eq rfl); (case q2kB => exact rfl); (case q2kD => decide +kernel); (case q2c2 => exact rfl); (case q2c3 => exact rfl); (case q2c4 => exact rfl); k_whole);
      rename Frag.In _ _ => xX; rename Top _ _ _ _ _ _ => xT; clear xX xT;
      intro L' h' tk' cells' F' N' Y' X' T'; k_cells Y'; (try simp only [List.cons_append, List.nil_append] at N'); (try dsimp only); (try k_fold))
  k_with "m_enterC0" => (
      refine wpAny_call ?_;
      k_dflt (refine' enterC0 ?q3k4 ?q3k5 ?q3kH ?q3k6 ?q3k7 ?q3k8 ?q3k9 ?q3kB ?q3kD ?_ ?q3c2 ?q3c3 ?q3c4; (case q3kH => assumption); (case q3k4 => k_asm); (case q3k5 => k_asm); (case q3k6 => k_is); (case q3k7 => k_is); (case q3k8 => (simp only [recursionLimit]; omega)); (case q3k9 => exact BindsTo.of_eq rfl); (case q3kB => exact rfl); (case q3kD => decide +kernel); (case q3c2 => exact rfl); (case q3c3 => exact rfl); (case q3c4 => exact rfl); k_whole);
      rename Frag.In _ _ => xX; rename Top _ _ _ _ _ _ => xT; clear xX xT)
  k_with "call ref" => k_dflt (k_extra "m_call")
  k_with "exec Assign cons ListComp" => (k_dflt (refine' comp_assign ?q5kF (emitOne _) ?q5k0 ?q5k1 ?q5k2 ?q5k3 ?q5k4 ?q5k5 ?q5k6 ?q5k7 ?q5k8 ?_; (case q5kF => k_asm); (case q5k0 => exact rfl); (case q5k1 => (intros; rfl)); (case q5k2 => exact rfl); (case q5k3 => with_unfolding_all rfl); (case q5k4 => decide); (case q5k5 => exact rfl); (case q5k6 => decide); (case q5k7 => exact rfl); (case q5k8 => exact rfl); k_whole))
  k_with "eval ListComp" => (k_dflt (refine' comp_eval ?q6kF (emitOne _) ?q6k1 ?q6k3 ?q6k4 ?q6k5 ?q6k6 ?_; (case q6kF => k_asm); (case q6k1 => (intros; rfl)); (case q6k3 => with_unfolding_all rfl); (case q6k4 => decide); (case q6k5 => exact rfl); (case q6k6 => decide); k_whole))
  k_with "exec For Name Subscript cons nil" => (k_dflt (refine' for_rule ?q7kF ?_; (case q7kF => k_asm); k_whole))
  k_with "exec For Name Name cons nil" => (k_dflt (refine' for_rule ?q8kF ?_; (case q8kF => k_asm); k_whole))
  k_with "exec For Name IfExp cons nil" => (k_dflt (refine' for_rule ?q9kF ?_; (case q9kF => k_asm); k_whole))
  k_with "exec For Name Call cons nil" => (k_dflt (refine' for_rule ?q10kF ?_; (case q10kF => k_asm); k_whole))
  k_with "exec For Name ListComp cons nil" => (k_dflt (refine' for_rule ?q11kF ?_; (case q11kF => k_asm); k_whole))
  k_with "exec For Tuple Name cons nil" => (k_dflt (refine' for_rule ?q12kF ?_; (case q12kF => k_asm); k_whole))
  k_with "FSrc" => k_dflt (k_extra "m_fsrc")
  k_with "FRest" => k_dflt (k_extra "m_frest")
  k_with "FEnd" => k_dflt (k_extra "m_fend")
  k_with "CSrc" => k_dflt (k_extra "m_src")
  k_with "CRest" => k_dflt (k_extra "m_rest")
  k_with "CEnd" => k_dflt (k_extra "m_cend")
  k_with "FinA" => (unfold FinA; intro h9 tk9 F9 N9 ne9; (try rw [lst_eq] at N9))
  k_with "FinE" => (unfold FinE; intro h9 tk9 F9 N9 ne9; (try rw [lst_eq] at N9))
  k_with "execs cons Assign cons" => refine wpAny_execs_cons ?_
  k_with "execs cons Assign nil" => refine wpAny_execs_cons ?_
  k_with "execs cons If cons" => refine wpAny_execs_cons ?_
  k_with "execs cons If nil" => refine wpAny_execs_cons ?_
  k_with "execs cons For cons" => refine wpAny_execs_cons ?_
  k_with "execs cons For nil" => refine wpAny_execs_cons ?_
  k_with "execs cons Return cons" => refine wpAny_execs_cons ?_
  k_with "execs cons Return nil" => refine wpAny_execs_cons ?_
  k_with "execs cons Expr cons" => refine wpAny_execs_cons ?_
  k_with "execs cons Expr nil" => refine wpAny_execs_cons ?_
  k_with "ite" => first | (rw [if_neg (by decide +kernel)]) | (rw [if_pos (by decide +kernel)])
  k_with "subscriptTail Name Constant ref int" => (k_dflt (refine' item_tupleT ?q32k1 ?q32k2 ?q32k3 ?q32k4 ?q32k5 ?_; (case q32k1 => exact Fr.tup (by k_asm) (by assumption)); (case q32k2 => decide); (case q32k3 => decide); (case q32k4 => rfl); (case q32k5 => rfl); k_whole))
  k_with "eval Name" => (k_dflt (refine' nameX_L ?q33k1 ?q33k2 ?_; (case q33k1 => k_asm); (case q33k2 => first | exact rfl | assumption); k_whole))
  k_with "binaryOp Add ref ref" => (k_dflt (refine' my_add ?q34F ?q34N ?q34a ?q34b ?q34z ?_; (case q34F => k_asm); (case q34N => k_asm); (case q34a => k_mem); (case q34b => k_mem); (case q34z => (rw [sizeLine_eq]; (try simp only [List.length_append, List.length_nil, List.length_cons]); omega)); k_whole; intro r9 h9 F9 N9 l9; (try k_lt l9)))
  k_with "subscriptTail Subscript" => (k_dflt (refine kba_turn (value' := PySem.Expr.Name (PySem.Str.ofString "_") ⟨0, 0, 0, 0⟩) (fun _ => rfl) ?_))
  k_with "subscriptTail Name Slice ref ref" => (k_dflt (refine' slice_tuple ?q36F ?q36N ?q36t ?q36pa ?q36pb ?q36pc ?q36h0 ?q36hno ?q36hz ?q36hsz ?_ ?q36hs ?q36hg; (case q36F => k_asm); (case q36N => k_asm); (case q36t => exact Fr.tup (by k_asm) (by assumption)); (case q36pa => first | exact IsPart.none | exact IsPart.int _ _); (case q36pb => first | exact IsPart.none | exact IsPart.int _ _); (case q36pc => first | exact IsPart.none | exact IsPart.int _ _); (case q36h0 => rfl); (case q36hno => rfl); (case q36hz => with_unfolding_all first | exact (rfl : _ = []) | exact (rfl : _ = [_]) | exact (rfl : _ = [_, _]) | exact (rfl : _ = [_, _, _])); (case q36hsz => (rw [sizeLine_eq]; exact Nat.le_of_ble_eq_true rfl)); (case q36hs => with_unfolding_all rfl); (case q36hg => (intro _; with_unfolding_all rfl)); k_whole; intro r9 h9 F9 N9 l9; (try k_lt l9)))
  k_with "m_sub" => (intro q9 h9; simp only [List.mem_cons, List.mem_append, h9, true_or, or_true])
  k_with "m_rdsub" => (intro b o h; first | exact h | exact Or.inl h | (refine Or.elim h Or.inl (fun h => Or.inr ?_); simp only [List.mem_cons, List.mem_append, h, true_or, or_true]))
  k_with "m_rd" => first
      | exact Rd.int _ _ | exact Rd.str _ _ | exact Rd.bool _ | assumption
      | (refine' Rd.mono ?q39hs ?q39hv; (case q39hv => assumption); (case q39hs => walk_at "m_rdsub"))
      | (refine Rd.tuple (Or.inr (by k_mem)) ?_; walk_at "m_rds")
  k_with "m_rds" => first
      | exact RdAll.nil
      | ((refine RdAll.cons ?_ ?_); (walk_at "m_rd"); (walk_at "m_rds"))
  k_with "call builtin:len" => (k_dflt (refine' len_tupK ?q41k1 ?q41k2 ?q41k3 ?_; (case q41k1 => exact Fr.tup (by k_asm) (by assumption)); (case q41k2 => assumption); (case q41k3 => omega); k_whole))
  k_with "call type:range" => (k_dflt (first | (refine' range1_rows ?q42k1 ?q42k2 ?_; (case q42k1 => k_asm); (case q42k2 => k_asm); k_whole; intro h9 tk9 t9 u9 v9 hr9 F9 N9 hk9) | (refine' range2_rows ?q42k1 ?q42k2 ?_; (case q42k1 => k_asm); (case q42k2 => k_asm); k_whole; intro h9 tk9 t9 u9 v9 hr9 F9 N9 hk9)))
  k_with "subscriptTail Name Name ref int" => (k_dflt (refine' item_sym ?q43k1 ?q43k2 ?q43k3 ?q43k4 ?_; (case q43k1 => exact Fr.tup (by k_asm) (by assumption)); (case q43k4 => assumption); (case q43k2 => omega); (case q43k3 => omega); k_whole))
  k_with "compareOp Eq ref ref" => (k_dflt (refine' list_eq_nil ?y1N ?y1a ?y1b ?y1u ?_; (case y1N => k_asm); (case y1a => k_mem); (case y1b => k_mem); (case y1u => (show _ < 9900; (try dsimp only); omega)); k_whole))
  k_with "m_enterD" => (
      k_dflt (refine' enterC1 ?z3k4 ?z3k5 ?z3kH ?z3k6 ?z3k7 ?z3k8 ?z3k9 ?z3kB ?z3kD ?_ ?z3c2 ?z3c3 ?z3c4; (case z3kH => assumption); (case z3k4 => k_asm); (case z3k5 => k_asm); (case z3k6 => k_is); (case z3k7 => k_is); (case z3k8 => (simp only [recursionLimit]; omega)); (case z3k9 => exact BindsTo.of_eq rfl); (case z3kB => exact rfl); (case z3kD => decide +kernel); (case z3c2 => exact rfl); (case z3c3 => exact rfl); (case z3c4 => exact rfl); k_whole);
      rename Frag.In _ _ => xX; rename Top _ _ _ _ _ _ => xT; clear xX xT)
  k_with "m_enterB" => (
      k_dflt (refine' enterP1 ?z4k4 ?z4k5 ?z4kH ?z4k6 ?z4k7 ?z4k8 ?z4k9 ?z4kB ?_ ?z4c2 ?z4c3 ?z4c4 ?z4c5; (case z4kH => assumption); (case z4k4 => k_asm); (case z4k5 => k_asm); (case z4k6 => k_is); (case z4k7 => k_is); (case z4k8 => (simp only [recursionLimit]; omega)); (case z4k9 => exact BindsTo.of_eq rfl); (case z4c5 => decide); (case z4kB => exact locs rfl); (case z4c2 => exact rfl); (case z4c3 => exact rfl); (case z4c4 => exact rfl); k_whole);
      rename Frag.In _ _ => xX; rename Top _ _ _ _ _ _ => xT; clear xX xT)
  k_with "m_enterG" => (
      k_dflt (refine' enterG ?z5k4 ?z5k5 ?z5kH ?z5F ?z5N ?z5k6 ?z5k7 ?z5k8 ?z5k9 ?z5kB ?_ ?z5c2 ?z5c3 ?z5c4 ?z5c5; (case z5kH => assumption); (case z5F => assumption); (case z5N => assumption); (case z5k4 => k_asm); (case z5k5 => k_asm); (case z5k6 => k_is); (case z5k7 => k_is); (case z5k8 => (simp only [recursionLimit]; omega)); (case z5k9 => exact BindsTo.of_eq rfl); (case z5c5 => decide); (case z5kB => exact locs rfl); (case z5c2 => exact rfl); (case z5c3 => exact rfl); (case z5c4 => exact rfl); k_whole))
  k_with "m_enterGC" => (
      k_dflt (refine' enterGC ?z6k4 ?z6k5 ?z6kH ?z6F ?z6N ?z6k6 ?z6k7 ?z6k8 ?z6k9 ?z6kB ?z6kD ?_ ?z6c2 ?z6c3 ?z6c4; (case z6kH => assumption); (case z6F => assumption); (case z6N => assumption); (case z6k4 => k_asm); (case z6k5 => k_asm); (case z6k6 => k_is); (case z6k7 => k_is); (case z6k8 => (simp only [recursionLimit]; omega)); (case z6k9 => exact BindsTo.of_eq rfl); (case z6kB => exact rfl); (case z6kD => decide +kernel); (case z6c2 => exact rfl); (case z6c3 => exact rfl); (case z6c4 => exact rfl); k_whole))
  k_with "m_enterE" => (
      k_dflt (refine' enterE ?z8k4 ?z8k5 ?z8kH ?z8F ?z8N ?z8k6 ?z8k7 ?z8k8 ?z8k9 ?z8kB ?_ ?z8c2 ?z8c3 ?z8c4 ?z8c5; (case z8kH => assumption); (case z8F => assumption); (case z8N => assumption); (case z8k4 => k_asm); (case z8k5 => k_asm); (case z8k6 => k_is); (case z8k7 => k_is); (case z8k8 => (simp only [recursionLimit]; omega)); (case z8k9 => exact BindsTo.of_eq rfl); (case z8c5 => decide); (case z8kB => exact locs rfl); (case z8c2 => exact rfl); (case z8c3 => exact rfl); (case z8c4 => exact rfl); k_whole))
  k_with "m_enterEC" => (
      k_dflt (refine' enterEC ?z9k4 ?z9k5 ?z9kH ?z9F ?z9N ?z9k6 ?z9k7 ?z9k8 ?z9k9 ?z9kB ?z9kD ?_ ?z9c2 ?z9c3 ?z9c4; (case z9kH => assumption); (case z9F => assumption); (case z9N => assumption); (case z9k4 => k_asm); (case z9k5 => k_asm); (case z9k6 => k_is); (case z9k7 => k_is); (case z9k8 => (simp only [recursionLimit]; omega)); (case z9k9 => exact BindsTo.of_eq rfl); (case z9kB => exact rfl); (case z9kD => decide +kernel); (case z9c2 => exact rfl); (case z9c3 => exact rfl); (case z9c4 => exact rfl); k_whole))
  k_with "m_in" => first
    | with_reducible apply in_hd
    | (with_reducible apply in_l; walk_at "m_in")
    | (with_reducible apply in_r; walk_at "m_in")
    | (with_reducible apply in_tl; walk_at "m_in")
    | apply in_hd
    | assumption
  k_with "m_sub3" => first
    | with_reducible apply sub_id
    | (with_reducible apply sub_l; walk_at "m_sub3")
    | (with_reducible apply sub_r; walk_at "m_sub3")
    | (with_reducible apply sub_tl; walk_at "m_sub3")
  k_with "m_perm2" => ((repeat' (first | with_reducible apply sub_nil | with_reducible apply sub_app | with_reducible apply sub_cons)); all_goals (first | walk_at "m_in" | walk_at "m_sub3"))
  k_with "m_perm" => (intro p hp; simp only [List.cons_append, List.nil_append, List.append_assoc, List.append_nil, List.mem_cons, List.mem_append, List.not_mem_nil, or_false, or_assoc] at hp ⊢; (repeat' (first | (cases hp with | inl hp => ?_ | inr hp => ?_) | fail)); all_goals (repeat (first | apply hp | apply Or.inl hp | apply Or.inr)))
  k_with "m_notin" => first | exact notIn_of2 (by assumption) | (refine notIn_of ?_ ?_ ?_ ?_ ?_ <;> first | omega | assumption)
  k_with "m_off" => (refine Ap.all ?_; simp only [Ap, and_true]; omega)
  k_with "m_front" => first
    | assumption
    | exact rot2 (by assumption)
    | exact rot3 (by assumption)
    | exact rot4 (by assumption)
    | exact rot5 (by assumption)
    | exact rot6 (by assumption)
    | exact rot7 (by assumption)
    | exact rot8 (by assumption)
    | exact rot9 (by assumption)
  k_with "call builtin:list.append" => (k_dflt (refine' append_L ?zaF ?zaN ?zao ?zaz ?_; (case zaF => k_asm); (case zaN => walk_at "m_front"); (case zao => first | k_all | walk_at "m_off"); (case zaz => omega); k_whole; intro h9 F9 N9))
  k_with "compareOp NotIn int ref" => (k_dflt (refine' notin_L ?zbN ?zbm ?zbI ?_; (case zbN => k_asm); (case zbm => k_mem); (case zbI => assumption); k_whole))
  k_with "call builtin:len" => (k_dflt (refine' len_listK ?z7N ?z7l ?z7z ?_; (case z7N => k_asm); (case z7l => k_mem); (case z7z => omega); k_whole))
  trivial
inductive JoinJ (w : World) (sa sd ln df lb : Addr) (t1 t2 : Tok) (nvs : List Value) (nn : Nat) (dfO : Obj) (fl : List (Addr × Obj)) (fs : List (List Int)) (ends begins : List Int) : Nat → (Str → Option Value) → List (Addr × Obj) → Prop
  | mk {i : Nat} {m : Str → Option Value} (fl' : List (Addr × Obj)) : FlRel fl' (joinF fs (ends.take i) begins) → adrs fl' = adrs fl → kvsFrom 1 fl' = kvsFrom 1 fl → m "self" = some (.ref sa) → m "begins" = some (.ref lb) → JoinJ w sa sd ln df lb t1 t2 nvs nn dfO fl fs ends begins i m (AutL w sa sd ln df t1 t2 nvs nn dfO fl')
theorem join_ok {w : World} {mean : ExcName → Option Value} {mg mb : Str → Option Value} {H : Heap} (RT : Root w mean mg mb H) {dp un : Nat} {fr : Option (List Env)} {gd : Option (List Code)} (hdp : dp + 10 < 900) (hun : un + 200 < 9000)
    {h₀ : Heap} {L : Addr} {m : Str → Option Value} {s : Shared} {sa sd ln df le lb : Addr} {t1 t2 : Tok} {nvs evs bvs : List Value} {nn en bn : Nat} {dfO : Obj} {fl news : List (Addr × Obj)} {fs : List (List Int)} {ends begins : List Int} {K : Nat}
    (hH : H.StaysIn h₀) (F : Fr h₀ L s.heap m) (N : News h₀ L s.heap (AutL w sa sd ln df t1 t2 nvs nn dfO fl ++ news)) (hnd : (autA sa sd ln df fl).Nodup) (hoff : ∀ p ∈ news, p.1 ∉ autA sa sd ln df fl)
    (hd : dfO.IsDictOf (PySem.intKind PySem.Challenge.rw_nu0043_01.row.prog w) (kvsFrom 1 fl)) (hfl : FlRel fl fs) (hfs : ∀ f ∈ fs, OKs K f) (hK : K ≤ 9)
    (hle : s.heap.get? le = some (lstO evs en)) (hlen : le ∉ autA sa sd ln df fl) (hlb : s.heap.get? lb = some (lstO bvs bn)) (hlbn : lb ∉ autA sa sd ln df fl) (hev : IntsAre evs ends) (hbv : IntsAre bvs begins) (hends : OKs fs.length ends) (hbeg : OKs K begins) {Q E : Value → Shared → Prop}
    (hret : ∀ fl' h' tk', FlRel fl' (joinF fs ends begins) → adrs fl' = adrs fl → kvsFrom 1 fl' = kvsFrom 1 fl → Fr h₀ L h' m → News h₀ L h' (AutL w sa sd ln df t1 t2 nvs nn dfO fl' ++ news) → Q .none { s with heap := h', toks := tk' }) :
    wpAny (model PySem.Challenge.rw_nu0043_01.row.prog w) (AA dp fr gd un) (call (.ref 77) [.ref sa, .ref le, .ref lb]) Q E s := by
  have RT0 := RT
  obtain ⟨X, T⟩ := RT
  have N0 : News h₀ L s.heap (AutL w sa sd ln df t1 t2 nvs nn dfO fl) := fun p hp => N p (List.mem_append_left _ hp)
  walk_at "m_enterE"
  intro L1 h1 tk1 g fr1 gd1 hg hHg F1 N1 hlt X1 T1
  clear X T
  have hleg : g.get? le = some (lstO evs en) := by rw [hg]; exact (er_other s.heap (as := autA sa sd ln df fl) hlen).trans hle
  have hlbg : g.get? lb = some (lstO bvs bn) := by rw [hg]; exact (er_other s.heap (as := autA sa sd ln df fl) hlbn).trans hlb
  have hel := hev.length
  k_steps
  refine' FSrc.seq (tup := false) (its := evs) (n := en) rfl ?hF ?hN (.inl hleg) ?_
  case hF => k_asm
  case hN => k_asm
  intro I9 off9
  refine FRest.ind (JoinJ w sa sd ln df lb t1 t2 nvs nn dfO fl fs ends begins) ?step ?done ?hS₀ ?start
  case hS₀ => exact .inl hleg
  case start => exact ⟨_, hfl, rfl, rfl, rfl, rfl⟩
  case done =>
    rintro m9 nw h9 tk9 - ⟨fl', hfl', had, hkv, hm1, hm2⟩ F9 N9 off9
    have hz1 : ends.take evs.length = ends := by rw [hel]; exact List.take_length ..
    rw [hz1] at hfl'
    k_steps
    rename Fr g _ _ _ => F8
    rename News g _ _ _ => N8
    have N9' : News g L1 h9 (AutL w sa sd ln df t1 t2 nvs nn dfO fl' ++ []) := by rw [List.append_nil]; exact N8
    obtain ⟨F2, N2, -⟩ := backE (tl := []) (ps := AutL w sa sd ln df t1 t2 nvs nn dfO fl) (ps' := AutL w sa sd ln df t1 t2 nvs nn dfO fl') hg F N hoff F8 N9' (by simp only [adrs, List.map_cons] at had ⊢; rw [had]) (fun _ h => by cases h)
    rw [List.append_nil] at N2
    exact hret _ _ _ hfl' had hkv F2 N2
  case step =>
    rintro i m9 nw v9 oI9 h9 tk9 E9 hi - ⟨fl', hfl', had, hkv, hm1, hm2⟩ hP F9 N9 off9
    obtain ⟨x, t, rfl, hx, htake⟩ := ints_get hev hP
    have hxo := hends.2 x (List.mem_of_getElem? hx)
    have hlj := joinF_len begins (ends.take i) fs
    have hll := hfl'.length
    obtain ⟨a, vs, n, ns, ha, hns, hI⟩ := hfl'.get (i := x.toNat - 1) (by omega)
    have hva := kvsFrom_at (k := 1) ha
    rw [show (((1 + (x.toNat - 1) : Nat)) : Int) = x by omega] at hva
    rw [hkv] at hva
    have hnd' : (adrs fl').Nodup := by
      rw [had]
      simp only [autA, List.nodup_cons] at hnd
      exact hnd.2.2.2.2
    have hain : a ∈ adrs fl := by rw [← had]; exact List.mem_map.mpr ⟨_, List.mem_of_getElem? ha, rfl⟩
    have hne : ∀ b, b ∈ [sa, sd, ln, df] → b ≠ a := by
      intro b hb e
      simp only [autA, List.nodup_cons, List.mem_cons, not_or] at hnd
      simp only [List.mem_cons, List.not_mem_nil, or_false] at hb
      rcases hb with rfl | rfl | rfl | rfl
      · exact hnd.1.2.2.2 (e ▸ hain)
      · exact hnd.2.1.2.2 (e ▸ hain)
      · exact hnd.2.2.1.2 (e ▸ hain)
      · exact hnd.2.2.2.1 (e ▸ hain)
    have hnI : I9 ≠ a := fun e => off9 (a, lstO vs n) (List.mem_append_right [(sa, _), (sd, _), (ln, _), (df, _)] (List.mem_of_getElem? ha)) e.symm
    have hoff' : ∀ p ∈ (I9, oI9) :: (sa, instObj 129 sd) :: (sd, sdO w t1 t2 ln df) :: (ln, lstO nvs nn) :: (df, dfO) :: fl'.eraseIdx (x.toNat - 1), p.1 ≠ a := by
      simp only [List.forall_mem_cons]
      exact ⟨hnI, hne _ (by simp), hne _ (by simp), hne _ (by simp), hne _ (by simp), pick_ne ha hnd'⟩
    have hlba : lb ≠ a := fun e => hlbn (by
      simp only [autA, List.mem_cons]
      exact .inr (.inr (.inr (.inr (e ▸ hain)))))
    have hOK := joinF_getok (joinF_ok hbeg (ends.take i) hfs) hns
    have hz9 := hOK.len
    have hz8 := hbeg.len
    have hsub1 : ∀ p ∈ (a, lstO vs n) :: (I9, oI9) :: (sa, instObj 129 sd) :: (sd, sdO w t1 t2 ln df) :: (ln, lstO nvs nn) :: (df, dfO) :: fl'.eraseIdx (x.toNat - 1), p ∈ (I9, oI9) :: AutL w sa sd ln df t1 t2 nvs nn dfO fl' := by
      intro p hp
      have z := pick_mem ha p
      simp only [List.mem_cons] at hp z ⊢
      rcases hp with h | h | h | h | h | h | h
      · exact .inr (.inr (.inr (.inr (.inr (z (.inl h))))))
      · exact .inl h
      · exact .inr (.inl h)
      · exact .inr (.inr (.inl h))
      · exact .inr (.inr (.inr (.inl h)))
      · exact .inr (.inr (.inr (.inr (.inl h))))
      · exact .inr (.inr (.inr (.inr (.inr (z (.inr h))))))
    have hsub2 : ∀ vs8 n8, ∀ p ∈ (I9, oI9) :: AutL w sa sd ln df t1 t2 nvs nn dfO (fl'.set (x.toNat - 1) (a, lstO vs8 n8)), p ∈ (a, lstO vs8 n8) :: (I9, oI9) :: (sa, instObj 129 sd) :: (sd, sdO w t1 t2 ln df) :: (ln, lstO nvs nn) :: (df, dfO) :: fl'.eraseIdx (x.toNat - 1) := by
      intro vs8 n8 p hp
      have z := pick_set (fl := fl') (j := x.toNat - 1) (y := (a, lstO vs8 n8)) p
      simp only [List.mem_cons] at hp z ⊢
      rcases hp with h | h | h | h | h | h
      · simp only [h, true_or, or_true]
      · simp only [h, true_or, or_true]
      · simp only [h, true_or, or_true]
      · simp only [h, true_or, or_true]
      · simp only [h, true_or, or_true]
      · rcases z h with h | h <;> simp only [h, true_or, or_true]
    k_with "m_n1" => exact subN (by assumption) hsub1
    k_with "subscriptTail Name Name ref int" => (k_dflt (refine' kda_item (knd := PySem.intKind _ _) ?zN ?zp ?zd (intKind_is _ _ _ _) ?zl ?_; (case zN => k_asm); (case zp => k_mem); (case zd => assumption); (case zl => assumption); k_whole))
    k_with "m_call" => (refine' add_all_ok RT0 ?tdp ?tun hHg (n := n) (news := (I9, oI9) :: (sa, instObj 129 sd) :: (sd, sdO w t1 t2 ln df) :: (ln, lstO nvs nn) :: (df, dfO) :: fl'.eraseIdx (x.toNat - 1)) ?tF ?tN hoff' ?tq hlba hI hbv ?tz ?_; (case tdp => omega); (case tun => omega); (case tF => k_asm); (case tN => walk_at "m_n1"); (case tq => exact Fr.keep (by k_asm) _ _ hlbg); (case tz => omega); intro vs8 n8 h8 tk8 hI8 F8 N8)
    k_steps
    have hsa := adrs_set (o' := lstO vs8 n8) ha
    refine FEnd.next F8 N8 (AutL w sa sd ln df t1 t2 nvs nn dfO (fl'.set (x.toNat - 1) (a, lstO vs8 n8))) (hsub2 _ _) ?_ (.inl hleg) ⟨_, ?_, hsa.trans had, (kvsFrom_set ha).trans hkv, hm1, hm2⟩
    · intro p hp
      have hpa : p.1 ∈ autA sa sd ln df fl' := by
        rw [autA, ← hsa]
        exact List.mem_map.mpr ⟨p, hp, rfl⟩
      obtain ⟨q, hq, e⟩ := List.mem_map.mp (show p.1 ∈ adrs (AutL w sa sd ln df t1 t2 nvs nn dfO fl') from hpa)
      rw [← e]
      exact off9 q hq
    · rw [htake, joinF_snoc]
      exact hfl'.set (f := fun l => addAll l begins) hns hI8
theorem words_marked : True := by
  w_top off
  k_with_none
  k_with "m_enter" => (
      refine wpAny_call ?_;
      k_dflt (refine' enterP0 ?q0k4 ?q0k5 ?q0kH ?q0k6 ?q0k7 ?q0k8 ?q0k9 ?q0kB ?_ ?q0c2 ?q0c3 ?q0c4 ?q0c5; (case q0kH => assumption); (case q0k4 => k_asm); (case q0k5 => k_asm); (case q0k6 => k_is); (case q0k7 => k_is); (case q0k8 => (simp only [recursionLimit]; omega)); (case q0k9 => exact BindsTo.of_eq rfl); (case q0c5 => decide); (case q0kB => exact locs rfl); (case q0c2 => exact rfl); (case q0c3 => exact rfl); (case q0c4 => exact rfl); k_whole);
      rename Frag.In _ _ => xX; rename Top _ _ _ _ _ _ => xT; clear xX xT;
      intro L' h' tk' F' N' X' T'; (try dsimp only); (try k_fold))
  k_with "m_enter0" => (
      refine wpAny_call ?_;
      k_dflt (refine' enterP0 ?q1k4 ?q1k5 ?q1kH ?q1k6 ?q1k7 ?q1k8 ?q1k9 ?q1kB ?_ ?q1c2 ?q1c3 ?q1c4 ?q1c5; (case q1kH => assumption); (case q1k4 => k_asm); (case q1k5 => k_asm); (case q1k6 => k_is); (case q1k7 => k_is); (case q1k8 => (simp only [recursionLimit]; omega)); (case q1k9 => exact BindsTo.of_eq rfl); (case q1c5 => decide); (case q1kB => exact locs rfl); (case q1c2 => exact rfl); (case q1c3 => exact rfl); (case q1c4 => exact rfl); k_whole);
      rename Frag.In _ _ => xX; rename Top _ _ _ _ _ _ => xT; clear xX xT)
  k_with "m_enterC" => (
      refine wpAny_call ?_;
      k_dflt (refine' enterC0 ?q2k4 ?q2k5 ?q2kH ?q2k6 ?q2k7 ?q2k8 ?q2k9 ?q2kB ?q2kD ?_ ?q2c2 ?q2c3 ?q2c4; (case q2kH => assumption); (case q2k4 => k_asm); (case q2k5 => k_asm); (case q2k6 => k_is); (case q2k7 => k_is); (case q2k8 => (simp only [recursionLimit]; omega)); (case q2k9 => exact BindsTo.of_eq rfl); (case q2kB => exact rfl); (case q2kD => decide +kernel); (case q2c2 => exact rfl); (case q2c3 => exact rfl); (case q2c4 => exact rfl); k_whole);
      rename Frag.In _ _ => xX; rename Top _ _ _ _ _ _ => xT; clear xX xT;
      intro L' h' tk' cells' F' N' Y' X' T'; k_cells Y'; (try simp only [List.cons_append, List.nil_append] at N'); (try dsimp only); (try k_fold))
  k_with "m_enterC0" => (
      refine wpAny_call ?_;
      k_dflt (refine' enterC0 ?q3k4 ?q3k5 ?q3kH ?q3k6 ?q3k7 ?q3k8 ?q3k9 ?q3kB ?q3kD ?_ ?q3c2 ?q3c3 ?q3c4; (case q3kH => assumption); (case q3k4 => k_asm); (case q3k5 => k_asm); (case q3k6 => k_is); (case q3k7 => k_is); (case q3k8 => (simp only [recursionLimit]; omega)); (case q3k9 => exact BindsTo.of_eq rfl); (case q3kB => exact rfl); (case q3kD => decide +kernel); (case q3c2 => exact rfl); (case q3c3 => exact rfl); (case q3c4 => exact rfl); k_whole);
      rename Frag.In _ _ => xX; rename Top _ _ _ _ _ _ => xT; clear xX xT)
  k_with "call ref" => k_dflt (k_extra "m_call")
  k_with "exec Assign cons ListComp" => (k_dflt (refine' comp_assign ?q5kF (emitOne _) ?q5k0 ?q5k1 ?q5k2 ?q5k3 ?q5k4 ?q5k5 ?q5k6 ?q5k7 ?q5k8 ?_; (case q5kF => k_asm); (case q5k0 => exact rfl); (case q5k1 => (intros; rfl)); (case q5k2 => exact rfl); (case q5k3 => with_unfolding_all rfl); (case q5k4 => decide); (case q5k5 => exact rfl); (case q5k6 => decide); (case q5k7 => exact rfl); (case q5k8 => exact rfl); k_whole))
  k_with "eval ListComp" => (k_dflt (refine' comp_eval ?q6kF (emitOne _) ?q6k1 ?q6k3 ?q6k4 ?q6k5 ?q6k6 ?_; (case q6kF => k_asm); (case q6k1 => (intros; rfl)); (case q6k3 => with_unfolding_all rfl); (case q6k4 => decide); (case q6k5 => exact rfl); (case q6k6 => decide); k_whole))
  k_with "exec For Name Subscript cons nil" => (k_dflt (refine' for_rule ?q7kF ?_; (case q7kF => k_asm); k_whole))
  k_with "exec For Name Name cons nil" => (k_dflt (refine' for_rule ?q8kF ?_; (case q8kF => k_asm); k_whole))
  k_with "exec For Name IfExp cons nil" => (k_dflt (refine' for_rule ?q9kF ?_; (case q9kF => k_asm); k_whole))
  k_with "exec For Name Call cons nil" => (k_dflt (refine' for_rule ?q10kF ?_; (case q10kF => k_asm); k_whole))
  k_with "exec For Name ListComp cons nil" => (k_dflt (refine' for_rule ?q11kF ?_; (case q11kF => k_asm); k_whole))
  k_with "exec For Tuple Name cons nil" => (k_dflt (refine' for_rule ?q12kF ?_; (case q12kF => k_asm); k_whole))
  k_with "FSrc" => k_dflt (k_extra "m_fsrc")
  k_with "FRest" => k_dflt (k_extra "m_frest")
  k_with "FEnd" => k_dflt (k_extra "m_fend")
  k_with "CSrc" => k_dflt (k_extra "m_src")
  k_with "CRest" => k_dflt (k_extra "m_rest")
  k_with "CEnd" => k_dflt (k_extra "m_cend")
  k_with "FinA" => (unfold FinA; intro h9 tk9 F9 N9 ne9; (try rw [lst_eq] at N9))
  k_with "FinE" => (unfold FinE; intro h9 tk9 F9 N9 ne9; (try rw [lst_eq] at N9))
  k_with "execs cons Assign cons" => refine wpAny_execs_cons ?_
  k_with "execs cons Assign nil" => refine wpAny_execs_cons ?_
  k_with "execs cons If cons" => refine wpAny_execs_cons ?_
  k_with "execs cons If nil" => refine wpAny_execs_cons ?_
  k_with "execs cons For cons" => refine wpAny_execs_cons ?_
  k_with "execs cons For nil" => refine wpAny_execs_cons ?_
  k_with "execs cons Return cons" => refine wpAny_execs_cons ?_
  k_with "execs cons Return nil" => refine wpAny_execs_cons ?_
  k_with "execs cons Expr cons" => refine wpAny_execs_cons ?_
  k_with "execs cons Expr nil" => refine wpAny_execs_cons ?_
  k_with "ite" => first | (rw [if_neg (by decide +kernel)]) | (rw [if_pos (by decide +kernel)])
  k_with "subscriptTail Name Constant ref int" => (k_dflt (refine' item_tupleT ?q32k1 ?q32k2 ?q32k3 ?q32k4 ?q32k5 ?_; (case q32k1 => exact Fr.tup (by k_asm) (by assumption)); (case q32k2 => decide); (case q32k3 => decide); (case q32k4 => rfl); (case q32k5 => rfl); k_whole))
  k_with "eval Name" => (k_dflt (refine' nameX_L ?q33k1 ?q33k2 ?_; (case q33k1 => k_asm); (case q33k2 => first | exact rfl | assumption); k_whole))
  k_with "binaryOp Add ref ref" => (k_dflt (refine' my_add ?q34F ?q34N ?q34a ?q34b ?q34z ?_; (case q34F => k_asm); (case q34N => k_asm); (case q34a => k_mem); (case q34b => k_mem); (case q34z => (rw [sizeLine_eq]; (try simp only [List.length_append, List.length_nil, List.length_cons]); omega)); k_whole; intro r9 h9 F9 N9 l9; (try k_lt l9)))
  k_with "subscriptTail Subscript" => (k_dflt (refine kba_turn (value' := PySem.Expr.Name (PySem.Str.ofString "_") ⟨0, 0, 0, 0⟩) (fun _ => rfl) ?_))
  k_with "subscriptTail Name Slice ref ref" => (k_dflt (refine' slice_tuple ?q36F ?q36N ?q36t ?q36pa ?q36pb ?q36pc ?q36h0 ?q36hno ?q36hz ?q36hsz ?_ ?q36hs ?q36hg; (case q36F => k_asm); (case q36N => k_asm); (case q36t => exact Fr.tup (by k_asm) (by assumption)); (case q36pa => first | exact IsPart.none | exact IsPart.int _ _); (case q36pb => first | exact IsPart.none | exact IsPart.int _ _); (case q36pc => first | exact IsPart.none | exact IsPart.int _ _); (case q36h0 => rfl); (case q36hno => rfl); (case q36hz => with_unfolding_all first | exact (rfl : _ = []) | exact (rfl : _ = [_]) | exact (rfl : _ = [_, _]) | exact (rfl : _ = [_, _, _])); (case q36hsz => (rw [sizeLine_eq]; exact Nat.le_of_ble_eq_true rfl)); (case q36hs => with_unfolding_all rfl); (case q36hg => (intro _; with_unfolding_all rfl)); k_whole; intro r9 h9 F9 N9 l9; (try k_lt l9)))
  k_with "m_sub" => (intro q9 h9; simp only [List.mem_cons, List.mem_append, h9, true_or, or_true])
  k_with "m_rdsub" => (intro b o h; first | exact h | exact Or.inl h | (refine Or.elim h Or.inl (fun h => Or.inr ?_); simp only [List.mem_cons, List.mem_append, h, true_or, or_true]))
  k_with "m_rd" => first
      | exact Rd.int _ _ | exact Rd.str _ _ | exact Rd.bool _ | assumption
      | (refine' Rd.mono ?q39hs ?q39hv; (case q39hv => assumption); (case q39hs => walk_at "m_rdsub"))
      | (refine Rd.tuple (Or.inr (by k_mem)) ?_; walk_at "m_rds")
  k_with "m_rds" => first
      | exact RdAll.nil
      | ((refine RdAll.cons ?_ ?_); (walk_at "m_rd"); (walk_at "m_rds"))
  k_with "call builtin:len" => (k_dflt (refine' len_tupK ?q41k1 ?q41k2 ?q41k3 ?_; (case q41k1 => exact Fr.tup (by k_asm) (by assumption)); (case q41k2 => assumption); (case q41k3 => omega); k_whole))
  k_with "call type:range" => (k_dflt (first | (refine' range1_rows ?q42k1 ?q42k2 ?_; (case q42k1 => k_asm); (case q42k2 => k_asm); k_whole; intro h9 tk9 t9 u9 v9 hr9 F9 N9 hk9) | (refine' range2_rows ?q42k1 ?q42k2 ?_; (case q42k1 => k_asm); (case q42k2 => k_asm); k_whole; intro h9 tk9 t9 u9 v9 hr9 F9 N9 hk9)))
  k_with "subscriptTail Name Name ref int" => (k_dflt (refine' item_sym ?q43k1 ?q43k2 ?q43k3 ?q43k4 ?_; (case q43k1 => exact Fr.tup (by k_asm) (by assumption)); (case q43k4 => assumption); (case q43k2 => omega); (case q43k3 => omega); k_whole))
  k_with "compareOp Eq ref ref" => (k_dflt (refine' list_eq_nil ?y1N ?y1a ?y1b ?y1u ?_; (case y1N => k_asm); (case y1a => k_mem); (case y1b => k_mem); (case y1u => (show _ < 9900; (try dsimp only); omega)); k_whole))
  k_with "m_enterD" => (
      k_dflt (refine' enterC1 ?z3k4 ?z3k5 ?z3kH ?z3k6 ?z3k7 ?z3k8 ?z3k9 ?z3kB ?z3kD ?_ ?z3c2 ?z3c3 ?z3c4; (case z3kH => assumption); (case z3k4 => k_asm); (case z3k5 => k_asm); (case z3k6 => k_is); (case z3k7 => k_is); (case z3k8 => (simp only [recursionLimit]; omega)); (case z3k9 => exact BindsTo.of_eq rfl); (case z3kB => exact rfl); (case z3kD => decide +kernel); (case z3c2 => exact rfl); (case z3c3 => exact rfl); (case z3c4 => exact rfl); k_whole);
      rename Frag.In _ _ => xX; rename Top _ _ _ _ _ _ => xT; clear xX xT)
  k_with "m_enterB" => (
      k_dflt (refine' enterP1 ?z4k4 ?z4k5 ?z4kH ?z4k6 ?z4k7 ?z4k8 ?z4k9 ?z4kB ?_ ?z4c2 ?z4c3 ?z4c4 ?z4c5; (case z4kH => assumption); (case z4k4 => k_asm); (case z4k5 => k_asm); (case z4k6 => k_is); (case z4k7 => k_is); (case z4k8 => (simp only [recursionLimit]; omega)); (case z4k9 => exact BindsTo.of_eq rfl); (case z4c5 => decide); (case z4kB => exact locs rfl); (case z4c2 => exact rfl); (case z4c3 => exact rfl); (case z4c4 => exact rfl); k_whole);
      rename Frag.In _ _ => xX; rename Top _ _ _ _ _ _ => xT; clear xX xT)
  k_with "m_enterG" => (
      k_dflt (refine' enterG ?z5k4 ?z5k5 ?z5kH ?z5F ?z5N ?z5k6 ?z5k7 ?z5k8 ?z5k9 ?z5kB ?_ ?z5c2 ?z5c3 ?z5c4 ?z5c5; (case z5kH => assumption); (case z5F => assumption); (case z5N => assumption); (case z5k4 => k_asm); (case z5k5 => k_asm); (case z5k6 => k_is); (case z5k7 => k_is); (case z5k8 => (simp only [recursionLimit]; omega)); (case z5k9 => exact BindsTo.of_eq rfl); (case z5c5 => decide); (case z5kB => exact locs rfl); (case z5c2 => exact rfl); (case z5c3 => exact rfl); (case z5c4 => exact rfl); k_whole))
  k_with "m_enterGC" => (
      k_dflt (refine' enterGC ?z6k4 ?z6k5 ?z6kH ?z6F ?z6N ?z6k6 ?z6k7 ?z6k8 ?z6k9 ?z6kB ?z6kD ?_ ?z6c2 ?z6c3 ?z6c4; (case z6kH => assumption); (case z6F => assumption); (case z6N => assumption); (case z6k4 => k_asm); (case z6k5 => k_asm); (case z6k6 => k_is); (case z6k7 => k_is); (case z6k8 => (simp only [recursionLimit]; omega)); (case z6k9 => exact BindsTo.of_eq rfl); (case z6kB => exact rfl); (case z6kD => decide +kernel); (case z6c2 => exact rfl); (case z6c3 => exact rfl); (case z6c4 => exact rfl); k_whole))
  k_with "m_enterE" => (
      k_dflt (refine' enterE ?z8k4 ?z8k5 ?z8kH ?z8F ?z8N ?z8k6 ?z8k7 ?z8k8 ?z8k9 ?z8kB ?_ ?z8c2 ?z8c3 ?z8c4 ?z8c5; (case z8kH => assumption); (case z8F => assumption); (case z8N => assumption); (case z8k4 => k_asm); (case z8k5 => k_asm); (case z8k6 => k_is); (case z8k7 => k_is); (case z8k8 => (simp only [recursionLimit]; omega)); (case z8k9 => exact BindsTo.of_eq rfl); (case z8c5 => decide); (case z8kB => exact locs rfl); (case z8c2 => exact rfl); (case z8c3 => exact rfl); (case z8c4 => exact rfl); k_whole))
  k_with "m_enterEC" => (
      k_dflt (refine' enterEC ?z9k4 ?z9k5 ?z9kH ?z9F ?z9N ?z9k6 ?z9k7 ?z9k8 ?z9k9 ?z9kB ?z9kD ?_ ?z9c2 ?z9c3 ?z9c4; (case z9kH => assumption); (case z9F => assumption); (case z9N => assumption); (case z9k4 => k_asm); (case z9k5 => k_asm); (case z9k6 => k_is); (case z9k7 => k_is); (case z9k8 => (simp only [recursionLimit]; omega)); (case z9k9 => exact BindsTo.of_eq rfl); (case z9kB => exact rfl); (case z9kD => decide +kernel); (case z9c2 => exact rfl); (case z9c3 => exact rfl); (case z9c4 => exact rfl); k_whole))
  k_with "m_in" => first
    | with_reducible apply in_hd
    | (with_reducible apply in_l; walk_at "m_in")
    | (with_reducible apply in_r; walk_at "m_in")
    | (with_reducible apply in_tl; walk_at "m_in")
    | apply in_hd
    | assumption
  k_with "m_sub3" => first
    | with_reducible apply sub_id
    | (with_reducible apply sub_l; walk_at "m_sub3")
    | (with_reducible apply sub_r; walk_at "m_sub3")
    | (with_reducible apply sub_tl; walk_at "m_sub3")
  k_with "m_perm2" => ((repeat' (first | with_reducible apply sub_nil | with_reducible apply sub_app | with_reducible apply sub_cons)); all_goals (first | walk_at "m_in" | walk_at "m_sub3"))
  k_with "m_perm" => (intro p hp; simp only [List.cons_append, List.nil_append, List.append_assoc, List.append_nil, List.mem_cons, List.mem_append, List.not_mem_nil, or_false, or_assoc] at hp ⊢; (repeat' (first | (cases hp with | inl hp => ?_ | inr hp => ?_) | fail)); all_goals (repeat (first | apply hp | apply Or.inl hp | apply Or.inr)))
  k_with "m_notin" => first | exact notIn_of2 (by assumption) | (refine notIn_of ?_ ?_ ?_ ?_ ?_ <;> first | omega | assumption)
  k_with "m_off" => (refine Ap.all ?_; simp only [Ap, and_true]; omega)
  k_with "m_front" => first
    | assumption
    | exact rot2 (by assumption)
    | exact rot3 (by assumption)
    | exact rot4 (by assumption)
    | exact rot5 (by assumption)
    | exact rot6 (by assumption)
    | exact rot7 (by assumption)
    | exact rot8 (by assumption)
    | exact rot9 (by assumption)
  k_with "call builtin:list.append" => (k_dflt (refine' append_L ?zaF ?zaN ?zao ?zaz ?_; (case zaF => k_asm); (case zaN => walk_at "m_front"); (case zao => first | k_all | walk_at "m_off"); (case zaz => omega); k_whole; intro h9 F9 N9))
  k_with "compareOp NotIn int ref" => (k_dflt (refine' notin_L ?zbN ?zbm ?zbI ?_; (case zbN => k_asm); (case zbm => k_mem); (case zbI => assumption); k_whole))
  k_with "call builtin:len" => (k_dflt (refine' len_listK ?z7N ?z7l ?z7z ?_; (case z7N => k_asm); (case z7l => k_mem); (case z7z => omega); k_whole))
  trivial
theorem walkPerm1 (x : Addr × Obj) (l : List (Addr × Obj)) : ∀ p ∈ l ++ [x], p ∈ x :: l := by
  intro p hp
  rcases List.mem_append.mp hp with hp | hp
  · exact .tail _ hp
  · rw [List.mem_singleton.mp hp]; exact .head _
theorem marked_ok {w : World} {mean : ExcName → Option Value} {mg mb : Str → Option Value} {H : Heap} (RT : Root w mean mg mb H) {dp un : Nat} {fr : Option (List Env)} {gd : Option (List Code)} (hdp : dp + 15 < 900) (hun : un + 300 < 9000)
    {h₀ : Heap} {L : Addr} {m : Str → Option Value} {s : Shared} {sa sd ln df : Addr} {t1 t2 tm : Tok} {nvs : List Value} {nn : Nat} {dfO : Obj} {fl news : List (Addr × Obj)} {fs : List (List Int)} {K : Nat} {D : Addr → Obj → Prop} {r : Value} {f : Fd} {mk : Mk}
    (hH : H.StaysIn h₀) (F : Fr h₀ L s.heap m) (N : News h₀ L s.heap (AutL w sa sd ln df t1 t2 nvs nn dfO fl ++ news)) (hnd : (autA sa sd ln df fl).Nodup) (hoff : ∀ p ∈ news, p.1 ∉ autA sa sd ln df fl)
    (hd : dfO.IsDictOf (PySem.intKind PySem.Challenge.rw_nu0043_01.row.prog w) (kvsFrom 1 fl)) (hfl : FlRel fl fs) (hfs : ∀ f ∈ fs, OKs K f) (hK : K ≤ 9) (hKf : K = fs.length)
    (hD : ∀ b o, D b o → s.heap.get? b = some o ∧ b ∉ autA sa sd ln df fl) (hr : FoundD D r f) (ho1 : OKs K f.2.1) (ho2 : OKs K f.2.2) {Q E : Value → Shared → Prop}
    (hret : ∀ r' fl' tl h' tk', FlRel fl' (if mk.rep then joinF fs f.2.2 f.2.1 else fs) → adrs fl' = adrs fl → kvsFrom 1 fl' = kvsFrom 1 fl → FoundD (fun b o => (b, o) ∈ tl) r' (f.1 || mk.nul, f.2.1, f.2.2) → Fr h₀ L h' m →
      News h₀ L h' (AutL w sa sd ln df t1 t2 nvs nn dfO fl' ++ (news ++ tl)) → (∀ q ∈ AutL w sa sd ln df t1 t2 nvs nn dfO fl' ++ news, ∀ p ∈ tl, p.1 ≠ q.1) → Q r' { s with heap := h', toks := tk' }) :
    wpAny (model PySem.Challenge.rw_nu0043_01.row.prog w) (AA dp fr gd un) (call (.ref 70) [.ref sa, r, .str mk.str tm]) Q E s := by
  have RT0 := RT
  obtain ⟨X, T⟩ := RT
  obtain ⟨b, fF, fL⟩ := f
  obtain ⟨rt, a1, a2, v1, v2, n1, n2, nt, rfl, hr1, hr2, hr3, hi1, hi2, hne⟩ := hr
  have N0 : News h₀ L s.heap (AutL w sa sd ln df t1 t2 nvs nn dfO fl) := fun p hp => N p (List.mem_append_left _ hp)
  walk_at "m_enterE"
  intro L1 h1 tk1 g fr1 gd1 hg hHg F1 N1 hlt X1 T1
  clear X T
  have hDg : ∀ b o, D b o → g.get? b = some o := fun b o h => by rw [hg]; exact (er_other s.heap (as := autA sa sd ln df fl) (hD b o h).2).trans (hD b o h).1
  have hT : IsTup g rt #[.bool b, .ref a1, .ref a2] := ⟨_, hDg _ _ hr1, rfl, _, rfl⟩
  have hL1 : g.IsList a1 v1.toArray := ⟨_, hDg _ _ hr2, rfl, n1, rfl⟩
  have hL2 : g.IsList a2 v2.toArray := ⟨_, hDg _ _ hr3, rfl, n2, rfl⟩
  dsimp only at hi1 hi2
  have hz1 := ho1.len
  have hz2 := ho2.len
  have hz3 := hi1.length
  have hz4 := hi2.length
  dsimp only at hz1 hz2 hret
  have fin9 : ∀ (fl' nw : List (Addr × Obj)) (rt' a1' a2' : Addr) (nt' n1' n2' : Nat) (bb : Bool) (h' : Heap) (tk' : Nat) (m' : Str → Option Value), Fr g L1 h' m' → News g L1 h' nw → (∀ p ∈ AutL w sa sd ln df t1 t2 nvs nn dfO fl', p ∈ nw) → (rt', tupO [.bool bb, .ref a1', .ref a2'] nt') ∈ nw → (a1', lstO v1 n1') ∈ nw → (a2', lstO v2 n2') ∈ nw →
      rt' ∉ autA sa sd ln df fl → a1' ∉ autA sa sd ln df fl → a2' ∉ autA sa sd ln df fl → @Ne Nat a1' a2' → FlRel fl' (if mk.rep then joinF fs fL fF else fs) → adrs fl' = adrs fl → kvsFrom 1 fl' = kvsFrom 1 fl → bb = (b || mk.nul) → Q (.ref rt') { s with heap := h', toks := tk' } := by
    intro fl' nw rt' a1' a2' nt' n1' n2' bb h' tk' m' F' N' hs g1 g2 g3 e1 e2 e3 e4 hfl' had hkv hb
    have hps : adrs (AutL w sa sd ln df t1 t2 nvs nn dfO fl') = adrs (AutL w sa sd ln df t1 t2 nvs nn dfO fl) := by simp only [adrs, List.map_cons] at had ⊢; rw [had]
    have hN' : News g L1 h' (AutL w sa sd ln df t1 t2 nvs nn dfO fl' ++ [(rt', tupO [.bool bb, .ref a1', .ref a2'] nt'), (a1', lstO v1 n1'), (a2', lstO v2 n2')]) := subN N' fun p hp => by
      rcases List.mem_append.mp hp with hp | hp
      · exact hs p hp
      · simp only [List.mem_cons, List.not_mem_nil, or_false] at hp
        rcases hp with rfl | rfl | rfl <;> assumption
    obtain ⟨F2, N2, ne2, -⟩ := backE (ps := AutL w sa sd ln df t1 t2 nvs nn dfO fl) hg F N hoff F' hN' hps (fun p hp => by
      simp only [List.mem_cons, List.not_mem_nil, or_false] at hp
      rcases hp with rfl | rfl | rfl <;> assumption)
    exact hret _ fl' _ _ _ hfl' had hkv ⟨rt', a1', a2', v1, v2, n1', n2', nt', rfl, by rw [hb]; exact .head _, .tail _ (.head _), .tail _ (.tail _ (.head _)), hi1, hi2, e4⟩ F2 N2 ne2
  k_with "call type:list" => (refine' list_copyK ?zcF ?zcN ?zcL ?_ ?zcZ; (case zcF => k_asm); (case zcN => k_asm); (case zcL => first | exact Fr.lst (by k_asm) hL1 | exact Fr.lst (by k_asm) hL2); (case zcZ => (rw [List.size_toArray, sizeLine_eq]; omega)); k_whole; intro D9 c9 h9 F9 N9 l9; (have q9 : D9 ∉ autA sa sd ln df fl := by first | (rw [← autA_eq had8]; exact notIn_l (w := w) (t1 := t1) (t2 := t2) (nvs := nvs) (nn := nn) (dfO := dfO) (fl := fl8) l9 (by walk_at "m_perm")) | exact notIn_l (w := w) (t1 := t1) (t2 := t2) (nvs := nvs) (nn := nn) (dfO := dfO) l9 (by walk_at "m_perm")); (try k_lt l9))
  k_with "m_call" => (refine' join_ok RT0 (fs := fs) (K := K) (fl := fl) (news := [_]) ?tdp ?tun hHg ?tF ?tN hnd ?toff hd hfl hfs hK (Fr.keep (by k_asm) _ _ (hDg _ _ hr3)) (hD _ _ hr3).2 (Fr.keep (by k_asm) _ _ (hDg _ _ hr2)) (hD _ _ hr2).2 hi2 hi1 ?te ho1 ?_; (case tdp => omega); (case tun => omega); (case tF => k_asm); (case tN => exact subN (by k_asm) (walkPerm1 _ _)); (case toff => (intro p hp; rw [List.mem_singleton.mp hp]; (repeat (rename _ ∧ _ => hx9; obtain ⟨hx8, hx9⟩ := hx9)); walk_at "m_notin")); (case te => exact hKf ▸ ho2); intro fl8 h8 tk8 hfl8 had8 hkv8 F8 N8)
  k_steps
  all_goals (
    rename Fr g _ _ _ => FF
    rename News g _ _ _ => NN
    rename (b = _) => e2
    rename _ ∧ _ => lx
    show Q (.ref _) _)
  iterate 2
    have e1 : mk.rep = true := mkRep2.symm.trans (by assumption)
    refine fin9 fl8 _ _ _ _ _ _ _ _ _ _ _ FF NN (by walk_at "m_perm") (.head _) (.tail _ (.tail _ (.head _))) (.tail _ (.head _)) (by rw [← autA_eq had8]; repeat (first | exact notIn_of2 lx | replace lx := lx.2)) (by assumption) (by assumption) (by omega) (by rw [if_pos e1]; exact hfl8) had8 hkv8 ?_
    first | (rw [e2]; rfl) | (rw [e2, mkNul2]; rfl)
  all_goals (
    have e1 : mk.rep = false := mkRep2.symm.trans (by assumption)
    refine fin9 fl _ _ _ _ _ _ _ _ _ _ _ FF NN (by walk_at "m_perm") (.head _) (.tail _ (.tail _ (.head _))) (.tail _ (.head _)) (by repeat (first | exact notIn_c lx | replace lx := lx.2)) (by assumption) (by assumption) (by omega) (by rw [e1]; exact hfl) rfl rfl ?_
    first | (rw [e2]; rfl) | (rw [e2, mkNul2]; rfl))
inductive RowJ (w : World) (sa sd ln df : Addr) (t1 t2 : Tok) (fl : List (Addr × Obj)) (res : Nat → Fd × St) : Nat → (Str → Option Value) → List (Addr × Obj) → Prop
  | mk {i : Nat} {m : Str → Option Value} (a : Fd) (st' : St) (lf ll : Addr) (vf vl : List Value) (nf nl : Nat) (nvs' : List Value) (nn' : Nat) (dfO' : Obj) (fl' : List (Addr × Obj)) (x : List Addr) : (a, st') = res i → adrs fl' = adrs fl ++ x → lf ∉ autA sa sd ln df fl' → ll ∉ autA sa sd ln df fl' → lf ≠ ll → AutS w sa sd ln df nvs' dfO' fl' st' → IntsAre vf a.2.1 → IntsAre vl a.2.2 →
      m "self" = some (.ref sa) → m "is_nullable" = some (.bool a.1) → m "first" = some (.ref lf) → m "last" = some (.ref ll) → RowJ w sa sd ln df t1 t2 fl res i m (AutL w sa sd ln df t1 t2 nvs' nn' dfO' fl' ++ [(lf, lstO vf nf), (ll, lstO vl nl)])
theorem join_ok2 {w : World} {mean : ExcName → Option Value} {mg mb : Str → Option Value} {H : Heap} (RT : Root w mean mg mb H) {dp un : Nat} {fr : Option (List Env)} {gd : Option (List Code)} (hdp : dp + 10 < 900) (hun : un + 200 < 9000)
    {h₀ : Heap} {L : Addr} {m : Str → Option Value} {s : Shared} {sa sd ln df le lb : Addr} {t1 t2 : Tok} {nvs evs bvs : List Value} {nn en bn : Nat} {dfO : Obj} {fl news : List (Addr × Obj)} {st : St} {ends begins : List Int}
    (hH : H.StaysIn h₀) (F : Fr h₀ L s.heap m) (Hh : AutH w h₀ L s.heap sa sd ln df t1 t2 nvs nn dfO fl st news) (hK : st.names.length ≤ 9) (hle : (le, lstO evs en) ∈ news) (hlb : (lb, lstO bvs bn) ∈ news)
    (hev : IntsAre evs ends) (hbv : IntsAre bvs begins) (hends : OKs st.names.length ends) (hbeg : OKs st.names.length begins) {Q E : Value → Shared → Prop}
    (hret : ∀ fl' h' tk', adrs fl' = adrs fl → Fr h₀ L h' m → AutH w h₀ L h' sa sd ln df t1 t2 nvs nn dfO fl' ⟨st.names, joinF st.fol ends begins⟩ news → Q .none { s with heap := h', toks := tk' }) :
    wpAny (model PySem.Challenge.rw_nu0043_01.row.prog w) (AA dp fr gd un) (call (.ref 77) [.ref sa, .ref le, .ref lb]) Q E s := by
  obtain ⟨N, off, nd, dict, hfl, nms, inv⟩ := Hh
  refine join_ok RT hdp hun (K := st.names.length) hH F N nd off dict hfl inv.2 hK (N _ (List.mem_append_right _ hle)).1 (off _ hle) (N _ (List.mem_append_right _ hlb)).1 (off _ hlb) hev hbv (by rw [inv.1]; exact hends) hbeg fun fl' h' tk' hfl' had hkv F' N' => ?_
  have ea : autA sa sd ln df fl' = autA sa sd ln df fl := autA_eq had
  exact hret fl' h' tk' had F' ⟨N', by rw [ea]; exact off, by rw [ea]; exact nd, by rw [hkv]; exact dict, hfl', nms, joinF_inv inv hbeg⟩
theorem words_row : True := by
  w_top off
  k_with_none
  k_with "m_enter" => (
      refine wpAny_call ?_;
      k_dflt (refine' enterP0 ?q0k4 ?q0k5 ?q0kH ?q0k6 ?q0k7 ?q0k8 ?q0k9 ?q0kB ?_ ?q0c2 ?q0c3 ?q0c4 ?q0c5; (case q0kH => assumption); (case q0k4 => k_asm); (case q0k5 => k_asm); (case q0k6 => k_is); (case q0k7 => k_is); (case q0k8 => (simp only [recursionLimit]; omega)); (case q0k9 => exact BindsTo.of_eq rfl); (case q0c5 => decide); (case q0kB => exact locs rfl); (case q0c2 => exact rfl); (case q0c3 => exact rfl); (case q0c4 => exact rfl); k_whole);
      rename Frag.In _ _ => xX; rename Top _ _ _ _ _ _ => xT; clear xX xT;
      intro L' h' tk' F' N' X' T'; (try dsimp only); (try k_fold))
  k_with "m_enter0" => (
      refine wpAny_call ?_;
      k_dflt (refine' enterP0 ?q1k4 ?q1k5 ?q1kH ?q1k6 ?q1k7 ?q1k8 ?q1k9 ?q1kB ?_ ?q1c2 ?q1c3 ?q1c4 ?q1c5; (case q1kH => assumption); (case q1k4 => k_asm); (case q1k5 => k_asm); (case q1k6 => k_is); (case q1k7 => k_is); (case q1k8 => (simp only [recursionLimit]; omega)); (case q1k9 => exact BindsTo.of_eq rfl); (case q1c5 => decide); (case q1kB => exact locs rfl); (case q1c2 => exact rfl); (case q1c3 => exact rfl); (case q1c4 => exact rfl); k_whole);
      rename Frag.In _ _ => xX; rename Top _ _ _ _ _ _ => xT; clear xX xT)
  k_with "m_enterC" => (
      refine wpAny_call ?_;
      k_dflt (refine' enterC0 ?q2k4 ?q2k5 ?q2kH ?q2k6 ?q2k7 ?q2k8 ?q2k9 ?q2kB ?q2kD ?_ ?q2c2 ?q2c3 ?q2c4; (case q2kH => assumption); (case q2k4 => k_asm); (case q2k5 => k_asm); (case q2k6 => k_is); (case q2k7 => k_is); (case q2k8 => (simp only [recursionLimit]; omega)); (case q2k9 => exact BindsTo.of_eq rfl); (case q2kB => exact rfl); (case q2kD => decide +kernel); (case q2c2 => exact rfl); (case q2c3 => exact rfl); (case q2c4 => exact rfl); k_whole);
      rename Frag.In _ _ => xX; rename Top _ _ _ _ _ _ => xT; clear xX xT;
      intro L' h' tk' cells' F' N' Y' X' T'; k_cells Y'; (try simp only [List.cons_append, List.nil_append] at N'); (try dsimp only); (try k_fold))
  k_with "m_enterC0" => (
      refine wpAny_call ?_;
      k_dflt (refine' enterC0 ?q3k4 ?q3k5 ?q3kH ?q3k6 ?q3k7 ?q3k8 ?q3k9 ?q3kB ?q3kD ?_ ?q3c2 ?q3c3 ?q3c4; (case q3kH => assumption); (case q3k4 => k_asm); (case q3k5 => k_asm); (case q3k6 => k_is); (case q3k7 => k_is); (case q3k8 => (simp only [recursionLimit]; omega)); (case q3k9 => exact BindsTo.of_eq rfl); (case q3kB => exact rfl); (case q3kD => decide +kernel); (case q3c2 => exact rfl); (case q3c3 => exact rfl); (case q3c4 => exact rfl); k_whole);
      rename Frag.In _ _ => xX; rename Top _ _ _ _ _ _ => xT; clear xX xT)
  k_with "call ref" => k_dflt (k_extra "m_call")
  k_with "exec Assign cons ListComp" => (k_dflt (refine' comp_assign ?q5kF (emitOne _) ?q5k0 ?q5k1 ?q5k2 ?q5k3 ?q5k4 ?q5k5 ?q5k6 ?q5k7 ?q5k8 ?_; (case q5kF => k_asm); (case q5k0 => exact rfl); (case q5k1 => (intros; rfl)); (case q5k2 => exact rfl); (case q5k3 => with_unfolding_all rfl); (case q5k4 => decide); (case q5k5 => exact rfl); (case q5k6 => decide); (case q5k7 => exact rfl); (case q5k8 => exact rfl); k_whole))
  k_with "eval ListComp" => (k_dflt (refine' comp_eval ?q6kF (emitOne _) ?q6k1 ?q6k3 ?q6k4 ?q6k5 ?q6k6 ?_; (case q6kF => k_asm); (case q6k1 => (intros; rfl)); (case q6k3 => with_unfolding_all rfl); (case q6k4 => decide); (case q6k5 => exact rfl); (case q6k6 => decide); k_whole))
  k_with "exec For Name Subscript cons nil" => (k_dflt (refine' for_rule ?q7kF ?_; (case q7kF => k_asm); k_whole))
  k_with "exec For Name Name cons nil" => (k_dflt (refine' for_rule ?q8kF ?_; (case q8kF => k_asm); k_whole))
  k_with "exec For Name IfExp cons nil" => (k_dflt (refine' for_rule ?q9kF ?_; (case q9kF => k_asm); k_whole))
  k_with "exec For Name Call cons nil" => (k_dflt (refine' for_rule ?q10kF ?_; (case q10kF => k_asm); k_whole))
  k_with "exec For Name ListComp cons nil" => (k_dflt (refine' for_rule ?q11kF ?_; (case q11kF => k_asm); k_whole))
  k_with "exec For Tuple Name cons nil" => (k_dflt (refine' for_rule ?q12kF ?_; (case q12kF => k_asm); k_whole))
  k_with "FSrc" => k_dflt (k_extra "m_fsrc")
  k_with "FRest" => k_dflt (k_extra "m_frest")
  k_with "FEnd" => k_dflt (k_extra "m_fend")
  k_with "CSrc" => k_dflt (k_extra "m_src")
  k_with "CRest" => k_dflt (k_extra "m_rest")
  k_with "CEnd" => k_dflt (k_extra "m_cend")
  k_with "FinA" => (unfold FinA; intro h9 tk9 F9 N9 ne9; (try rw [lst_eq] at N9))
  k_with "FinE" => (unfold FinE; intro h9 tk9 F9 N9 ne9; (try rw [lst_eq] at N9))
  k_with "execs cons Assign cons" => refine wpAny_execs_cons ?_
  k_with "execs cons Assign nil" => refine wpAny_execs_cons ?_
  k_with "execs cons If cons" => refine wpAny_execs_cons ?_
  k_with "execs cons If nil" => refine wpAny_execs_cons ?_
  k_with "execs cons For cons" => refine wpAny_execs_cons ?_
  k_with "execs cons For nil" => refine wpAny_execs_cons ?_
  k_with "execs cons Return cons" => refine wpAny_execs_cons ?_
  k_with "execs cons Return nil" => refine wpAny_execs_cons ?_
  k_with "execs cons Expr cons" => refine wpAny_execs_cons ?_
  k_with "execs cons Expr nil" => refine wpAny_execs_cons ?_
  k_with "ite" => first | (rw [if_neg (by decide +kernel)]) | (rw [if_pos (by decide +kernel)])
  k_with "subscriptTail Name Constant ref int" => (k_dflt (refine' item_tupleT ?q32k1 ?q32k2 ?q32k3 ?q32k4 ?q32k5 ?_; (case q32k1 => exact Fr.tup (by k_asm) (by assumption)); (case q32k2 => decide); (case q32k3 => decide); (case q32k4 => rfl); (case q32k5 => rfl); k_whole))
  k_with "eval Name" => (k_dflt (refine' nameX_L ?q33k1 ?q33k2 ?_; (case q33k1 => k_asm); (case q33k2 => first | exact rfl | assumption); k_whole))
  k_with "binaryOp Add ref ref" => (k_dflt (refine' my_add ?q34F ?q34N ?q34a ?q34b ?q34z ?_; (case q34F => k_asm); (case q34N => k_asm); (case q34a => k_mem); (case q34b => k_mem); (case q34z => (rw [sizeLine_eq]; (try simp only [List.length_append, List.length_nil, List.length_cons]); omega)); k_whole; intro r9 h9 F9 N9 l9; (try k_lt l9)))
  k_with "subscriptTail Subscript" => (k_dflt (refine kba_turn (value' := PySem.Expr.Name (PySem.Str.ofString "_") ⟨0, 0, 0, 0⟩) (fun _ => rfl) ?_))
  k_with "subscriptTail Name Slice ref ref" => (k_dflt (refine' slice_tuple ?q36F ?q36N ?q36t ?q36pa ?q36pb ?q36pc ?q36h0 ?q36hno ?q36hz ?q36hsz ?_ ?q36hs ?q36hg; (case q36F => k_asm); (case q36N => k_asm); (case q36t => exact Fr.tup (by k_asm) (by assumption)); (case q36pa => first | exact IsPart.none | exact IsPart.int _ _); (case q36pb => first | exact IsPart.none | exact IsPart.int _ _); (case q36pc => first | exact IsPart.none | exact IsPart.int _ _); (case q36h0 => rfl); (case q36hno => rfl); (case q36hz => with_unfolding_all first | exact (rfl : _ = []) | exact (rfl : _ = [_]) | exact (rfl : _ = [_, _]) | exact (rfl : _ = [_, _, _])); (case q36hsz => (rw [sizeLine_eq]; exact Nat.le_of_ble_eq_true rfl)); (case q36hs => with_unfolding_all rfl); (case q36hg => (intro _; with_unfolding_all rfl)); k_whole; intro r9 h9 F9 N9 l9; (try k_lt l9)))
  k_with "m_sub" => (intro q9 h9; simp only [List.mem_cons, List.mem_append, h9, true_or, or_true])
  k_with "m_rdsub" => (intro b o h; first | exact h | exact Or.inl h | (refine Or.elim h Or.inl (fun h => Or.inr ?_); simp only [List.mem_cons, List.mem_append, h, true_or, or_true]))
  k_with "m_rd" => first
      | exact Rd.int _ _ | exact Rd.str _ _ | exact Rd.bool _ | assumption
      | (refine' Rd.mono ?q39hs ?q39hv; (case q39hv => assumption); (case q39hs => walk_at "m_rdsub"))
      | (refine Rd.tuple (Or.inr (by k_mem)) ?_; walk_at "m_rds")
  k_with "m_rds" => first
      | exact RdAll.nil
      | ((refine RdAll.cons ?_ ?_); (walk_at "m_rd"); (walk_at "m_rds"))
  k_with "call builtin:len" => (k_dflt (refine' len_tupK ?q41k1 ?q41k2 ?q41k3 ?_; (case q41k1 => exact Fr.tup (by k_asm) (by assumption)); (case q41k2 => assumption); (case q41k3 => omega); k_whole))
  k_with "call type:range" => (k_dflt (first | (refine' range1_rows ?q42k1 ?q42k2 ?_; (case q42k1 => k_asm); (case q42k2 => k_asm); k_whole; intro h9 tk9 t9 u9 v9 hr9 F9 N9 hk9) | (refine' range2_rows ?q42k1 ?q42k2 ?_; (case q42k1 => k_asm); (case q42k2 => k_asm); k_whole; intro h9 tk9 t9 u9 v9 hr9 F9 N9 hk9)))
  k_with "subscriptTail Name Name ref int" => (k_dflt (refine' item_sym ?q43k1 ?q43k2 ?q43k3 ?q43k4 ?_; (case q43k1 => exact Fr.tup (by k_asm) (by assumption)); (case q43k4 => assumption); (case q43k2 => omega); (case q43k3 => omega); k_whole))
  k_with "compareOp Eq ref ref" => (k_dflt (refine' list_eq_nil ?y1N ?y1a ?y1b ?y1u ?_; (case y1N => k_asm); (case y1a => k_mem); (case y1b => k_mem); (case y1u => (show _ < 9900; (try dsimp only); omega)); k_whole))
  k_with "m_enterD" => (
      k_dflt (refine' enterC1 ?z3k4 ?z3k5 ?z3kH ?z3k6 ?z3k7 ?z3k8 ?z3k9 ?z3kB ?z3kD ?_ ?z3c2 ?z3c3 ?z3c4; (case z3kH => assumption); (case z3k4 => k_asm); (case z3k5 => k_asm); (case z3k6 => k_is); (case z3k7 => k_is); (case z3k8 => (simp only [recursionLimit]; omega)); (case z3k9 => exact BindsTo.of_eq rfl); (case z3kB => exact rfl); (case z3kD => decide +kernel); (case z3c2 => exact rfl); (case z3c3 => exact rfl); (case z3c4 => exact rfl); k_whole);
      rename Frag.In _ _ => xX; rename Top _ _ _ _ _ _ => xT; clear xX xT)
  k_with "m_enterB" => (
      k_dflt (refine' enterP1 ?z4k4 ?z4k5 ?z4kH ?z4k6 ?z4k7 ?z4k8 ?z4k9 ?z4kB ?_ ?z4c2 ?z4c3 ?z4c4 ?z4c5; (case z4kH => assumption); (case z4k4 => k_asm); (case z4k5 => k_asm); (case z4k6 => k_is); (case z4k7 => k_is); (case z4k8 => (simp only [recursionLimit]; omega)); (case z4k9 => exact BindsTo.of_eq rfl); (case z4c5 => decide); (case z4kB => exact locs rfl); (case z4c2 => exact rfl); (case z4c3 => exact rfl); (case z4c4 => exact rfl); k_whole);
      rename Frag.In _ _ => xX; rename Top _ _ _ _ _ _ => xT; clear xX xT)
  k_with "m_enterG" => (
      k_dflt (refine' enterG ?z5k4 ?z5k5 ?z5kH ?z5F ?z5N ?z5k6 ?z5k7 ?z5k8 ?z5k9 ?z5kB ?_ ?z5c2 ?z5c3 ?z5c4 ?z5c5; (case z5kH => assumption); (case z5F => assumption); (case z5N => assumption); (case z5k4 => k_asm); (case z5k5 => k_asm); (case z5k6 => k_is); (case z5k7 => k_is); (case z5k8 => (simp only [recursionLimit]; omega)); (case z5k9 => exact BindsTo.of_eq rfl); (case z5c5 => decide); (case z5kB => exact locs rfl); (case z5c2 => exact rfl); (case z5c3 => exact rfl); (case z5c4 => exact rfl); k_whole))
  k_with "m_enterGC" => (
      k_dflt (refine' enterGC ?z6k4 ?z6k5 ?z6kH ?z6F ?z6N ?z6k6 ?z6k7 ?z6k8 ?z6k9 ?z6kB ?z6kD ?_ ?z6c2 ?z6c3 ?z6c4; (case z6kH => assumption); (case z6F => assumption); (case z6N => assumption); (case z6k4 => k_asm); (case z6k5 => k_asm); (case z6k6 => k_is); (case z6k7 => k_is); (case z6k8 => (simp only [recursionLimit]; omega)); (case z6k9 => exact BindsTo.of_eq rfl); (case z6kB => exact rfl); (case z6kD => decide +kernel); (case z6c2 => exact rfl); (case z6c3 => exact rfl); (case z6c4 => exact rfl); k_whole))
  k_with "m_enterE" => (
      k_dflt (refine' enterE ?z8k4 ?z8k5 ?z8kH ?z8F ?z8N ?z8k6 ?z8k7 ?z8k8 ?z8k9 ?z8kB ?_ ?z8c2 ?z8c3 ?z8c4 ?z8c5; (case z8kH => assumption); (case z8F => assumption); (case z8N => assumption); (case z8k4 => k_asm); (case z8k5 => k_asm); (case z8k6 => k_is); (case z8k7 => k_is); (case z8k8 => (simp only [recursionLimit]; omega)); (case z8k9 => exact BindsTo.of_eq rfl); (case z8c5 => decide); (case z8kB => exact locs rfl); (case z8c2 => exact rfl); (case z8c3 => exact rfl); (case z8c4 => exact rfl); k_whole))
  k_with "m_enterEC" => (
      k_dflt (refine' enterEC ?z9k4 ?z9k5 ?z9kH ?z9F ?z9N ?z9k6 ?z9k7 ?z9k8 ?z9k9 ?z9kB ?z9kD ?_ ?z9c2 ?z9c3 ?z9c4; (case z9kH => assumption); (case z9F => assumption); (case z9N => assumption); (case z9k4 => k_asm); (case z9k5 => k_asm); (case z9k6 => k_is); (case z9k7 => k_is); (case z9k8 => (simp only [recursionLimit]; omega)); (case z9k9 => exact BindsTo.of_eq rfl); (case z9kB => exact rfl); (case z9kD => decide +kernel); (case z9c2 => exact rfl); (case z9c3 => exact rfl); (case z9c4 => exact rfl); k_whole))
  k_with "m_in" => first
    | with_reducible apply in_hd
    | (with_reducible apply in_l; walk_at "m_in")
    | (with_reducible apply in_r; walk_at "m_in")
    | (with_reducible apply in_tl; walk_at "m_in")
    | apply in_hd
    | assumption
  k_with "m_sub3" => first
    | with_reducible apply sub_id
    | (with_reducible apply sub_l; walk_at "m_sub3")
    | (with_reducible apply sub_r; walk_at "m_sub3")
    | (with_reducible apply sub_tl; walk_at "m_sub3")
  k_with "m_perm2" => ((repeat' (first | with_reducible apply sub_nil | with_reducible apply sub_app | with_reducible apply sub_cons)); all_goals (first | walk_at "m_in" | walk_at "m_sub3"))
  k_with "m_perm" => (intro p hp; simp only [List.cons_append, List.nil_append, List.append_assoc, List.append_nil, List.mem_cons, List.mem_append, List.not_mem_nil, or_false, or_assoc] at hp ⊢; (repeat' (first | (cases hp with | inl hp => ?_ | inr hp => ?_) | fail)); all_goals (repeat (first | apply hp | apply Or.inl hp | apply Or.inr)))
  k_with "m_notin" => first | exact notIn_of2 (by assumption) | (refine notIn_of ?_ ?_ ?_ ?_ ?_ <;> first | omega | assumption)
  k_with "m_off" => (refine Ap.all ?_; simp only [Ap, and_true]; omega)
  k_with "m_front" => first
    | assumption
    | exact rot2 (by assumption)
    | exact rot3 (by assumption)
    | exact rot4 (by assumption)
    | exact rot5 (by assumption)
    | exact rot6 (by assumption)
    | exact rot7 (by assumption)
    | exact rot8 (by assumption)
    | exact rot9 (by assumption)
  k_with "call builtin:list.append" => (k_dflt (refine' append_L ?zaF ?zaN ?zao ?zaz ?_; (case zaF => k_asm); (case zaN => walk_at "m_front"); (case zao => first | k_all | walk_at "m_off"); (case zaz => omega); k_whole; intro h9 F9 N9))
  k_with "compareOp NotIn int ref" => (k_dflt (refine' notin_L ?zbN ?zbm ?zbI ?_; (case zbN => k_asm); (case zbm => k_mem); (case zbI => assumption); k_whole))
  k_with "call builtin:len" => (k_dflt (refine' len_listK ?z7N ?z7l ?z7z ?_; (case z7N => k_asm); (case z7l => k_mem); (case z7z => omega); k_whole))
  trivial
theorem row_ok {w : World} {mean : ExcName → Option Value} {mg mb : Str → Option Value} {H : Heap} (RT : Root w mean mg mb H) (rank : Nat) (ps : List (Pt Nm)) (hlen : ps.length ≤ 3) (IH : ∀ p ∈ ps, RowC w H 49 rank (p.data enc1) p.leaves (readF p)) :
    RowC w H 56 (rank + 1) (.tuple (ps.map (Pt.data enc1))) ((ps.map Pt.leaves).sum) (rowF ps (true, [], [])) := by
  have RT0 := RT
  obtain ⟨X, T⟩ := RT
  intro dp un fr gd h₀ L m s sa sd ln df t1 t2 nvs nn dfO fl news st D v Q E hdp hun hH F Hh hneed hD hv hret
  obtain ⟨N, off, S⟩ := Hh
  obtain ⟨kt, ws, nk, rfl, hkt, hw⟩ := hv.tuple_inv
  have N0 : News h₀ L s.heap (AutL w sa sd ln df t1 t2 nvs nn dfO fl) := fun p hp => N p (List.mem_append_left _ hp)
  walk_at "m_enterE"
  intro L1 h1 tk1 g fr1 gd1 hg hHg F1 N1 hlt X1 T1
  clear X T
  have hDg : ∀ b o, D b o → g.get? b = some o := fun b o h => by rw [hg]; exact (er_other s.heap (as := autA sa sd ln df fl) (hD b o h).2).trans (hD b o h).1
  have hkg := hDg _ _ hkt
  have hwl := hw.length
  rw [List.length_map] at hwl
  k_with "newList" => (k_dflt (refine' newList_L ?zdF ?zdN ?_ ?zdz; (case zdF => k_asm); (case zdN => k_asm); (case zdz => exact Nat.zero_le _); k_whole); intro D9 h9 l9 F9 N9)
  k_steps
  rename_i D1 hx1 lx1 DT hx2 lt hx3 hx4 hx5 hx6 F2 N2
  have hD1 : D1 ∉ autA sa sd ln df fl := notIn_l lx1 fun _ h => h
  have hD2 : D9 ∉ autA sa sd ln df fl := notIn_l l9 fun _ h => .tail _ h
  have hD12 : D1 ≠ D9 := Nat.ne_of_lt (l9 _ (.head _))
  refine' FSrc.seq (tup := true) (its := ws) (n := nk) (news := AutL w sa sd ln df t1 t2 nvs nn dfO fl ++ [(D1, lstO [] 0), (D9, lstO [] 0)]) rfl ?hF ?hN (.inl hkg) ?_
  case hF => k_asm
  case hN => exact subN N2 (by walk_at "m_perm")
  intro I9 off9
  refine FRest.ind (RowJ w sa sd ln df t1 t2 fl fun i => rowF (ps.take i) (true, [], []) st) ?step ?done ?hS₀ ?start
  case hS₀ => exact .inl hkg
  case start => exact ⟨_, _, D1, D9, [], [], 0, 0, nvs, nn, dfO, fl, [], rfl, (List.append_nil _).symm, hD1, hD2, hD12, S, .nil, .nil, rfl, rfl, rfl, rfl⟩
  case done =>
    rintro m9 nw h9 tk9 - ⟨a, st', lf, ll, vf, vl, nf, nl, nvs', nn', dfO', fl', x, hst, hx, hlfA, hllA, hne, S', hvf, hvl, hm1, hm2, hm3, hm4⟩ F9 N9 off9
    have hz1 : ps.take ws.length = ps := by rw [hwl]; exact List.take_length ..
    rw [hz1] at hst
    k_steps
    rename_i DR hR FR NR lR
    have hDR : DR ∉ autA sa sd ln df fl' := notIn_l (fl := fl') (w := w) (t1 := t1) (t2 := t2) (nvs := nvs') (nn := nn') (dfO := dfO') lR fun p hp => List.mem_append_left _ hp
    rw [← hst] at hret
    obtain ⟨F2', N2', ne2, off2⟩ := backA (tl := [(DR, tupO [.bool a.1, .ref lf, .ref ll] 0), (lf, lstO vf nf), (ll, lstO vl nl)]) hg F N off FR (subN NR (by walk_at "m_perm")) hx S'.nd (by
      simp only [List.forall_mem_cons]
      exact ⟨hDR, hlfA, hllA, fun _ h => by cases h⟩)
    show Q (.ref DR) _
    refine hret (.ref DR) nvs' nn' dfO' fl' x _ _ _ hx ⟨DR, lf, ll, vf, vl, nf, nl, 0, rfl, .head _, .tail _ (.head _), .tail _ (.tail _ (.head _)), hvf, hvl, hne⟩ F2' ⟨N2', ?_, S'⟩ ne2
    refine List.forall_mem_append.mpr ⟨off2, ?_⟩
    simp only [List.forall_mem_cons]
    exact ⟨hDR, hlfA, hllA, fun _ h => by cases h⟩
  case step =>
    rintro i m9 nw v9 oI9 h9 tk9 E9 hi - ⟨a, st', lf, ll, vf, vl, nf, nl, nvs', nn', dfO', fl', x, hst, hx, hlfA, hllA, hne, S', hvf, hvl, hm1, hm2, hm3, hm4⟩ hP F9 N9 off9
    obtain ⟨q, hq, hqm, hvq, -⟩ := hw.get_map hP
    have hlt1 := leaves_take hq
    have hRK := rowF_ok (ps.take i) (true, [], []) st S.inv OKs.nil OKs.nil
    rw [← hst] at hRK
    obtain ⟨hk1, -, hk3, hk4⟩ := hRK
    have hQK := readF_ok q st' S'.inv
    have hsn := rowF_snoc q (ps.take i) (true, [], []) st
    rw [← rowF_take hq, ← hst] at hsn
    obtain ⟨an, af, al⟩ := a
    generalize hrd : readF q st' = rd at hQK hsn
    obtain ⟨⟨c, eb, ee⟩, st9⟩ := rd
    obtain ⟨hj1, hj2, hj3, hj4⟩ := hQK
    dsimp only at hk1 hk3 hk4 hj1 hj2 hj3 hj4 hvf hvl hm2 hsn
    rw [← hj1] at hj3 hj4
    have hk3' : OKs st9.names.length af := hk3.mono (by omega)
    have hk4' : OKs st9.names.length al := hk4.mono (by omega)
    have hDA : ∀ b o, D b o → b ∉ autA sa sd ln df fl' := fun b o h => notGround (subN N9 fun p hp => .tail _ hp) (hDg b o h)
    have hIA : I9 ∉ autA sa sd ln df fl' := notIn_off off9
    have hIf : lf ≠ I9 := off9 (lf, lstO vf nf) (by k_mem)
    have hIl : ll ≠ I9 := off9 (ll, lstO vl nl) (by k_mem)
    have hoff0 : ∀ p ∈ [(I9, oI9), (lf, lstO vf nf), (ll, lstO vl nl)], p.1 ∉ autA sa sd ln df fl' := by
      simp only [List.forall_mem_cons]
      exact ⟨hIA, hlfA, hllA, fun _ h => by cases h⟩
    have hzf := hk3'.len
    have hzl := hk4'.len
    have hzb := hj3.len
    have hze := hj4.len
    have hK9 : st9.names.length ≤ 9 := by omega
    k_with "m_call" => (refine' IH q hqm _ _ _ _ g L1 _ _ sa sd ln df t1 t2 nvs' nn' dfO' fl' [(I9, oI9), (lf, lstO vf nf), (ll, lstO vl nl)] st' D v9 _ _ ?tdp ?tun hHg ?tF ⟨?tN, hoff0, S'⟩ ?tneed ?tD hvq ?_; (case tdp => omega); (case tun => omega); (case tF => k_asm); (case tN => exact subN (by k_asm) (by walk_at "m_perm")); (case tneed => omega); (case tD => exact fun b o h => ⟨Fr.keep (by k_asm) _ _ (hDg b o h), hDA b o h⟩); intro r9 nvs9 nn9 dfO9 fl9 x9 tl9 h9 tk9 hx9 hfd9 F9 H9 ne9; rw [hrd] at hfd9 H9; obtain ⟨rt, a1, a2, v1, v2, n1, n2, nt, rfl, hr1, hr2, hr3, hi1, hi2, h12⟩ := hfd9; dsimp only at hi1 hi2; (have N6 : News g L1 h9 (AutL w sa sd ln df t1 t2 nvs9 nn9 dfO9 fl9 ++ [(I9, oI9), (lf, lstO vf nf), (ll, lstO vl nl), (rt, tupO [.bool c, .ref a1, .ref a2] nt), (a1, lstO v1 n1), (a2, lstO v2 n2)]) := subN H9.N (news6 (l3 := [(I9, oI9), (lf, lstO vf nf), (ll, lstO vl nl)]) hr1 hr2 hr3)); (have off6 : ∀ p ∈ [(I9, oI9), (lf, lstO vf nf), (ll, lstO vl nl), (rt, tupO [.bool c, .ref a1, .ref a2] nt), (a1, lstO v1 n1), (a2, lstO v2 n2)], p.1 ∉ autA sa sd ln df fl9 := fun p hp => H9.off p (news6 (base := []) (l3 := [(I9, oI9), (lf, lstO vf nf), (ll, lstO vl nl)]) hr1 hr2 hr3 p hp)); (have S9 := H9.S); (have hT9 : IsTup h9 rt #[.bool c, .ref a1, .ref a2] := ⟨_, (N6 _ (List.mem_append_right _ (.tail _ (.tail _ (.tail _ (.head _)))))).1, rfl, _, rfl⟩); (have g1f := ne9 (lf, lstO vf nf) (List.mem_append_right _ (.tail _ (.head _)))); (have g1l := ne9 (ll, lstO vl nl) (List.mem_append_right _ (.tail _ (.tail _ (.head _))))); (have g1I := ne9 (I9, oI9) (List.mem_append_right _ (.head _))); (have b1f : a1 ≠ lf := g1f _ hr2); (have b2f : a2 ≠ lf := g1f _ hr3); (have b1l : a1 ≠ ll := g1l _ hr2); (have b2l : a2 ≠ ll := g1l _ hr3); (have b1I : a1 ≠ I9 := g1I _ hr2); (have b2I : a2 ≠ I9 := g1I _ hr3); clear H9 ne9 g1f g1l g1I)
    k_with "m_call" => (refine' join_ok2 RT0 ?tdp ?tun hHg ?tF (fl := fl9) (news := [(I9, oI9), (lf, lstO vf nf), (ll, lstO vl nl), (rt, tupO [.bool c, .ref a1, .ref a2] nt), (a1, lstO v1 n1), (a2, lstO v2 n2)]) ⟨?tN, off6, S9⟩ hK9 (.tail _ (.tail _ (.head _))) (.tail _ (.tail _ (.tail _ (.tail _ (.head _))))) hvl hi1 hk4' hj3 ?_; (case tdp => omega); (case tun => omega); (case tF => k_asm); (case tN => exact subN (by k_asm) (by walk_at "m_perm")); intro fl8 h8 tk8 hx8 F8 H8; (have N8 := H8.N); (have off8 := H8.off); (have S8 := H8.S); (have l8f : lf ∉ autA sa sd ln df fl8 := off8 _ (.tail _ (.head _))); (have l8l : ll ∉ autA sa sd ln df fl8 := off8 _ (.tail _ (.tail _ (.head _)))); (have l8I : I9 ∉ autA sa sd ln df fl8 := off8 _ (.head _)); clear H8)
    k_with "m_call" => (refine' add_all_ok RT0 ?tdp ?tun (lp := lf) (lq := a1) (news := AutL w sa sd ln df t1 t2 nvs9 nn9 dfO9 fl8 ++ [(I9, oI9), (ll, lstO vl nl), (a1, lstO v1 n1), (a2, lstO v2 n2)]) hHg ?tF ?tN (offA l8f ?toff) ?tq b1f hvf hi1 ?tz ?_; (case tdp => omega); (case tun => omega); (case tF => k_asm); (case tN => exact subN (by k_asm) (by walk_at "m_perm")); (case toff => (simp only [List.forall_mem_cons]; exact ⟨Ne.symm hIf, Ne.symm hne, b1f, b2f, fun _ h => by cases h⟩)); (case tq => exact News.get (by k_asm) (by k_mem)); (case tz => omega); intro vf8 nf8 h8 tk8 hvf8 F8 N8)
    k_with "m_call" => ((have ea : an = true := by with_reducible assumption); (have ec : c = true := by with_reducible assumption); refine' add_all_ok RT0 ?tdp ?tun (lp := ll) (lq := a2) (ns := al) (news := AutL w sa sd ln df t1 t2 nvs9 nn9 dfO9 fl8 ++ [(I9, oI9), (lf, lstO vf8 nf8), (a2, lstO v2 n2)]) hHg ?tF ?tN (offA l8l ?toff) ?tq b2l hvl hi2 ?tz ?_; (case tdp => omega); (case tun => omega); (case tF => k_asm); (case tN => exact subN (by k_asm) (by walk_at "m_perm")); (case toff => (simp only [List.forall_mem_cons]; exact ⟨(Ne.symm hIl), hne, b2l, fun _ h => by cases h⟩)); (case tq => exact News.get (by k_asm) (by k_mem)); (case tz => first | omega | (rw [List.length_nil]; omega)); intro vl8 nl8 h8 tk8 hvl8 F8 N8)
    k_with "m_call" => ((have ea : an = true := by with_reducible assumption); (have ec : c = false := by with_reducible assumption); (have l8l : D9 ∉ autA sa sd ln df fl8 := notIn_l (w := w) (t1 := t1) (t2 := t2) (nvs := nvs9) (nn := nn9) (dfO := dfO9) l9 (by walk_at "m_perm")); (have d7f : D9 ≠ lf := Ne.symm (Nat.ne_of_lt (l9 (lf, lstO vf8 nf8) (by k_mem)))); (have d7I : D9 ≠ I9 := Ne.symm (Nat.ne_of_lt (l9 (I9, oI9) (by k_mem)))); (have d72 : D9 ≠ a2 := Ne.symm (Nat.ne_of_lt (l9 (a2, lstO v2 n2) (by k_mem)))); refine' add_all_ok RT0 ?tdp ?tun (lp := D9) (lq := a2) (ns := []) (news := AutL w sa sd ln df t1 t2 nvs9 nn9 dfO9 fl8 ++ [(I9, oI9), (lf, lstO vf8 nf8), (a2, lstO v2 n2)]) hHg ?tF ?tN (offA l8l ?toff) ?tq (Ne.symm d72) .nil hi2 ?tz ?_; (case tdp => omega); (case tun => omega); (case tF => k_asm); (case tN => exact subN (by k_asm) (by walk_at "m_perm")); (case toff => (simp only [List.forall_mem_cons]; exact ⟨(Ne.symm d7I), (Ne.symm d7f), (Ne.symm d72), fun _ h => by cases h⟩)); (case tq => exact News.get (by k_asm) (by k_mem)); (case tz => first | omega | (rw [List.length_nil]; omega)); intro vl8 nl8 h8 tk8 hvl8 F8 N8)
    k_with "m_call" => ((have ea : an = false := by with_reducible assumption); (have ec : c = true := by with_reducible assumption); refine' add_all_ok RT0 ?tdp ?tun (lp := ll) (lq := a2) (ns := al) (news := AutL w sa sd ln df t1 t2 nvs9 nn9 dfO9 fl8 ++ [(I9, oI9), (lf, lstO vf nf), (a2, lstO v2 n2)]) hHg ?tF ?tN (offA l8l ?toff) ?tq b2l hvl hi2 ?tz ?_; (case tdp => omega); (case tun => omega); (case tF => k_asm); (case tN => exact subN (by k_asm) (by walk_at "m_perm")); (case toff => (simp only [List.forall_mem_cons]; exact ⟨(Ne.symm hIl), hne, b2l, fun _ h => by cases h⟩)); (case tq => exact News.get (by k_asm) (by k_mem)); (case tz => first | omega | (rw [List.length_nil]; omega)); intro vl8 nl8 h8 tk8 hvl8 F8 N8)
    k_with "m_call" => ((have ea : an = false := by with_reducible assumption); (have ec : c = false := by with_reducible assumption); (have l8l : D9 ∉ autA sa sd ln df fl8 := notIn_l (w := w) (t1 := t1) (t2 := t2) (nvs := nvs9) (nn := nn9) (dfO := dfO9) l9 (by walk_at "m_perm")); (have d7f : D9 ≠ lf := Ne.symm (Nat.ne_of_lt (l9 (lf, lstO vf nf) (by k_mem)))); (have d7I : D9 ≠ I9 := Ne.symm (Nat.ne_of_lt (l9 (I9, oI9) (by k_mem)))); (have d72 : D9 ≠ a2 := Ne.symm (Nat.ne_of_lt (l9 (a2, lstO v2 n2) (by k_mem)))); refine' add_all_ok RT0 ?tdp ?tun (lp := D9) (lq := a2) (ns := []) (news := AutL w sa sd ln df t1 t2 nvs9 nn9 dfO9 fl8 ++ [(I9, oI9), (lf, lstO vf nf), (a2, lstO v2 n2)]) hHg ?tF ?tN (offA l8l ?toff) ?tq (Ne.symm d72) .nil hi2 ?tz ?_; (case tdp => omega); (case tun => omega); (case tF => k_asm); (case tN => exact subN (by k_asm) (by walk_at "m_perm")); (case toff => (simp only [List.forall_mem_cons]; exact ⟨(Ne.symm d7I), (Ne.symm d7f), (Ne.symm d72), fun _ h => by cases h⟩)); (case tq => exact News.get (by k_asm) (by k_mem)); (case tz => first | omega | (rw [List.length_nil]; omega)); intro vl8 nl8 h8 tk8 hvl8 F8 N8)
    k_steps
    all_goals first
      | ((have ea : an = true := by with_reducible assumption); (have ec : c = true := by with_reducible assumption); subst ea; subst ec
         rename Fr g _ _ _ => FZ
         rename News g _ _ _ => NZ
         refine FEnd.next FZ NZ (AutL w sa sd ln df t1 t2 nvs9 nn9 dfO9 fl8 ++ [(lf, lstO vf8 nf8), (ll, lstO vl8 nl8)]) ?perm (offA l8I ?_) (.inl hkg) ⟨_, _, lf, ll, vf8, vl8, nf8, nl8, nvs9, nn9, dfO9, fl8, x ++ x9, hsn.symm, (by rw [hx8, hx9, hx, List.append_assoc]), l8f, l8l, hne, S8, hvf8, hvl8, hm1, rfl, hm3, hm4⟩
         case perm => walk_at "m_perm"
         simp only [List.forall_mem_cons]
         exact ⟨hIf, hIl, fun _ h => by cases h⟩)
      | ((have ea : an = true := by with_reducible assumption); (have ec : c = false := by with_reducible assumption); subst ea; subst ec
         rename Fr g _ _ _ => FZ
         rename News g _ _ _ => NZ
         refine FEnd.next FZ NZ (AutL w sa sd ln df t1 t2 nvs9 nn9 dfO9 fl8 ++ [(lf, lstO vf8 nf8), (D9, lstO vl8 nl8)]) ?perm (offA l8I ?_) (.inl hkg) ⟨_, _, lf, D9, vf8, vl8, nf8, nl8, nvs9, nn9, dfO9, fl8, x ++ x9, hsn.symm, (by rw [hx8, hx9, hx, List.append_assoc]), l8f, l8l, (Ne.symm d7f), S8, hvf8, hvl8, hm1, rfl, hm3, rfl⟩
         case perm => walk_at "m_perm"
         simp only [List.forall_mem_cons]
         exact ⟨hIf, d7I, fun _ h => by cases h⟩)
      | ((have ea : an = false := by with_reducible assumption); (have ec : c = true := by with_reducible assumption); subst ea; subst ec
         rename Fr g _ _ _ => FZ
         rename News g _ _ _ => NZ
         refine FEnd.next FZ NZ (AutL w sa sd ln df t1 t2 nvs9 nn9 dfO9 fl8 ++ [(lf, lstO vf nf), (ll, lstO vl8 nl8)]) ?perm (offA l8I ?_) (.inl hkg) ⟨_, _, lf, ll, vf, vl8, nf, nl8, nvs9, nn9, dfO9, fl8, x ++ x9, hsn.symm, (by rw [hx8, hx9, hx, List.append_assoc]), l8f, l8l, hne, S8, hvf, hvl8, hm1, rfl, hm3, hm4⟩
         case perm => walk_at "m_perm"
         simp only [List.forall_mem_cons]
         exact ⟨hIf, hIl, fun _ h => by cases h⟩)
      | ((have ea : an = false := by with_reducible assumption); (have ec : c = false := by with_reducible assumption); subst ea; subst ec
         rename Fr g _ _ _ => FZ
         rename News g _ _ _ => NZ
         refine FEnd.next FZ NZ (AutL w sa sd ln df t1 t2 nvs9 nn9 dfO9 fl8 ++ [(lf, lstO vf nf), (D9, lstO vl8 nl8)]) ?perm (offA l8I ?_) (.inl hkg) ⟨_, _, lf, D9, vf, vl8, nf, nl8, nvs9, nn9, dfO9, fl8, x ++ x9, hsn.symm, (by rw [hx8, hx9, hx, List.append_assoc]), l8f, l8l, (Ne.symm d7f), S8, hvf, hvl8, hm1, rfl, hm3, rfl⟩
         case perm => walk_at "m_perm"
         simp only [List.forall_mem_cons]
         exact ⟨hIf, d7I, fun _ h => by cases h⟩)
theorem words_choice : True := by
  w_top off
  k_with_none
  k_with "m_enter" => (
      refine wpAny_call ?_;
      k_dflt (refine' enterP0 ?q0k4 ?q0k5 ?q0kH ?q0k6 ?q0k7 ?q0k8 ?q0k9 ?q0kB ?_ ?q0c2 ?q0c3 ?q0c4 ?q0c5; (case q0kH => assumption); (case q0k4 => k_asm); (case q0k5 => k_asm); (case q0k6 => k_is); (case q0k7 => k_is); (case q0k8 => (simp only [recursionLimit]; omega)); (case q0k9 => exact BindsTo.of_eq rfl); (case q0c5 => decide); (case q0kB => exact locs rfl); (case q0c2 => exact rfl); (case q0c3 => exact rfl); (case q0c4 => exact rfl); k_whole);
      rename Frag.In _ _ => xX; rename Top _ _ _ _ _ _ => xT; clear xX xT;
      intro L' h' tk' F' N' X' T'; (try dsimp only); (try k_fold))
  k_with "m_enter0" => (
      refine wpAny_call ?_;
      k_dflt (refine' enterP0 ?q1k4 ?q1k5 ?q1kH ?q1k6 ?q1k7 ?q1k8 ?q1k9 ?q1kB ?_ ?q1c2 ?q1c3 ?q1c4 ?q1c5; (case q1kH => assumption); (case q1k4 => k_asm); (case q1k5 => k_asm); (case q1k6 => k_is); (case q1k7 => k_is); (case q1k8 => (simp only [recursionLimit]; omega)); (case q1k9 => exact BindsTo.of_eq rfl); (case q1c5 => decide); (case q1kB => exact locs rfl); (case q1c2 => exact rfl); (case q1c3 => exact rfl); (case q1c4 => exact rfl); k_whole);
      rename Frag.In _ _ => xX; rename Top _ _ _ _ _ _ => xT; clear xX xT)
  k_with "m_enterC" => (
      refine wpAny_call ?_;
      k_dflt (refine' enterC0 ?q2k4 ?q2k5 ?q2kH ?q2k6 ?q2k7 ?q2k8 ?q2k9 ?q2kB ?q2kD ?_ ?q2c2 ?q2c3 ?q2c4; (case q2kH => assumption); (case q2k4 => k_asm); (case q2k5 => k_asm); (case q2k6 => k_is); (case q2k7 => k_is); (case q2k8 => (simp only [recursionLimit]; omega)); (case q2k9 => exact BindsTo.of_eq rfl); (case q2kB => exact rfl); (case q2kD => decide +kernel); (case q2c2 => exact rfl); (case q2c3 => exact rfl); (case q2c4 => exact rfl); k_whole);
      rename Frag.In _ _ => xX; rename Top _ _ _ _ _ _ => xT; clear xX xT;
      intro L' h' tk' cells' F' N' Y' X' T'; k_cells Y'; (try simp only [List.cons_append, List.nil_append] at N'); (try dsimp only); (try k_fold))
  k_with "m_enterC0" => (
      refine wpAny_call ?_;
      k_dflt (refine' enterC0 ?q3k4 ?q3k5 ?q3kH ?q3k6 ?q3k7 ?q3k8 ?q3k9 ?q3kB ?q3kD ?_ ?q3c2 ?q3c3 ?q3c4; (case q3kH => assumption); (case q3k4 => k_asm); (case q3k5 => k_asm); (case q3k6 => k_is); (case q3k7 => k_is); (case q3k8 => (simp only [recursionLimit]; omega)); (case q3k9 => exact BindsTo.of_eq rfl); (case q3kB => exact rfl); (case q3kD => decide +kernel); (case q3c2 => exact rfl); (case q3c3 => exact rfl); (case q3c4 => exact rfl); k_whole);
      rename Frag.In _ _ => xX; rename Top _ _ _ _ _ _ => xT; clear xX xT)
  k_with "call ref" => k_dflt (k_extra "m_call")
  k_with "exec Assign cons ListComp" => (k_dflt (refine' comp_assign ?q5kF (emitOne _) ?q5k0 ?q5k1 ?q5k2 ?q5k3 ?q5k4 ?q5k5 ?q5k6 ?q5k7 ?q5k8 ?_; (case q5kF => k_asm); (case q5k0 => exact rfl); (case q5k1 => (intros; rfl)); (case q5k2 => exact rfl); (case q5k3 => with_unfolding_all rfl); (case q5k4 => decide); (case q5k5 => exact rfl); (case q5k6 => decide); (case q5k7 => exact rfl); (case q5k8 => exact rfl); k_whole))
  k_with "eval ListComp" => (k_dflt (refine' comp_eval ?q6kF (emitOne _) ?q6k1 ?q6k3 ?q6k4 ?q6k5 ?q6k6 ?_; (case q6kF => k_asm); (case q6k1 => (intros; rfl)); (case q6k3 => with_unfolding_all rfl); (case q6k4 => decide); (case q6k5 => exact rfl); (case q6k6 => decide); k_whole))
  k_with "exec For Name Subscript cons nil" => (k_dflt (refine' for_rule ?q7kF ?_; (case q7kF => k_asm); k_whole))
  k_with "exec For Name Name cons nil" => (k_dflt (refine' for_rule ?q8kF ?_; (case q8kF => k_asm); k_whole))
  k_with "exec For Name IfExp cons nil" => (k_dflt (refine' for_rule ?q9kF ?_; (case q9kF => k_asm); k_whole))
  k_with "exec For Name Call cons nil" => (k_dflt (refine' for_rule ?q10kF ?_; (case q10kF => k_asm); k_whole))
  k_with "exec For Name ListComp cons nil" => (k_dflt (refine' for_rule ?q11kF ?_; (case q11kF => k_asm); k_whole))
  k_with "exec For Tuple Name cons nil" => (k_dflt (refine' for_rule ?q12kF ?_; (case q12kF => k_asm); k_whole))
  k_with "FSrc" => k_dflt (k_extra "m_fsrc")
  k_with "FRest" => k_dflt (k_extra "m_frest")
  k_with "FEnd" => k_dflt (k_extra "m_fend")
  k_with "CSrc" => k_dflt (k_extra "m_src")
  k_with "CRest" => k_dflt (k_extra "m_rest")
  k_with "CEnd" => k_dflt (k_extra "m_cend")
  k_with "FinA" => (unfold FinA; intro h9 tk9 F9 N9 ne9; (try rw [lst_eq] at N9))
  k_with "FinE" => (unfold FinE; intro h9 tk9 F9 N9 ne9; (try rw [lst_eq] at N9))
  k_with "execs cons Assign cons" => refine wpAny_execs_cons ?_
  k_with "execs cons Assign nil" => refine wpAny_execs_cons ?_
  k_with "execs cons If cons" => refine wpAny_execs_cons ?_
  k_with "execs cons If nil" => refine wpAny_execs_cons ?_
  k_with "execs cons For cons" => refine wpAny_execs_cons ?_
  k_with "execs cons For nil" => refine wpAny_execs_cons ?_
  k_with "execs cons Return cons" => refine wpAny_execs_cons ?_
  k_with "execs cons Return nil" => refine wpAny_execs_cons ?_
  k_with "execs cons Expr cons" => refine wpAny_execs_cons ?_
  k_with "execs cons Expr nil" => refine wpAny_execs_cons ?_
  k_with "ite" => first | (rw [if_neg (by decide +kernel)]) | (rw [if_pos (by decide +kernel)])
  k_with "subscriptTail Name Constant ref int" => (k_dflt (refine' item_tupleT ?q32k1 ?q32k2 ?q32k3 ?q32k4 ?q32k5 ?_; (case q32k1 => exact Fr.tup (by k_asm) (by assumption)); (case q32k2 => decide); (case q32k3 => decide); (case q32k4 => rfl); (case q32k5 => rfl); k_whole))
  k_with "eval Name" => (k_dflt (refine' nameX_L ?q33k1 ?q33k2 ?_; (case q33k1 => k_asm); (case q33k2 => first | exact rfl | assumption); k_whole))
  k_with "binaryOp Add ref ref" => (k_dflt (refine' my_add ?q34F ?q34N ?q34a ?q34b ?q34z ?_; (case q34F => k_asm); (case q34N => k_asm); (case q34a => k_mem); (case q34b => k_mem); (case q34z => (rw [sizeLine_eq]; (try simp only [List.length_append, List.length_nil, List.length_cons]); omega)); k_whole; intro r9 h9 F9 N9 l9; (try k_lt l9)))
  k_with "subscriptTail Subscript" => (k_dflt (refine kba_turn (value' := PySem.Expr.Name (PySem.Str.ofString "_") ⟨0, 0, 0, 0⟩) (fun _ => rfl) ?_))
  k_with "subscriptTail Name Slice ref ref" => (k_dflt (refine' slice_tuple ?q36F ?q36N ?q36t ?q36pa ?q36pb ?q36pc ?q36h0 ?q36hno ?q36hz ?q36hsz ?_ ?q36hs ?q36hg; (case q36F => k_asm); (case q36N => k_asm); (case q36t => exact Fr.tup (by k_asm) (by assumption)); (case q36pa => first | exact IsPart.none | exact IsPart.int _ _); (case q36pb => first | exact IsPart.none | exact IsPart.int _ _); (case q36pc => first | exact IsPart.none | exact IsPart.int _ _); (case q36h0 => rfl); (case q36hno => rfl); (case q36hz => with_unfolding_all first | exact (rfl : _ = []) | exact (rfl : _ = [_]) | exact (rfl : _ = [_, _]) | exact (rfl : _ = [_, _, _])); (case q36hsz => (rw [sizeLine_eq]; exact Nat.le_of_ble_eq_true rfl)); (case q36hs => with_unfolding_all rfl); (case q36hg => (intro _; with_unfolding_all rfl)); k_whole; intro r9 h9 F9 N9 l9; (try k_lt l9)))
  k_with "m_sub" => (intro q9 h9; simp only [List.mem_cons, List.mem_append, h9, true_or, or_true])
  k_with "m_rdsub" => (intro b o h; first | exact h | exact Or.inl h | (refine Or.elim h Or.inl (fun h => Or.inr ?_); simp only [List.mem_cons, List.mem_append, h, true_or, or_true]))
  k_with "m_rd" => first
      | exact Rd.int _ _ | exact Rd.str _ _ | exact Rd.bool _ | assumption
      | (refine' Rd.mono ?q39hs ?q39hv; (case q39hv => assumption); (case q39hs => walk_at "m_rdsub"))
      | (refine Rd.tuple (Or.inr (by k_mem)) ?_; walk_at "m_rds")
  k_with "m_rds" => first
      | exact RdAll.nil
      | ((refine RdAll.cons ?_ ?_); (walk_at "m_rd"); (walk_at "m_rds"))
  k_with "call builtin:len" => (k_dflt (refine' len_tupK ?q41k1 ?q41k2 ?q41k3 ?_; (case q41k1 => exact Fr.tup (by k_asm) (by assumption)); (case q41k2 => assumption); (case q41k3 => omega); k_whole))
  k_with "call type:range" => (k_dflt (first | (refine' range1_rows ?q42k1 ?q42k2 ?_; (case q42k1 => k_asm); (case q42k2 => k_asm); k_whole; intro h9 tk9 t9 u9 v9 hr9 F9 N9 hk9) | (refine' range2_rows ?q42k1 ?q42k2 ?_; (case q42k1 => k_asm); (case q42k2 => k_asm); k_whole; intro h9 tk9 t9 u9 v9 hr9 F9 N9 hk9)))
  k_with "subscriptTail Name Name ref int" => (k_dflt (refine' item_sym ?q43k1 ?q43k2 ?q43k3 ?q43k4 ?_; (case q43k1 => exact Fr.tup (by k_asm) (by assumption)); (case q43k4 => assumption); (case q43k2 => omega); (case q43k3 => omega); k_whole))
  k_with "compareOp Eq ref ref" => (k_dflt (refine' list_eq_nil ?y1N ?y1a ?y1b ?y1u ?_; (case y1N => k_asm); (case y1a => k_mem); (case y1b => k_mem); (case y1u => (show _ < 9900; (try dsimp only); omega)); k_whole))
  k_with "m_enterD" => (
      k_dflt (refine' enterC1 ?z3k4 ?z3k5 ?z3kH ?z3k6 ?z3k7 ?z3k8 ?z3k9 ?z3kB ?z3kD ?_ ?z3c2 ?z3c3 ?z3c4; (case z3kH => assumption); (case z3k4 => k_asm); (case z3k5 => k_asm); (case z3k6 => k_is); (case z3k7 => k_is); (case z3k8 => (simp only [recursionLimit]; omega)); (case z3k9 => exact BindsTo.of_eq rfl); (case z3kB => exact rfl); (case z3kD => decide +kernel); (case z3c2 => exact rfl); (case z3c3 => exact rfl); (case z3c4 => exact rfl); k_whole);
      rename Frag.In _ _ => xX; rename Top _ _ _ _ _ _ => xT; clear xX xT)
  k_with "m_enterB" => (
      k_dflt (refine' enterP1 ?z4k4 ?z4k5 ?z4kH ?z4k6 ?z4k7 ?z4k8 ?z4k9 ?z4kB ?_ ?z4c2 ?z4c3 ?z4c4 ?z4c5; (case z4kH => assumption); (case z4k4 => k_asm); (case z4k5 => k_asm); (case z4k6 => k_is); (case z4k7 => k_is); (case z4k8 => (simp only [recursionLimit]; omega)); (case z4k9 => exact BindsTo.of_eq rfl); (case z4c5 => decide); (case z4kB => exact locs rfl); (case z4c2 => exact rfl); (case z4c3 => exact rfl); (case z4c4 => exact rfl); k_whole);
      rename Frag.In _ _ => xX; rename Top _ _ _ _ _ _ => xT; clear xX xT)
  k_with "m_enterG" => (
      k_dflt (refine' enterG ?z5k4 ?z5k5 ?z5kH ?z5F ?z5N ?z5k6 ?z5k7 ?z5k8 ?z5k9 ?z5kB ?_ ?z5c2 ?z5c3 ?z5c4 ?z5c5; (case z5kH => assumption); (case z5F => assumption); (case z5N => assumption); (case z5k4 => k_asm); (case z5k5 => k_asm); (case z5k6 => k_is); (case z5k7 => k_is); (case z5k8 => (simp only [recursionLimit]; omega)); (case z5k9 => exact BindsTo.of_eq rfl); (case z5c5 => decide); (case z5kB => exact locs rfl); (case z5c2 => exact rfl); (case z5c3 => exact rfl); (case z5c4 => exact rfl); k_whole))
  k_with "m_enterGC" => (
      k_dflt (refine' enterGC ?z6k4 ?z6k5 ?z6kH ?z6F ?z6N ?z6k6 ?z6k7 ?z6k8 ?z6k9 ?z6kB ?z6kD ?_ ?z6c2 ?z6c3 ?z6c4; (case z6kH => assumption); (case z6F => assumption); (case z6N => assumption); (case z6k4 => k_asm); (case z6k5 => k_asm); (case z6k6 => k_is); (case z6k7 => k_is); (case z6k8 => (simp only [recursionLimit]; omega)); (case z6k9 => exact BindsTo.of_eq rfl); (case z6kB => exact rfl); (case z6kD => decide +kernel); (case z6c2 => exact rfl); (case z6c3 => exact rfl); (case z6c4 => exact rfl); k_whole))
  k_with "m_enterE" => (
      k_dflt (refine' enterE ?z8k4 ?z8k5 ?z8kH ?z8F ?z8N ?z8k6 ?z8k7 ?z8k8 ?z8k9 ?z8kB ?_ ?z8c2 ?z8c3 ?z8c4 ?z8c5; (case z8kH => assumption); (case z8F => assumption); (case z8N => assumption); (case z8k4 => k_asm); (case z8k5 => k_asm); (case z8k6 => k_is); (case z8k7 => k_is); (case z8k8 => (simp only [recursionLimit]; omega)); (case z8k9 => exact BindsTo.of_eq rfl); (case z8c5 => decide); (case z8kB => exact locs rfl); (case z8c2 => exact rfl); (case z8c3 => exact rfl); (case z8c4 => exact rfl); k_whole))
  k_with "m_enterEC" => (
      k_dflt (refine' enterEC ?z9k4 ?z9k5 ?z9kH ?z9F ?z9N ?z9k6 ?z9k7 ?z9k8 ?z9k9 ?z9kB ?z9kD ?_ ?z9c2 ?z9c3 ?z9c4; (case z9kH => assumption); (case z9F => assumption); (case z9N => assumption); (case z9k4 => k_asm); (case z9k5 => k_asm); (case z9k6 => k_is); (case z9k7 => k_is); (case z9k8 => (simp only [recursionLimit]; omega)); (case z9k9 => exact BindsTo.of_eq rfl); (case z9kB => exact rfl); (case z9kD => decide +kernel); (case z9c2 => exact rfl); (case z9c3 => exact rfl); (case z9c4 => exact rfl); k_whole))
  k_with "m_in" => first
    | with_reducible apply in_hd
    | (with_reducible apply in_l; walk_at "m_in")
    | (with_reducible apply in_r; walk_at "m_in")
    | (with_reducible apply in_tl; walk_at "m_in")
    | apply in_hd
    | assumption
  k_with "m_sub3" => first
    | with_reducible apply sub_id
    | (with_reducible apply sub_l; walk_at "m_sub3")
    | (with_reducible apply sub_r; walk_at "m_sub3")
    | (with_reducible apply sub_tl; walk_at "m_sub3")
  k_with "m_perm2" => ((repeat' (first | with_reducible apply sub_nil | with_reducible apply sub_app | with_reducible apply sub_cons)); all_goals (first | walk_at "m_in" | walk_at "m_sub3"))
  k_with "m_perm" => (intro p hp; simp only [List.cons_append, List.nil_append, List.append_assoc, List.append_nil, List.mem_cons, List.mem_append, List.not_mem_nil, or_false, or_assoc] at hp ⊢; (repeat' (first | (cases hp with | inl hp => ?_ | inr hp => ?_) | fail)); all_goals (repeat (first | apply hp | apply Or.inl hp | apply Or.inr)))
  k_with "m_notin" => first | exact notIn_of2 (by assumption) | (refine notIn_of ?_ ?_ ?_ ?_ ?_ <;> first | omega | assumption)
  k_with "m_off" => (refine Ap.all ?_; simp only [Ap, and_true]; omega)
  k_with "m_front" => first
    | assumption
    | exact rot2 (by assumption)
    | exact rot3 (by assumption)
    | exact rot4 (by assumption)
    | exact rot5 (by assumption)
    | exact rot6 (by assumption)
    | exact rot7 (by assumption)
    | exact rot8 (by assumption)
    | exact rot9 (by assumption)
  k_with "call builtin:list.append" => (k_dflt (refine' append_L ?zaF ?zaN ?zao ?zaz ?_; (case zaF => k_asm); (case zaN => walk_at "m_front"); (case zao => first | k_all | walk_at "m_off"); (case zaz => omega); k_whole; intro h9 F9 N9))
  k_with "compareOp NotIn int ref" => (k_dflt (refine' notin_L ?zbN ?zbm ?zbI ?_; (case zbN => k_asm); (case zbm => k_mem); (case zbI => assumption); k_whole))
  k_with "call builtin:len" => (k_dflt (refine' len_listK ?z7N ?z7l ?z7z ?_; (case z7N => k_asm); (case z7l => k_mem); (case z7z => omega); k_whole))
  trivial
theorem choice_ok {w : World} {mean : ExcName → Option Value} {mg mb : Str → Option Value} {H : Heap} (RT : Root w mean mg mb H) (rank : Nat) (ps : List (Pt Nm)) (hlen : ps.length ≤ 3) (IH : ∀ p ∈ ps, RowC w H 49 rank (p.data enc1) p.leaves (readF p)) :
    RowC w H 63 (rank + 1) (.tuple (ps.map (Pt.data enc1))) ((ps.map Pt.leaves).sum) (chF ps (false, [], [])) := by
  have RT0 := RT
  obtain ⟨X, T⟩ := RT
  intro dp un fr gd h₀ L m s sa sd ln df t1 t2 nvs nn dfO fl news st D v Q E hdp hun hH F Hh hneed hD hv hret
  obtain ⟨N, off, S⟩ := Hh
  obtain ⟨kt, ws, nk, rfl, hkt, hw⟩ := hv.tuple_inv
  have N0 : News h₀ L s.heap (AutL w sa sd ln df t1 t2 nvs nn dfO fl) := fun p hp => N p (List.mem_append_left _ hp)
  walk_at "m_enterE"
  intro L1 h1 tk1 g fr1 gd1 hg hHg F1 N1 hlt X1 T1
  clear X T
  have hDg : ∀ b o, D b o → g.get? b = some o := fun b o h => by rw [hg]; exact (er_other s.heap (as := autA sa sd ln df fl) (hD b o h).2).trans (hD b o h).1
  have hkg := hDg _ _ hkt
  have hwl := hw.length
  rw [List.length_map] at hwl
  k_with "newList" => (k_dflt (refine' newList_L ?zdF ?zdN ?_ ?zdz; (case zdF => k_asm); (case zdN => k_asm); (case zdz => exact Nat.zero_le _); k_whole); intro D9 h9 l9 F9 N9)
  k_steps
  rename_i D1 hx1 lx1 DT hx2 lt hx3 hx4 hx5 hx6 F2 N2
  have hD1 : D1 ∉ autA sa sd ln df fl := notIn_l lx1 fun _ h => h
  have hD2 : D9 ∉ autA sa sd ln df fl := notIn_l l9 fun _ h => .tail _ h
  have hD12 : D1 ≠ D9 := Nat.ne_of_lt (l9 _ (.head _))
  refine' FSrc.seq (tup := true) (its := ws) (n := nk) (news := AutL w sa sd ln df t1 t2 nvs nn dfO fl ++ [(D1, lstO [] 0), (D9, lstO [] 0)]) rfl ?hF ?hN (.inl hkg) ?_
  case hF => k_asm
  case hN => exact subN N2 (by walk_at "m_perm")
  intro I9 off9
  refine FRest.ind (RowJ w sa sd ln df t1 t2 fl fun i => chF (ps.take i) (false, [], []) st) ?step ?done ?hS₀ ?start
  case hS₀ => exact .inl hkg
  case start => exact ⟨_, _, D1, D9, [], [], 0, 0, nvs, nn, dfO, fl, [], rfl, (List.append_nil _).symm, hD1, hD2, hD12, S, .nil, .nil, rfl, rfl, rfl, rfl⟩
  case done =>
    rintro m9 nw h9 tk9 - ⟨a, st', lf, ll, vf, vl, nf, nl, nvs', nn', dfO', fl', x, hst, hx, hlfA, hllA, hne, S', hvf, hvl, hm1, hm2, hm3, hm4⟩ F9 N9 off9
    have hz1 : ps.take ws.length = ps := by rw [hwl]; exact List.take_length ..
    rw [hz1] at hst
    k_steps
    rename_i DR hR FR NR lR
    have hDR : DR ∉ autA sa sd ln df fl' := notIn_l (fl := fl') (w := w) (t1 := t1) (t2 := t2) (nvs := nvs') (nn := nn') (dfO := dfO') lR fun p hp => List.mem_append_left _ hp
    rw [← hst] at hret
    obtain ⟨F2', N2', ne2, off2⟩ := backA (tl := [(DR, tupO [.bool a.1, .ref lf, .ref ll] 0), (lf, lstO vf nf), (ll, lstO vl nl)]) hg F N off FR (subN NR (by walk_at "m_perm")) hx S'.nd (by
      simp only [List.forall_mem_cons]
      exact ⟨hDR, hlfA, hllA, fun _ h => by cases h⟩)
    show Q (.ref DR) _
    refine hret (.ref DR) nvs' nn' dfO' fl' x _ _ _ hx ⟨DR, lf, ll, vf, vl, nf, nl, 0, rfl, .head _, .tail _ (.head _), .tail _ (.tail _ (.head _)), hvf, hvl, hne⟩ F2' ⟨N2', ?_, S'⟩ ne2
    refine List.forall_mem_append.mpr ⟨off2, ?_⟩
    simp only [List.forall_mem_cons]
    exact ⟨hDR, hlfA, hllA, fun _ h => by cases h⟩
  case step =>
    rintro i m9 nw v9 oI9 h9 tk9 E9 hi - ⟨a, st', lf, ll, vf, vl, nf, nl, nvs', nn', dfO', fl', x, hst, hx, hlfA, hllA, hne, S', hvf, hvl, hm1, hm2, hm3, hm4⟩ hP F9 N9 off9
    obtain ⟨q, hq, hqm, hvq, -⟩ := hw.get_map hP
    have hlt1 := leaves_take hq
    have hRK := chF_ok (ps.take i) (false, [], []) st S.inv OKs.nil OKs.nil
    rw [← hst] at hRK
    obtain ⟨hk1, -, hk3, hk4⟩ := hRK
    have hQK := readF_ok q st' S'.inv
    have hsn := chF_snoc q (ps.take i) (false, [], []) st
    rw [← rowF_take hq, ← hst] at hsn
    obtain ⟨an, af, al⟩ := a
    generalize hrd : readF q st' = rd at hQK hsn
    obtain ⟨⟨c, eb, ee⟩, st9⟩ := rd
    obtain ⟨hj1, hj2, hj3, hj4⟩ := hQK
    dsimp only at hk1 hk3 hk4 hj1 hj2 hj3 hj4 hvf hvl hm2 hsn
    rw [← hj1] at hj3 hj4
    have hk3' : OKs st9.names.length af := hk3.mono (by omega)
    have hk4' : OKs st9.names.length al := hk4.mono (by omega)
    have hDA : ∀ b o, D b o → b ∉ autA sa sd ln df fl' := fun b o h => notGround (subN N9 fun p hp => .tail _ hp) (hDg b o h)
    have hIA : I9 ∉ autA sa sd ln df fl' := notIn_off off9
    have hIf : lf ≠ I9 := off9 (lf, lstO vf nf) (by k_mem)
    have hIl : ll ≠ I9 := off9 (ll, lstO vl nl) (by k_mem)
    have hoff0 : ∀ p ∈ [(I9, oI9), (lf, lstO vf nf), (ll, lstO vl nl)], p.1 ∉ autA sa sd ln df fl' := by
      simp only [List.forall_mem_cons]
      exact ⟨hIA, hlfA, hllA, fun _ h => by cases h⟩
    have hzf := hk3'.len
    have hzl := hk4'.len
    have hzb := hj3.len
    have hze := hj4.len
    have hK9 : st9.names.length ≤ 9 := by omega
    k_with "m_call" => (refine' IH q hqm _ _ _ _ g L1 _ _ sa sd ln df t1 t2 nvs' nn' dfO' fl' [(I9, oI9), (lf, lstO vf nf), (ll, lstO vl nl)] st' D v9 _ _ ?tdp ?tun hHg ?tF ⟨?tN, hoff0, S'⟩ ?tneed ?tD hvq ?_; (case tdp => omega); (case tun => omega); (case tF => k_asm); (case tN => exact subN (by k_asm) (by walk_at "m_perm")); (case tneed => omega); (case tD => exact fun b o h => ⟨Fr.keep (by k_asm) _ _ (hDg b o h), hDA b o h⟩); intro r9 nvs9 nn9 dfO9 fl9 x9 tl9 h9 tk9 hx9 hfd9 F9 H9 ne9; rw [hrd] at hfd9 H9; obtain ⟨rt, a1, a2, v1, v2, n1, n2, nt, rfl, hr1, hr2, hr3, hi1, hi2, h12⟩ := hfd9; dsimp only at hi1 hi2; (have N6 : News g L1 h9 (AutL w sa sd ln df t1 t2 nvs9 nn9 dfO9 fl9 ++ [(I9, oI9), (lf, lstO vf nf), (ll, lstO vl nl), (rt, tupO [.bool c, .ref a1, .ref a2] nt), (a1, lstO v1 n1), (a2, lstO v2 n2)]) := subN H9.N (news6 (l3 := [(I9, oI9), (lf, lstO vf nf), (ll, lstO vl nl)]) hr1 hr2 hr3)); (have off6 : ∀ p ∈ [(I9, oI9), (lf, lstO vf nf), (ll, lstO vl nl), (rt, tupO [.bool c, .ref a1, .ref a2] nt), (a1, lstO v1 n1), (a2, lstO v2 n2)], p.1 ∉ autA sa sd ln df fl9 := fun p hp => H9.off p (news6 (base := []) (l3 := [(I9, oI9), (lf, lstO vf nf), (ll, lstO vl nl)]) hr1 hr2 hr3 p hp)); (have S9 := H9.S); (have hT9 : IsTup h9 rt #[.bool c, .ref a1, .ref a2] := ⟨_, (N6 _ (List.mem_append_right _ (.tail _ (.tail _ (.tail _ (.head _)))))).1, rfl, _, rfl⟩); (have g1f := ne9 (lf, lstO vf nf) (List.mem_append_right _ (.tail _ (.head _)))); (have g1l := ne9 (ll, lstO vl nl) (List.mem_append_right _ (.tail _ (.tail _ (.head _))))); (have g1I := ne9 (I9, oI9) (List.mem_append_right _ (.head _))); (have b1f : a1 ≠ lf := g1f _ hr2); (have b2f : a2 ≠ lf := g1f _ hr3); (have b1l : a1 ≠ ll := g1l _ hr2); (have b2l : a2 ≠ ll := g1l _ hr3); (have b1I : a1 ≠ I9 := g1I _ hr2); (have b2I : a2 ≠ I9 := g1I _ hr3); clear H9 ne9 g1f g1l g1I)
    k_with "m_call" => (refine' add_all_ok RT0 ?tdp ?tun (lp := lf) (lq := a1) (news := AutL w sa sd ln df t1 t2 nvs9 nn9 dfO9 fl9 ++ [(I9, oI9), (ll, lstO vl nl), (a1, lstO v1 n1), (a2, lstO v2 n2)]) hHg ?tF ?tN (offA (off6 _ (.tail _ (.head _))) ?toff) ?tq b1f hvf hi1 ?tz ?_; (case tdp => omega); (case tun => omega); (case tF => k_asm); (case tN => exact subN (by k_asm) (by walk_at "m_perm")); (case toff => (simp only [List.forall_mem_cons]; exact ⟨Ne.symm hIf, Ne.symm hne, b1f, b2f, fun _ h => by cases h⟩)); (case tq => exact News.get (by k_asm) (by k_mem)); (case tz => omega); intro vf8 nf8 h8 tk8 hvf8 F8 N8)
    k_with "m_call" => (refine' add_all_ok RT0 ?tdp ?tun (lp := ll) (lq := a2) (ns := al) (news := AutL w sa sd ln df t1 t2 nvs9 nn9 dfO9 fl9 ++ [(I9, oI9), (lf, lstO vf8 nf8), (a2, lstO v2 n2)]) hHg ?tF ?tN (offA (off6 _ (.tail _ (.tail _ (.head _)))) ?toff) ?tq b2l hvl hi2 ?tz ?_; (case tdp => omega); (case tun => omega); (case tF => k_asm); (case tN => exact subN (by k_asm) (by walk_at "m_perm")); (case toff => (simp only [List.forall_mem_cons]; exact ⟨(Ne.symm hIl), hne, b2l, fun _ h => by cases h⟩)); (case tq => exact News.get (by k_asm) (by k_mem)); (case tz => first | omega | (rw [List.length_nil]; omega)); intro vl8 nl8 h8 tk8 hvl8 F8 N8)
    k_steps
    all_goals first
      | ((have ea : an = true := by with_reducible assumption); subst ea
         rename Fr g _ _ _ => FZ
         rename News g _ _ _ => NZ
         refine FEnd.next FZ NZ (AutL w sa sd ln df t1 t2 nvs9 nn9 dfO9 fl9 ++ [(lf, lstO vf8 nf8), (ll, lstO vl8 nl8)]) ?perm (offA (off6 _ (.head _)) ?_) (.inl hkg) ⟨_, _, lf, ll, vf8, vl8, nf8, nl8, nvs9, nn9, dfO9, fl9, x ++ x9, hsn.symm, (by rw [hx9, hx, List.append_assoc]), (off6 _ (.tail _ (.head _))), (off6 _ (.tail _ (.tail _ (.head _)))), hne, S9, hvf8, hvl8, hm1, rfl, hm3, hm4⟩
         case perm => walk_at "m_perm"
         simp only [List.forall_mem_cons]
         exact ⟨hIf, hIl, fun _ h => by cases h⟩)
      | ((have ea : an = false := by with_reducible assumption); subst ea
         rename Fr g _ _ _ => FZ
         rename News g _ _ _ => NZ
         refine FEnd.next FZ NZ (AutL w sa sd ln df t1 t2 nvs9 nn9 dfO9 fl9 ++ [(lf, lstO vf8 nf8), (ll, lstO vl8 nl8)]) ?perm (offA (off6 _ (.head _)) ?_) (.inl hkg) ⟨_, _, lf, ll, vf8, vl8, nf8, nl8, nvs9, nn9, dfO9, fl9, x ++ x9, hsn.symm, (by rw [hx9, hx, List.append_assoc]), (off6 _ (.tail _ (.head _))), (off6 _ (.tail _ (.tail _ (.head _)))), hne, S9, hvf8, hvl8, hm1, rfl, hm3, hm4⟩
         case perm => walk_at "m_perm"
         simp only [List.forall_mem_cons]
         exact ⟨hIf, hIl, fun _ h => by cases h⟩)
theorem words_read : True := by
  w_top off
  k_with_none
  k_with "m_enter" => (
      refine wpAny_call ?_;
      k_dflt (refine' enterP0 ?q0k4 ?q0k5 ?q0kH ?q0k6 ?q0k7 ?q0k8 ?q0k9 ?q0kB ?_ ?q0c2 ?q0c3 ?q0c4 ?q0c5; (case q0kH => assumption); (case q0k4 => k_asm); (case q0k5 => k_asm); (case q0k6 => k_is); (case q0k7 => k_is); (case q0k8 => (simp only [recursionLimit]; omega)); (case q0k9 => exact BindsTo.of_eq rfl); (case q0c5 => decide); (case q0kB => exact locs rfl); (case q0c2 => exact rfl); (case q0c3 => exact rfl); (case q0c4 => exact rfl); k_whole);
      rename Frag.In _ _ => xX; rename Top _ _ _ _ _ _ => xT; clear xX xT;
      intro L' h' tk' F' N' X' T'; (try dsimp only); (try k_fold))
  k_with "m_enter0" => (
      refine wpAny_call ?_;
      k_dflt (refine' enterP0 ?q1k4 ?q1k5 ?q1kH ?q1k6 ?q1k7 ?q1k8 ?q1k9 ?q1kB ?_ ?q1c2 ?q1c3 ?q1c4 ?q1c5; (case q1kH => assumption); (case q1k4 => k_asm); (case q1k5 => k_asm); (case q1k6 => k_is); (case q1k7 => k_is); (case q1k8 => (simp only [recursionLimit]; omega)); (case q1k9 => exact BindsTo.of_eq rfl); (case q1c5 => decide); (case q1kB => exact locs rfl); (case q1c2 => exact rfl); (case q1c3 => exact rfl); (case q1c4 => exact rfl); k_whole);
      rename Frag.In _ _ => xX; rename Top _ _ _ _ _ _ => xT; clear xX xT)
  k_with "m_enterC" => (
      refine wpAny_call ?_;
      k_dflt (refine' enterC0 ?q2k4 ?q2k5 ?q2kH ?q2k6 ?q2k7 ?q2k8 ?q2k9 ?q2kB ?q2kD ?_ ?q2c2 ?q2c3 ?q2c4; (case q2kH => assumption); (case q2k4 => k_asm); (case q2k5 => k_asm); (case q2k6 => k_is); (case q2k7 => k_is); (case q2k8 => (simp only [recursionLimit]; omega)); (case q2k9 => exact BindsTo.of_eq rfl); (case q2kB => exact rfl); (case q2kD => decide +kernel); (case q2c2 => exact rfl); (case q2c3 => exact rfl); (case q2c4 => exact rfl); k_whole);
      rename Frag.In _ _ => xX; rename Top _ _ _ _ _ _ => xT; clear xX xT;
      intro L' h' tk' cells' F' N' Y' X' T'; k_cells Y'; (try simp only [List.cons_append, List.nil_append] at N'); (try dsimp only); (try k_fold))
  k_with "m_enterC0" => (
      refine wpAny_call ?_;
      k_dflt (refine' enterC0 ?q3k4 ?q3k5 ?q3kH ?q3k6 ?q3k7 ?q3k8 ?q3k9 ?q3kB ?q3kD ?_ ?q3c2 ?q3c3 ?q3c4; (case q3kH => assumption); (case q3k4 => k_asm); (case q3k5 => k_asm); (case q3k6 => k_is); (case q3k7 => k_is); (case q3k8 => (simp only [recursionLimit]; omega)); (case q3k9 => exact BindsTo.of_eq rfl); (case q3kB => exact rfl); (case q3kD => decide +kernel); (case q3c2 => exact rfl); (case q3c3 => exact rfl); (case q3c4 => exact rfl); k_whole);
      rename Frag.In _ _ => xX; rename Top _ _ _ _ _ _ => xT; clear xX xT)
  k_with "call ref" => k_dflt (k_extra "m_call")
  k_with "exec Assign cons ListComp" => (k_dflt (refine' comp_assign ?q5kF (emitOne _) ?q5k0 ?q5k1 ?q5k2 ?q5k3 ?q5k4 ?q5k5 ?q5k6 ?q5k7 ?q5k8 ?_; (case q5kF => k_asm); (case q5k0 => exact rfl); (case q5k1 => (intros; rfl)); (case q5k2 => exact rfl); (case q5k3 => with_unfolding_all rfl); (case q5k4 => decide); (case q5k5 => exact rfl); (case q5k6 => decide); (case q5k7 => exact rfl); (case q5k8 => exact rfl); k_whole))
  k_with "eval ListComp" => (k_dflt (refine' comp_eval ?q6kF (emitOne _) ?q6k1 ?q6k3 ?q6k4 ?q6k5 ?q6k6 ?_; (case q6kF => k_asm); (case q6k1 => (intros; rfl)); (case q6k3 => with_unfolding_all rfl); (case q6k4 => decide); (case q6k5 => exact rfl); (case q6k6 => decide); k_whole))
  k_with "exec For Name Subscript cons nil" => (k_dflt (refine' for_rule ?q7kF ?_; (case q7kF => k_asm); k_whole))
  k_with "exec For Name Name cons nil" => (k_dflt (refine' for_rule ?q8kF ?_; (case q8kF => k_asm); k_whole))
  k_with "exec For Name IfExp cons nil" => (k_dflt (refine' for_rule ?q9kF ?_; (case q9kF => k_asm); k_whole))
  k_with "exec For Name Call cons nil" => (k_dflt (refine' for_rule ?q10kF ?_; (case q10kF => k_asm); k_whole))
  k_with "exec For Name ListComp cons nil" => (k_dflt (refine' for_rule ?q11kF ?_; (case q11kF => k_asm); k_whole))
  k_with "exec For Tuple Name cons nil" => (k_dflt (refine' for_rule ?q12kF ?_; (case q12kF => k_asm); k_whole))
  k_with "FSrc" => k_dflt (k_extra "m_fsrc")
  k_with "FRest" => k_dflt (k_extra "m_frest")
  k_with "FEnd" => k_dflt (k_extra "m_fend")
  k_with "CSrc" => k_dflt (k_extra "m_src")
  k_with "CRest" => k_dflt (k_extra "m_rest")
  k_with "CEnd" => k_dflt (k_extra "m_cend")
  k_with "FinA" => (unfold FinA; intro h9 tk9 F9 N9 ne9; (try rw [lst_eq] at N9))
  k_with "FinE" => (unfold FinE; intro h9 tk9 F9 N9 ne9; (try rw [lst_eq] at N9))
  k_with "execs cons Assign cons" => refine wpAny_execs_cons ?_
  k_with "execs cons Assign nil" => refine wpAny_execs_cons ?_
  k_with "execs cons If cons" => refine wpAny_execs_cons ?_
  k_with "execs cons If nil" => refine wpAny_execs_cons ?_
  k_with "execs cons For cons" => refine wpAny_execs_cons ?_
  k_with "execs cons For nil" => refine wpAny_execs_cons ?_
  k_with "execs cons Return cons" => refine wpAny_execs_cons ?_
  k_with "execs cons Return nil" => refine wpAny_execs_cons ?_
  k_with "execs cons Expr cons" => refine wpAny_execs_cons ?_
  k_with "execs cons Expr nil" => refine wpAny_execs_cons ?_
  k_with "ite" => first | (rw [if_neg (by decide +kernel)]) | (rw [if_pos (by decide +kernel)])
  k_with "subscriptTail Name Constant ref int" => (k_dflt (refine' item_tupleT ?q32k1 ?q32k2 ?q32k3 ?q32k4 ?q32k5 ?_; (case q32k1 => exact Fr.tup (by k_asm) (by assumption)); (case q32k2 => decide); (case q32k3 => decide); (case q32k4 => rfl); (case q32k5 => rfl); k_whole))
  k_with "eval Name" => (k_dflt (refine' nameX_L ?q33k1 ?q33k2 ?_; (case q33k1 => k_asm); (case q33k2 => first | exact rfl | assumption); k_whole))
  k_with "binaryOp Add ref ref" => (k_dflt (refine' my_add ?q34F ?q34N ?q34a ?q34b ?q34z ?_; (case q34F => k_asm); (case q34N => k_asm); (case q34a => k_mem); (case q34b => k_mem); (case q34z => (rw [sizeLine_eq]; (try simp only [List.length_append, List.length_nil, List.length_cons]); omega)); k_whole; intro r9 h9 F9 N9 l9; (try k_lt l9)))
  k_with "subscriptTail Subscript" => (k_dflt (refine kba_turn (value' := PySem.Expr.Name (PySem.Str.ofString "_") ⟨0, 0, 0, 0⟩) (fun _ => rfl) ?_))
  k_with "subscriptTail Name Slice ref ref" => (k_dflt (refine' slice_tuple ?q36F ?q36N ?q36t ?q36pa ?q36pb ?q36pc ?q36h0 ?q36hno ?q36hz ?q36hsz ?_ ?q36hs ?q36hg; (case q36F => k_asm); (case q36N => k_asm); (case q36t => exact Fr.tup (by k_asm) (by assumption)); (case q36pa => first | exact IsPart.none | exact IsPart.int _ _); (case q36pb => first | exact IsPart.none | exact IsPart.int _ _); (case q36pc => first | exact IsPart.none | exact IsPart.int _ _); (case q36h0 => rfl); (case q36hno => rfl); (case q36hz => with_unfolding_all first | exact (rfl : _ = []) | exact (rfl : _ = [_]) | exact (rfl : _ = [_, _]) | exact (rfl : _ = [_, _, _])); (case q36hsz => (rw [sizeLine_eq]; exact Nat.le_of_ble_eq_true rfl)); (case q36hs => with_unfolding_all rfl); (case q36hg => (intro _; with_unfolding_all rfl)); k_whole; intro r9 h9 F9 N9 l9; (try k_lt l9)))
  k_with "m_sub" => (intro q9 h9; simp only [List.mem_cons, List.mem_append, h9, true_or, or_true])
  k_with "m_rdsub" => (intro b o h; first | exact h | exact Or.inl h | (refine Or.elim h Or.inl (fun h => Or.inr ?_); simp only [List.mem_cons, List.mem_append, h, true_or, or_true]))
  k_with "m_rd" => first
      | exact Rd.int _ _ | exact Rd.str _ _ | exact Rd.bool _ | assumption
      | (refine' Rd.mono ?q39hs ?q39hv; (case q39hv => assumption); (case q39hs => walk_at "m_rdsub"))
      | (refine Rd.tuple (Or.inr (by k_mem)) ?_; walk_at "m_rds")
  k_with "m_rds" => first
      | exact RdAll.nil
      | ((refine RdAll.cons ?_ ?_); (walk_at "m_rd"); (walk_at "m_rds"))
  k_with "call builtin:len" => (k_dflt (refine' len_tupK ?q41k1 ?q41k2 ?q41k3 ?_; (case q41k1 => exact Fr.tup (by k_asm) (by assumption)); (case q41k2 => assumption); (case q41k3 => omega); k_whole))
  k_with "call type:range" => (k_dflt (first | (refine' range1_rows ?q42k1 ?q42k2 ?_; (case q42k1 => k_asm); (case q42k2 => k_asm); k_whole; intro h9 tk9 t9 u9 v9 hr9 F9 N9 hk9) | (refine' range2_rows ?q42k1 ?q42k2 ?_; (case q42k1 => k_asm); (case q42k2 => k_asm); k_whole; intro h9 tk9 t9 u9 v9 hr9 F9 N9 hk9)))
  k_with "subscriptTail Name Name ref int" => (k_dflt (refine' item_sym ?q43k1 ?q43k2 ?q43k3 ?q43k4 ?_; (case q43k1 => exact Fr.tup (by k_asm) (by assumption)); (case q43k4 => assumption); (case q43k2 => omega); (case q43k3 => omega); k_whole))
  k_with "compareOp Eq ref ref" => (k_dflt (refine' list_eq_nil ?y1N ?y1a ?y1b ?y1u ?_; (case y1N => k_asm); (case y1a => k_mem); (case y1b => k_mem); (case y1u => (show _ < 9900; (try dsimp only); omega)); k_whole))
  k_with "m_enterD" => (
      k_dflt (refine' enterC1 ?z3k4 ?z3k5 ?z3kH ?z3k6 ?z3k7 ?z3k8 ?z3k9 ?z3kB ?z3kD ?_ ?z3c2 ?z3c3 ?z3c4; (case z3kH => assumption); (case z3k4 => k_asm); (case z3k5 => k_asm); (case z3k6 => k_is); (case z3k7 => k_is); (case z3k8 => (simp only [recursionLimit]; omega)); (case z3k9 => exact BindsTo.of_eq rfl); (case z3kB => exact rfl); (case z3kD => decide +kernel); (case z3c2 => exact rfl); (case z3c3 => exact rfl); (case z3c4 => exact rfl); k_whole);
      rename Frag.In _ _ => xX; rename Top _ _ _ _ _ _ => xT; clear xX xT)
  k_with "m_enterB" => (
      k_dflt (refine' enterP1 ?z4k4 ?z4k5 ?z4kH ?z4k6 ?z4k7 ?z4k8 ?z4k9 ?z4kB ?_ ?z4c2 ?z4c3 ?z4c4 ?z4c5; (case z4kH => assumption); (case z4k4 => k_asm); (case z4k5 => k_asm); (case z4k6 => k_is); (case z4k7 => k_is); (case z4k8 => (simp only [recursionLimit]; omega)); (case z4k9 => exact BindsTo.of_eq rfl); (case z4c5 => decide); (case z4kB => exact locs rfl); (case z4c2 => exact rfl); (case z4c3 => exact rfl); (case z4c4 => exact rfl); k_whole);
      rename Frag.In _ _ => xX; rename Top _ _ _ _ _ _ => xT; clear xX xT)
  k_with "m_enterG" => (
      k_dflt (refine' enterG ?z5k4 ?z5k5 ?z5kH ?z5F ?z5N ?z5k6 ?z5k7 ?z5k8 ?z5k9 ?z5kB ?_ ?z5c2 ?z5c3 ?z5c4 ?z5c5; (case z5kH => assumption); (case z5F => assumption); (case z5N => assumption); (case z5k4 => k_asm); (case z5k5 => k_asm); (case z5k6 => k_is); (case z5k7 => k_is); (case z5k8 => (simp only [recursionLimit]; omega)); (case z5k9 => exact BindsTo.of_eq rfl); (case z5c5 => decide); (case z5kB => exact locs rfl); (case z5c2 => exact rfl); (case z5c3 => exact rfl); (case z5c4 => exact rfl); k_whole))
  k_with "m_enterGC" => (
      k_dflt (refine' enterGC ?z6k4 ?z6k5 ?z6kH ?z6F ?z6N ?z6k6 ?z6k7 ?z6k8 ?z6k9 ?z6kB ?z6kD ?_ ?z6c2 ?z6c3 ?z6c4; (case z6kH => assumption); (case z6F => assumption); (case z6N => assumption); (case z6k4 => k_asm); (case z6k5 => k_asm); (case z6k6 => k_is); (case z6k7 => k_is); (case z6k8 => (simp only [recursionLimit]; omega)); (case z6k9 => exact BindsTo.of_eq rfl); (case z6kB => exact rfl); (case z6kD => decide +kernel); (case z6c2 => exact rfl); (case z6c3 => exact rfl); (case z6c4 => exact rfl); k_whole))
  k_with "m_enterE" => (
      k_dflt (refine' enterE ?z8k4 ?z8k5 ?z8kH ?z8F ?z8N ?z8k6 ?z8k7 ?z8k8 ?z8k9 ?z8kB ?_ ?z8c2 ?z8c3 ?z8c4 ?z8c5; (case z8kH => assumption); (case z8F => assumption); (case z8N => assumption); (case z8k4 => k_asm); (case z8k5 => k_asm); (case z8k6 => k_is); (case z8k7 => k_is); (case z8k8 => (simp only [recursionLimit]; omega)); (case z8k9 => exact BindsTo.of_eq rfl); (case z8c5 => decide); (case z8kB => exact locs rfl); (case z8c2 => exact rfl); (case z8c3 => exact rfl); (case z8c4 => exact rfl); k_whole))
  k_with "m_enterEC" => (
      k_dflt (refine' enterEC ?z9k4 ?z9k5 ?z9kH ?z9F ?z9N ?z9k6 ?z9k7 ?z9k8 ?z9k9 ?z9kB ?z9kD ?_ ?z9c2 ?z9c3 ?z9c4; (case z9kH => assumption); (case z9F => assumption); (case z9N => assumption); (case z9k4 => k_asm); (case z9k5 => k_asm); (case z9k6 => k_is); (case z9k7 => k_is); (case z9k8 => (simp only [recursionLimit]; omega)); (case z9k9 => exact BindsTo.of_eq rfl); (case z9kB => exact rfl); (case z9kD => decide +kernel); (case z9c2 => exact rfl); (case z9c3 => exact rfl); (case z9c4 => exact rfl); k_whole))
  k_with "m_in" => first
    | with_reducible apply in_hd
    | (with_reducible apply in_l; walk_at "m_in")
    | (with_reducible apply in_r; walk_at "m_in")
    | (with_reducible apply in_tl; walk_at "m_in")
    | apply in_hd
    | assumption
  k_with "m_sub3" => first
    | with_reducible apply sub_id
    | (with_reducible apply sub_l; walk_at "m_sub3")
    | (with_reducible apply sub_r; walk_at "m_sub3")
    | (with_reducible apply sub_tl; walk_at "m_sub3")
  k_with "m_perm2" => ((repeat' (first | with_reducible apply sub_nil | with_reducible apply sub_app | with_reducible apply sub_cons)); all_goals (first | walk_at "m_in" | walk_at "m_sub3"))
  k_with "m_perm" => (intro p hp; simp only [List.cons_append, List.nil_append, List.append_assoc, List.append_nil, List.mem_cons, List.mem_append, List.not_mem_nil, or_false, or_assoc] at hp ⊢; (repeat' (first | (cases hp with | inl hp => ?_ | inr hp => ?_) | fail)); all_goals (repeat (first | apply hp | apply Or.inl hp | apply Or.inr)))
  k_with "m_notin" => first | exact notIn_of2 (by assumption) | (refine notIn_of ?_ ?_ ?_ ?_ ?_ <;> first | omega | assumption)
  k_with "m_off" => (refine Ap.all ?_; simp only [Ap, and_true]; omega)
  k_with "m_front" => first
    | assumption
    | exact rot2 (by assumption)
    | exact rot3 (by assumption)
    | exact rot4 (by assumption)
    | exact rot5 (by assumption)
    | exact rot6 (by assumption)
    | exact rot7 (by assumption)
    | exact rot8 (by assumption)
    | exact rot9 (by assumption)
  k_with "call builtin:list.append" => (k_dflt (refine' append_L ?zaF ?zaN ?zao ?zaz ?_; (case zaF => k_asm); (case zaN => walk_at "m_front"); (case zao => first | k_all | walk_at "m_off"); (case zaz => omega); k_whole; intro h9 F9 N9))
  k_with "compareOp NotIn int ref" => (k_dflt (refine' notin_L ?zbN ?zbm ?zbI ?_; (case zbN => k_asm); (case zbm => k_mem); (case zbI => assumption); k_whole))
  k_with "call builtin:len" => (k_dflt (refine' len_listK ?z7N ?z7l ?z7z ?_; (case z7N => k_asm); (case z7l => k_mem); (case z7z => omega); k_whole))
  trivial
theorem stepName {k : Nat} {x : Int} (h : x = (k : Int) + 1) : (OKs (k + 1) [x]) := OKs.one (by omega) (by omega)
theorem read_ok {w : World} {mean : ExcName → Option Value} {mg mb : Str → Option Value} {H : Heap} (RT : Root w mean mg mb H) :
    ∀ n, ∀ p : Pt Nm, p.height < n → p.ok → RowC w H 49 (3 * p.height) (p.data enc1) p.leaves (readF p) := by
  intro n
  induction n with
  | zero => intro p h; exact absurd h (Nat.not_lt_zero _)
  | succ n IHn =>
  intro p hpn pok
  have RT0 := RT
  obtain ⟨X, T⟩ := RT
  intro dp un fr gd h₀ L m s sa sd ln df t1 t2 nvs nn dfO fl news st D v Q E hdp hun hH F Hh hneed hD hv hret
  obtain ⟨N, off, S⟩ := Hh
  have N0 : News h₀ L s.heap (AutL w sa sd ln df t1 t2 nvs nn dfO fl) := fun p hp => N p (List.mem_append_left _ hp)
  cases p with
  | name nm mk =>
    simp only [Pt.data] at hv
    obtain ⟨pa, vs, na, rfl, hpa, hv⟩ := hv.tuple_inv
    obtain ⟨v0, v1, v2, rfl, hv0, hv1, hv2⟩ := hv.three
    obtain ⟨t0, rfl⟩ := hv0.str_inv
    obtain ⟨t3, rfl⟩ := Rd.str_inv (x := nm.str) hv1
    obtain ⟨t4, rfl⟩ := hv2.str_inv
    walk_at "m_enterE"
    intro L1 h1 tk1 g fr1 gd1 hg hHg F1 N1 hlt X1 T1
    clear X T
    have hDg : ∀ b o, D b o → g.get? b = some o := fun b o h => by rw [hg]; exact (er_other s.heap (as := autA sa sd ln df fl) (hD b o h).2).trans (hD b o h).1
    have hT : IsTup g pa #[.str "name" t0, .str nm.str t3, .str mk.str t4] := ⟨_, hDg _ _ hpa, rfl, _, rfl⟩
    have hnl := S.nms.length
    rw [List.length_map] at hnl
    have hflen := S.fl.length
    have hinv := S.inv.1
    have hnd := S.nd
    simp only [autA, List.nodup_cons, List.mem_cons, not_or] at hnd
    obtain ⟨⟨e12, e13, e14, e1f⟩, ⟨e23, e24, e2f⟩, ⟨e34, e3f⟩, e4f, endd⟩ := hnd
    have ffl : ∀ a, a ∉ adrs fl → ∀ p ∈ fl, p.1 ≠ a := fun a ha p hp e => ha (e ▸ List.mem_map.mpr ⟨p, hp, rfl⟩)
    have f1 := ffl _ e1f
    have f2 := ffl _ e2f
    have f3 := ffl _ e3f
    have f4 := ffl _ e4f
    replace e12 : @Ne Nat sa sd := e12
    replace e13 : @Ne Nat sa ln := e13
    replace e14 : @Ne Nat sa df := e14
    replace e23 : @Ne Nat sd ln := e23
    replace e24 : @Ne Nat sd df := e24
    replace e34 : @Ne Nat ln df := e34
    k_with "call builtin:len" => (k_dflt (refine' len_listK ?z7N ?z7l ?z7z ?_; (case z7N => k_asm); (case z7l => k_mem); (case z7z => (rw [List.length_append, List.length_singleton]; omega)); k_whole))
    k_with "newList" => (k_dflt (refine' newList_L ?zdF ?zdN ?_ ?zdz; (case zdF => k_asm); (case zdN => k_asm); (case zdz => first | exact Nat.zero_le _ | exact Nat.le_of_ble_eq_true rfl); k_whole); intro D9 h9 l9 F9 N9)
    k_with "setItem ref int ref" => ((have q9 : @Ne Nat D9 df := Ne.symm (Nat.ne_of_lt (l9 (df, dfO) (by k_mem)))); (k_dflt (refine' set_L ?zsF ?zsN ?zso ?zsd ?zsz ?_; (case zsF => k_asm); (case zsN => walk_at "m_front"); (case zso => k_all); (case zsd => exact S.dict); (case zsz => (rw [kvsFrom_len]; omega)); k_whole)); intro h9 o9 F9 N9 d9)
    k_steps
    rename_i D1 hx1 lx1 hx2 D2 hx3 lx2 DT hx4 lt hx5 FT NT
    have hx : ((nvs ++ [Value.str nm.str t3]).length : Int) = (st.names.length : Int) + 1 := by rw [List.length_append, List.length_singleton]; omega
    have hxk : ((nvs ++ [Value.str nm.str t3]).length : Int) = ((1 + fl.length : Nat) : Int) := by rw [List.length_append, List.length_singleton]; omega
    rw [hxk, kvsFrom_snoc (o := lstO [] 0) .none fl 1] at d9
    have hA1 : D1 ∉ autA sa sd ln df fl := notIn_l (w := w) (t1 := t1) (t2 := t2) (nvs := nvs ++ [Value.str nm.str t3]) (nn := nn + 1) (dfO := dfO) lx1 (by walk_at "m_perm")
    have hap : adrs (fl ++ [(D1, lstO [] 0)]) = adrs fl ++ [D1] := List.map_append ..
    have hAA := autA_append (sa := sa) (sd := sd) (ln := ln) (df := df) hap
    have hA2 : D2 ∉ autA sa sd ln df (fl ++ [(D1, lstO [] 0)]) := notIn_l (w := w) (t1 := t1) (t2 := t2) (nvs := nvs ++ [Value.str nm.str t3]) (nn := nn + 1) (dfO := o9) lx2 (by walk_at "m_perm")
    have hA3 : D9 ∉ autA sa sd ln df (fl ++ [(D1, lstO [] 0)]) := notIn_l (w := w) (t1 := t1) (t2 := t2) (nvs := nvs ++ [Value.str nm.str t3]) (nn := nn + 1) (dfO := o9) l9 (by walk_at "m_perm")
    have hA4 : DT ∉ autA sa sd ln df (fl ++ [(D1, lstO [] 0)]) := by
      rw [hAA]
      intro hm
      rcases List.mem_append.mp hm with hm | hm
      · refine notIn_of (fl := fl) (sa := sa) (sd := sd) (ln := ln) (df := df) ?_ ?_ ?_ ?_ lt.2.2.2.2.2.2.2 hm <;> omega
      · have := List.mem_singleton.mp hm
        have : @Eq Nat DT D1 := this
        omega
    have hnd1 : (autA sa sd ln df (fl ++ [(D1, lstO [] 0)])).Nodup := by
      rw [hAA, List.nodup_append]
      refine ⟨S.nd, by simp, fun a ha b hb => ?_⟩
      rw [List.mem_singleton.mp hb]
      exact fun e => hA1 (e ▸ ha)
    have hinv1 := S.inv.mono nm
    have hRK := readF_ok (.name nm mk) st S.inv
    rw [readF] at hret hRK
    have hh1 : (Pt.name nm mk).height = 1 := by rw [Pt.height]
    obtain ⟨tA, tB, NM⟩ : ∃ tA tB, News g L1 hx5 (AutL w sa sd ln df t1 t2 (nvs ++ [Value.str nm.str t3]) (nn + 1) o9 (fl ++ [(D1, lstO [] 0)]) ++ [(DT, tupO [.bool false, .ref D2, .ref D9] 0), (D2, lstO [.int ((nvs ++ [Value.str nm.str t3]).length : Nat) tA] 0), (D9, lstO [.int ((nvs ++ [Value.str nm.str t3]).length : Nat) tB] 0)]) := ⟨_, _, subN NT (by walk_at "m_perm")⟩
    rw [hx] at NM
    have off3 : ∀ p ∈ [(DT, tupO [.bool false, .ref D2, .ref D9] 0), (D2, lstO [.int ((st.names.length : Int) + 1) tA] 0), (D9, lstO [.int ((st.names.length : Int) + 1) tB] 0)], p.1 ∉ autA sa sd ln df (fl ++ [(D1, lstO [] 0)]) := by
      simp only [List.forall_mem_cons]
      exact ⟨hA4, hA2, hA3, fun _ h => by cases h⟩
    refine marked_ok RT0 (fl := fl ++ [(D1, lstO [] 0)]) (fs := st.fol ++ [[]]) (K := st.names.length + 1) (D := fun b o => (b, o) ∈ [(DT, tupO [.bool false, .ref D2, .ref D9] 0), (D2, lstO [.int ((st.names.length : Int) + 1) tA] 0), (D9, lstO [.int ((st.names.length : Int) + 1) tB] 0)]) (f := (false, [(st.names.length : Int) + 1], [(st.names.length : Int) + 1])) (by omega) (by omega) hHg FT NM hnd1 off3 d9 S.fl.snoc (fun f hf => by have := hinv1.2 f hf; rw [List.length_append] at this; exact this) (by rw [Pt.leaves] at hneed; omega) (by rw [List.length_append, List.length_singleton]; omega) (fun b o h => ⟨(NM (b, o) (List.mem_append_right _ h)).1, off3 (b, o) h⟩) ⟨DT, D2, D9, _, _, 0, 0, 0, rfl, .head _, .tail _ (.head _), .tail _ (.tail _ (.head _)), .cons _ _ .nil, .cons _ _ .nil, Nat.ne_of_lt (l9 _ (.head _))⟩ (stepName rfl) (stepName rfl) ?_
    · intro r' fl' tl h' tk' hfl' had hkv hfd F' N' ne'
      have ea : autA sa sd ln df fl' = autA sa sd ln df (fl ++ [(D1, lstO [] 0)]) := autA_eq had
      have htl : ∀ p ∈ tl, p.1 ∉ autA sa sd ln df fl' := fun p hp => notIn_off fun q hq => Ne.symm (ne' q hq p hp)
      obtain ⟨F2, N2, ne2, off2⟩ := backA hg F N off F' (subN N' (by walk_at "m_perm")) (had.trans hap) (by rw [ea]; exact hnd1) htl
      refine hret r' _ _ _ fl' [D1] tl h' tk' (had.trans hap) hfd F2 ⟨N2, List.forall_mem_append.mpr ⟨off2, htl⟩, ⟨by rw [ea]; exact hnd1, by rw [hkv]; exact d9, hfl', ?_, hRK.2.1⟩⟩ ne2
      show RdAll _ _ ((st.names ++ [nm]).map enc1)
      rw [List.map_append]
      exact S.nms.append (RdAll.one' (Rd.str nm.str t3))
  | node sq ps mk =>
    simp only [Pt.data] at hv
    obtain ⟨pa, vs, na, rfl, hpa, hv⟩ := hv.tuple_inv
    obtain ⟨v0, v1, v2, rfl, hv0, hv1, hv2⟩ := hv.three
    obtain ⟨t0, rfl⟩ := hv0.str_inv
    obtain ⟨kt, ws, nk, rfl, hkt, hw⟩ := hv1.tuple_inv
    obtain ⟨t4, rfl⟩ := hv2.str_inv
    walk_at "m_enterE"
    intro L1 h1 tk1 g fr1 gd1 hg hHg F1 N1 hlt X1 T1
    clear X T
    have hDg : ∀ b o, D b o → g.get? b = some o := fun b o h => by rw [hg]; exact (er_other s.heap (as := autA sa sd ln df fl) (hD b o h).2).trans (hD b o h).1
    have hT : IsTup g pa #[.str (kindStr sq) t0, .ref kt, .str mk.str t4] := ⟨_, hDg _ _ hpa, rfl, _, rfl⟩
    obtain ⟨k, hk1, hk2⟩ := height_kids (sq := sq) (ps := ps) (mk := mk)
    rw [Pt.ok] at pok
    have hlen : ps.length ≤ 3 := by rcases pok.1 with h | h <;> omega
    have IHk : ∀ q ∈ ps, RowC w H 49 (3 * k) (q.data enc1) q.leaves (readF q) := fun q hq => rowC_more (IHn q (by have := hk2 q hq; omega) (pok.2 q hq)) (by have := hk2 q hq; omega)
    rw [Pt.leaves] at hneed
    have hRK := readF_ok (.node sq ps mk) st S.inv
    have hvk : Rd D (.ref kt) (.tuple (ps.map (Pt.data enc1))) := Rd.tuple hkt hw
    cases sq
    · simp only [kindStr] at hT
      have hC := choice_ok RT0 (3 * k) ps hlen IHk
      have hAK := chF_ok ps (false, [], []) st S.inv OKs.nil OKs.nil
      rw [readF] at hret hRK
      simp only [Bool.false_eq_true, if_false] at hret hRK
      generalize hRR : chF ps (false, [], []) st = RR at hret hRK hAK
      k_with "m_call" => (refine' hC _ _ _ _ g L1 _ _ sa sd ln df t1 t2 nvs nn dfO fl [] st D (.ref kt) _ _ ?tdp ?tun hHg ?tF ⟨?tN, ?toff, S⟩ hneed ?tD hvk ?_; (case tdp => omega); (case tun => omega); (case tF => k_asm); (case tN => rw [List.append_nil]; k_asm); (case toff => exact fun _ h => by cases h); (case tD => exact fun b o h => ⟨Fr.keep (by k_asm) _ _ (hDg b o h), (hD b o h).2⟩); intro r9 nvs9 nn9 dfO9 fl9 x9 tl9 h9 tk9 hx9 hfd9 F9 H9 ne9; rw [hRR] at hfd9 H9; (have N9 := H9.N))
      k_steps
      rename Fr g _ _ _ => FT
      rename News g _ _ _ => NT
      obtain ⟨hr1, hr2, hr3, hr4⟩ := hAK
      have off9 : ∀ p ∈ tl9, p.1 ∉ autA sa sd ln df fl9 := H9.off
      refine marked_ok RT0 (fl := fl9) (fs := RR.2.fol) (K := RR.2.names.length) (D := fun b o => (b, o) ∈ tl9) (news := tl9) (f := RR.1) (by omega) (by omega) hHg FT (subN NT (by walk_at "m_perm")) H9.S.nd off9 H9.S.dict H9.S.fl H9.S.inv.2 (by rw [hr1]; exact hneed) H9.S.inv.1.symm (fun b o h => ⟨(NT (b, o) (List.mem_append_right _ h)).1, off9 (b, o) h⟩) hfd9 (hr1.symm ▸ hr3) (hr1.symm ▸ hr4) ?_
      intro r' fl' tl h' tk' hfl' had hkv hfd F' N' ne'
      have ea : autA sa sd ln df fl' = autA sa sd ln df fl9 := autA_eq had
      have htl : ∀ p ∈ tl, p.1 ∉ autA sa sd ln df fl' := fun p hp => notIn_off fun q hq => Ne.symm (ne' q hq p hp)
      obtain ⟨F2, N2, ne2, off2⟩ := backA hg F N off F' (subN N' (by walk_at "m_perm")) (had.trans hx9) (by rw [ea]; exact H9.S.nd) htl
      exact hret r' _ _ _ fl' x9 tl h' tk' (had.trans hx9) hfd F2 ⟨N2, List.forall_mem_append.mpr ⟨off2, htl⟩, ⟨by rw [ea]; exact H9.S.nd, by rw [hkv]; exact H9.S.dict, hfl', H9.S.nms, hRK.2.1⟩⟩ ne2
    · simp only [kindStr] at hT
      have hC := row_ok RT0 (3 * k) ps hlen IHk
      have hAK := rowF_ok ps (true, [], []) st S.inv OKs.nil OKs.nil
      rw [readF] at hret hRK
      simp only [if_true] at hret hRK
      generalize hRR : rowF ps (true, [], []) st = RR at hret hRK hAK
      k_with "m_call" => (refine' hC _ _ _ _ g L1 _ _ sa sd ln df t1 t2 nvs nn dfO fl [] st D (.ref kt) _ _ ?tdp ?tun hHg ?tF ⟨?tN, ?toff, S⟩ hneed ?tD hvk ?_; (case tdp => omega); (case tun => omega); (case tF => k_asm); (case tN => rw [List.append_nil]; k_asm); (case toff => exact fun _ h => by cases h); (case tD => exact fun b o h => ⟨Fr.keep (by k_asm) _ _ (hDg b o h), (hD b o h).2⟩); intro r9 nvs9 nn9 dfO9 fl9 x9 tl9 h9 tk9 hx9 hfd9 F9 H9 ne9; rw [hRR] at hfd9 H9; (have N9 := H9.N))
      k_steps
      rename Fr g _ _ _ => FT
      rename News g _ _ _ => NT
      obtain ⟨hr1, hr2, hr3, hr4⟩ := hAK
      have off9 : ∀ p ∈ tl9, p.1 ∉ autA sa sd ln df fl9 := H9.off
      refine marked_ok RT0 (fl := fl9) (fs := RR.2.fol) (K := RR.2.names.length) (D := fun b o => (b, o) ∈ tl9) (news := tl9) (f := RR.1) (by omega) (by omega) hHg FT (subN NT (by walk_at "m_perm")) H9.S.nd off9 H9.S.dict H9.S.fl H9.S.inv.2 (by rw [hr1]; exact hneed) H9.S.inv.1.symm (fun b o h => ⟨(NT (b, o) (List.mem_append_right _ h)).1, off9 (b, o) h⟩) hfd9 (hr1.symm ▸ hr3) (hr1.symm ▸ hr4) ?_
      intro r' fl' tl h' tk' hfl' had hkv hfd F' N' ne'
      have ea : autA sa sd ln df fl' = autA sa sd ln df fl9 := autA_eq had
      have htl : ∀ p ∈ tl, p.1 ∉ autA sa sd ln df fl' := fun p hp => notIn_off fun q hq => Ne.symm (ne' q hq p hp)
      obtain ⟨F2, N2, ne2, off2⟩ := backA hg F N off F' (subN N' (by walk_at "m_perm")) (had.trans hx9) (by rw [ea]; exact H9.S.nd) htl
      exact hret r' _ _ _ fl' x9 tl h' tk' (had.trans hx9) hfd F2 ⟨N2, List.forall_mem_append.mpr ⟨off2, htl⟩, ⟨by rw [ea]; exact H9.S.nd, by rw [hkv]; exact H9.S.dict, hfl', H9.S.nms, hRK.2.1⟩⟩ ne2
theorem words_init : True := by
  w_top off
  k_with_none
  k_with "m_enter" => (
      refine wpAny_call ?_;
      k_dflt (refine' enterP0 ?q0k4 ?q0k5 ?q0kH ?q0k6 ?q0k7 ?q0k8 ?q0k9 ?q0kB ?_ ?q0c2 ?q0c3 ?q0c4 ?q0c5; (case q0kH => assumption); (case q0k4 => k_asm); (case q0k5 => k_asm); (case q0k6 => k_is); (case q0k7 => k_is); (case q0k8 => (simp only [recursionLimit]; omega)); (case q0k9 => exact BindsTo.of_eq rfl); (case q0c5 => decide); (case q0kB => exact locs rfl); (case q0c2 => exact rfl); (case q0c3 => exact rfl); (case q0c4 => exact rfl); k_whole);
      rename Frag.In _ _ => xX; rename Top _ _ _ _ _ _ => xT; clear xX xT;
      intro L' h' tk' F' N' X' T'; (try dsimp only); (try k_fold))
  k_with "m_enter0" => (
      refine wpAny_call ?_;
      k_dflt (refine' enterP0 ?q1k4 ?q1k5 ?q1kH ?q1k6 ?q1k7 ?q1k8 ?q1k9 ?q1kB ?_ ?q1c2 ?q1c3 ?q1c4 ?q1c5; (case q1kH => assumption); (case q1k4 => k_asm); (case q1k5 => k_asm); (case q1k6 => k_is); (case q1k7 => k_is); (case q1k8 => (simp only [recursionLimit]; omega)); (case q1k9 => exact BindsTo.of_eq rfl); (case q1c5 => decide); (case q1kB => exact locs rfl); (case q1c2 => exact rfl); (case q1c3 => exact rfl); (case q1c4 => exact rfl); k_whole);
      rename Frag.In _ _ => xX; rename Top _ _ _ _ _ _ => xT; clear xX xT)
  k_with "m_enterC" => (
      refine wpAny_call ?_;
      k_dflt (refine' enterC0 ?q2k4 ?q2k5 ?q2kH ?q2k6 ?q2k7 ?q2k8 ?q2k9 ?q2kB ?q2kD ?_ ?q2c2 ?q2c3 ?q2c4; (case q2kH => assumption); (case q2k4 => k_asm); (case q2k5 => k_asm); (case q2k6 => k_is); (case q2k7 => k_is); (case q2k8 => (simp only [recursionLimit]; omega)); (case q2k9 => exact BindsTo.of_eq rfl); (case q2kB => exact rfl); (case q2kD => decide +kernel); (case q2c2 => exact rfl); (case q2c3 => exact rfl); (case q2c4 => exact rfl); k_whole);
      rename Frag.In _ _ => xX; rename Top _ _ _ _ _ _ => xT; clear xX xT;
      intro L' h' tk' cells' F' N' Y' X' T'; k_cells Y'; (try simp only [List.cons_append, List.nil_append] at N'); (try dsimp only); (try k_fold))
  k_with "m_enterC0" => (
      refine wpAny_call ?_;
      k_dflt (refine' enterC0 ?q3k4 ?q3k5 ?q3kH ?q3k6 ?q3k7 ?q3k8 ?q3k9 ?q3kB ?q3kD ?_ ?q3c2 ?q3c3 ?q3c4; (case q3kH => assumption); (case q3k4 => k_asm); (case q3k5 => k_asm); (case q3k6 => k_is); (case q3k7 => k_is); (case q3k8 => (simp only [recursionLimit]; omega)); (case q3k9 => exact BindsTo.of_eq rfl); (case q3kB => exact rfl); (case q3kD => decide +kernel); (case q3c2 => exact rfl); (case q3c3 => exact rfl); (case q3c4 => exact rfl); k_whole);
      rename Frag.In _ _ => xX; rename Top _ _ _ _ _ _ => xT; clear xX xT)
  k_with "call ref" => k_dflt (k_extra "m_call")
  k_with "exec Assign cons ListComp" => (k_dflt (refine' comp_assign ?q5kF (emitOne _) ?q5k0 ?q5k1 ?q5k2 ?q5k3 ?q5k4 ?q5k5 ?q5k6 ?q5k7 ?q5k8 ?_; (case q5kF => k_asm); (case q5k0 => exact rfl); (case q5k1 => (intros; rfl)); (case q5k2 => exact rfl); (case q5k3 => with_unfolding_all rfl); (case q5k4 => decide); (case q5k5 => exact rfl); (case q5k6 => decide); (case q5k7 => exact rfl); (case q5k8 => exact rfl); k_whole))
  k_with "eval ListComp" => (k_dflt (refine' comp_eval ?q6kF (emitOne _) ?q6k1 ?q6k3 ?q6k4 ?q6k5 ?q6k6 ?_; (case q6kF => k_asm); (case q6k1 => (intros; rfl)); (case q6k3 => with_unfolding_all rfl); (case q6k4 => decide); (case q6k5 => exact rfl); (case q6k6 => decide); k_whole))
  k_with "exec For Name Subscript cons nil" => (k_dflt (refine' for_rule ?q7kF ?_; (case q7kF => k_asm); k_whole))
  k_with "exec For Name Name cons nil" => (k_dflt (refine' for_rule ?q8kF ?_; (case q8kF => k_asm); k_whole))
  k_with "exec For Name IfExp cons nil" => (k_dflt (refine' for_rule ?q9kF ?_; (case q9kF => k_asm); k_whole))
  k_with "exec For Name Call cons nil" => (k_dflt (refine' for_rule ?q10kF ?_; (case q10kF => k_asm); k_whole))
  k_with "exec For Name ListComp cons nil" => (k_dflt (refine' for_rule ?q11kF ?_; (case q11kF => k_asm); k_whole))
  k_with "exec For Tuple Name cons nil" => (k_dflt (refine' for_rule ?q12kF ?_; (case q12kF => k_asm); k_whole))
  k_with "FSrc" => k_dflt (k_extra "m_fsrc")
  k_with "FRest" => k_dflt (k_extra "m_frest")
  k_with "FEnd" => k_dflt (k_extra "m_fend")
  k_with "CSrc" => k_dflt (k_extra "m_src")
  k_with "CRest" => k_dflt (k_extra "m_rest")
  k_with "CEnd" => k_dflt (k_extra "m_cend")
  k_with "FinA" => (unfold FinA; intro h9 tk9 F9 N9 ne9; (try rw [lst_eq] at N9))
  k_with "FinE" => (unfold FinE; intro h9 tk9 F9 N9 ne9; (try rw [lst_eq] at N9))
  k_with "execs cons Assign cons" => refine wpAny_execs_cons ?_
  k_with "execs cons Assign nil" => refine wpAny_execs_cons ?_
  k_with "execs cons If cons" => refine wpAny_execs_cons ?_
  k_with "execs cons If nil" => refine wpAny_execs_cons ?_
  k_with "execs cons For cons" => refine wpAny_execs_cons ?_
  k_with "execs cons For nil" => refine wpAny_execs_cons ?_
  k_with "execs cons Return cons" => refine wpAny_execs_cons ?_
  k_with "execs cons Return nil" => refine wpAny_execs_cons ?_
  k_with "execs cons Expr cons" => refine wpAny_execs_cons ?_
  k_with "execs cons Expr nil" => refine wpAny_execs_cons ?_
  k_with "ite" => first | (rw [if_neg (by decide +kernel)]) | (rw [if_pos (by decide +kernel)])
  k_with "subscriptTail Name Constant ref int" => (k_dflt (refine' item_tupleT ?q32k1 ?q32k2 ?q32k3 ?q32k4 ?q32k5 ?_; (case q32k1 => exact Fr.tup (by k_asm) (by assumption)); (case q32k2 => decide); (case q32k3 => decide); (case q32k4 => rfl); (case q32k5 => rfl); k_whole))
  k_with "eval Name" => (k_dflt (refine' nameX_L ?q33k1 ?q33k2 ?_; (case q33k1 => k_asm); (case q33k2 => first | exact rfl | assumption); k_whole))
  k_with "binaryOp Add ref ref" => (k_dflt (refine' my_add ?q34F ?q34N ?q34a ?q34b ?q34z ?_; (case q34F => k_asm); (case q34N => k_asm); (case q34a => k_mem); (case q34b => k_mem); (case q34z => (rw [sizeLine_eq]; (try simp only [List.length_append, List.length_nil, List.length_cons]); omega)); k_whole; intro r9 h9 F9 N9 l9; (try k_lt l9)))
  k_with "subscriptTail Subscript" => (k_dflt (refine kba_turn (value' := PySem.Expr.Name (PySem.Str.ofString "_") ⟨0, 0, 0, 0⟩) (fun _ => rfl) ?_))
  k_with "subscriptTail Name Slice ref ref" => (k_dflt (refine' slice_tuple ?q36F ?q36N ?q36t ?q36pa ?q36pb ?q36pc ?q36h0 ?q36hno ?q36hz ?q36hsz ?_ ?q36hs ?q36hg; (case q36F => k_asm); (case q36N => k_asm); (case q36t => exact Fr.tup (by k_asm) (by assumption)); (case q36pa => first | exact IsPart.none | exact IsPart.int _ _); (case q36pb => first | exact IsPart.none | exact IsPart.int _ _); (case q36pc => first | exact IsPart.none | exact IsPart.int _ _); (case q36h0 => rfl); (case q36hno => rfl); (case q36hz => with_unfolding_all first | exact (rfl : _ = []) | exact (rfl : _ = [_]) | exact (rfl : _ = [_, _]) | exact (rfl : _ = [_, _, _])); (case q36hsz => (rw [sizeLine_eq]; exact Nat.le_of_ble_eq_true rfl)); (case q36hs => with_unfolding_all rfl); (case q36hg => (intro _; with_unfolding_all rfl)); k_whole; intro r9 h9 F9 N9 l9; (try k_lt l9)))
  k_with "m_sub" => (intro q9 h9; simp only [List.mem_cons, List.mem_append, h9, true_or, or_true])
  k_with "m_rdsub" => (intro b o h; first | exact h | exact Or.inl h | (refine Or.elim h Or.inl (fun h => Or.inr ?_); simp only [List.mem_cons, List.mem_append, h, true_or, or_true]))
  k_with "m_rd" => first
      | exact Rd.int _ _ | exact Rd.str _ _ | exact Rd.bool _ | assumption
      | (refine' Rd.mono ?q39hs ?q39hv; (case q39hv => assumption); (case q39hs => walk_at "m_rdsub"))
      | (refine Rd.tuple (Or.inr (by k_mem)) ?_; walk_at "m_rds")
  k_with "m_rds" => first
      | exact RdAll.nil
      | ((refine RdAll.cons ?_ ?_); (walk_at "m_rd"); (walk_at "m_rds"))
  k_with "call builtin:len" => (k_dflt (refine' len_tupK ?q41k1 ?q41k2 ?q41k3 ?_; (case q41k1 => exact Fr.tup (by k_asm) (by assumption)); (case q41k2 => assumption); (case q41k3 => omega); k_whole))
  k_with "call type:range" => (k_dflt (first | (refine' range1_rows ?q42k1 ?q42k2 ?_; (case q42k1 => k_asm); (case q42k2 => k_asm); k_whole; intro h9 tk9 t9 u9 v9 hr9 F9 N9 hk9) | (refine' range2_rows ?q42k1 ?q42k2 ?_; (case q42k1 => k_asm); (case q42k2 => k_asm); k_whole; intro h9 tk9 t9 u9 v9 hr9 F9 N9 hk9)))
  k_with "subscriptTail Name Name ref int" => (k_dflt (refine' item_sym ?q43k1 ?q43k2 ?q43k3 ?q43k4 ?_; (case q43k1 => exact Fr.tup (by k_asm) (by assumption)); (case q43k4 => assumption); (case q43k2 => omega); (case q43k3 => omega); k_whole))
  k_with "compareOp Eq ref ref" => (k_dflt (refine' list_eq_nil ?y1N ?y1a ?y1b ?y1u ?_; (case y1N => k_asm); (case y1a => k_mem); (case y1b => k_mem); (case y1u => (show _ < 9900; (try dsimp only); omega)); k_whole))
  k_with "m_enterD" => (
      k_dflt (refine' enterC1 ?z3k4 ?z3k5 ?z3kH ?z3k6 ?z3k7 ?z3k8 ?z3k9 ?z3kB ?z3kD ?_ ?z3c2 ?z3c3 ?z3c4; (case z3kH => assumption); (case z3k4 => k_asm); (case z3k5 => k_asm); (case z3k6 => k_is); (case z3k7 => k_is); (case z3k8 => (simp only [recursionLimit]; omega)); (case z3k9 => exact BindsTo.of_eq rfl); (case z3kB => exact rfl); (case z3kD => decide +kernel); (case z3c2 => exact rfl); (case z3c3 => exact rfl); (case z3c4 => exact rfl); k_whole);
      rename Frag.In _ _ => xX; rename Top _ _ _ _ _ _ => xT; clear xX xT)
  k_with "m_enterB" => (
      k_dflt (refine' enterP1 ?z4k4 ?z4k5 ?z4kH ?z4k6 ?z4k7 ?z4k8 ?z4k9 ?z4kB ?_ ?z4c2 ?z4c3 ?z4c4 ?z4c5; (case z4kH => assumption); (case z4k4 => k_asm); (case z4k5 => k_asm); (case z4k6 => k_is); (case z4k7 => k_is); (case z4k8 => (simp only [recursionLimit]; omega)); (case z4k9 => exact BindsTo.of_eq rfl); (case z4c5 => decide); (case z4kB => exact locs rfl); (case z4c2 => exact rfl); (case z4c3 => exact rfl); (case z4c4 => exact rfl); k_whole);
      rename Frag.In _ _ => xX; rename Top _ _ _ _ _ _ => xT; clear xX xT)
  k_with "m_enterG" => (
      k_dflt (refine' enterG ?z5k4 ?z5k5 ?z5kH ?z5F ?z5N ?z5k6 ?z5k7 ?z5k8 ?z5k9 ?z5kB ?_ ?z5c2 ?z5c3 ?z5c4 ?z5c5; (case z5kH => assumption); (case z5F => assumption); (case z5N => assumption); (case z5k4 => k_asm); (case z5k5 => k_asm); (case z5k6 => k_is); (case z5k7 => k_is); (case z5k8 => (simp only [recursionLimit]; omega)); (case z5k9 => exact BindsTo.of_eq rfl); (case z5c5 => decide); (case z5kB => exact locs rfl); (case z5c2 => exact rfl); (case z5c3 => exact rfl); (case z5c4 => exact rfl); k_whole))
  k_with "m_enterGC" => (
      k_dflt (refine' enterGC ?z6k4 ?z6k5 ?z6kH ?z6F ?z6N ?z6k6 ?z6k7 ?z6k8 ?z6k9 ?z6kB ?z6kD ?_ ?z6c2 ?z6c3 ?z6c4; (case z6kH => assumption); (case z6F => assumption); (case z6N => assumption); (case z6k4 => k_asm); (case z6k5 => k_asm); (case z6k6 => k_is); (case z6k7 => k_is); (case z6k8 => (simp only [recursionLimit]; omega)); (case z6k9 => exact BindsTo.of_eq rfl); (case z6kB => exact rfl); (case z6kD => decide +kernel); (case z6c2 => exact rfl); (case z6c3 => exact rfl); (case z6c4 => exact rfl); k_whole))
  k_with "m_enterE" => (
      k_dflt (refine' enterE ?z8k4 ?z8k5 ?z8kH ?z8F ?z8N ?z8k6 ?z8k7 ?z8k8 ?z8k9 ?z8kB ?_ ?z8c2 ?z8c3 ?z8c4 ?z8c5; (case z8kH => assumption); (case z8F => assumption); (case z8N => assumption); (case z8k4 => k_asm); (case z8k5 => k_asm); (case z8k6 => k_is); (case z8k7 => k_is); (case z8k8 => (simp only [recursionLimit]; omega)); (case z8k9 => exact BindsTo.of_eq rfl); (case z8c5 => decide); (case z8kB => exact locs rfl); (case z8c2 => exact rfl); (case z8c3 => exact rfl); (case z8c4 => exact rfl); k_whole))
  k_with "m_enterEC" => (
      k_dflt (refine' enterEC ?z9k4 ?z9k5 ?z9kH ?z9F ?z9N ?z9k6 ?z9k7 ?z9k8 ?z9k9 ?z9kB ?z9kD ?_ ?z9c2 ?z9c3 ?z9c4; (case z9kH => assumption); (case z9F => assumption); (case z9N => assumption); (case z9k4 => k_asm); (case z9k5 => k_asm); (case z9k6 => k_is); (case z9k7 => k_is); (case z9k8 => (simp only [recursionLimit]; omega)); (case z9k9 => exact BindsTo.of_eq rfl); (case z9kB => exact rfl); (case z9kD => decide +kernel); (case z9c2 => exact rfl); (case z9c3 => exact rfl); (case z9c4 => exact rfl); k_whole))
  k_with "m_in" => first
    | with_reducible apply in_hd
    | (with_reducible apply in_l; walk_at "m_in")
    | (with_reducible apply in_r; walk_at "m_in")
    | (with_reducible apply in_tl; walk_at "m_in")
    | apply in_hd
    | assumption
  k_with "m_sub3" => first
    | with_reducible apply sub_id
    | (with_reducible apply sub_l; walk_at "m_sub3")
    | (with_reducible apply sub_r; walk_at "m_sub3")
    | (with_reducible apply sub_tl; walk_at "m_sub3")
  k_with "m_perm2" => ((repeat' (first | with_reducible apply sub_nil | with_reducible apply sub_app | with_reducible apply sub_cons)); all_goals (first | walk_at "m_in" | walk_at "m_sub3"))
  k_with "m_perm" => (intro p hp; simp only [List.cons_append, List.nil_append, List.append_assoc, List.append_nil, List.mem_cons, List.mem_append, List.not_mem_nil, or_false, or_assoc] at hp ⊢; (repeat' (first | (cases hp with | inl hp => ?_ | inr hp => ?_) | fail)); all_goals (repeat (first | apply hp | apply Or.inl hp | apply Or.inr)))
  k_with "m_notin" => first | exact notIn_of2 (by assumption) | (refine notIn_of ?_ ?_ ?_ ?_ ?_ <;> first | omega | assumption)
  k_with "m_off" => (refine Ap.all ?_; simp only [Ap, and_true]; omega)
  k_with "m_front" => first
    | assumption
    | exact rot2 (by assumption)
    | exact rot3 (by assumption)
    | exact rot4 (by assumption)
    | exact rot5 (by assumption)
    | exact rot6 (by assumption)
    | exact rot7 (by assumption)
    | exact rot8 (by assumption)
    | exact rot9 (by assumption)
  k_with "call builtin:list.append" => (k_dflt (refine' append_L ?zaF ?zaN ?zao ?zaz ?_; (case zaF => k_asm); (case zaN => walk_at "m_front"); (case zao => first | k_all | walk_at "m_off"); (case zaz => omega); k_whole; intro h9 F9 N9))
  k_with "compareOp NotIn int ref" => (k_dflt (refine' notin_L ?zbN ?zbm ?zbI ?_; (case zbN => k_asm); (case zbm => k_mem); (case zbI => assumption); k_whole))
  k_with "call builtin:len" => (k_dflt (refine' len_listK ?z7N ?z7l ?z7z ?_; (case z7N => k_asm); (case z7l => k_mem); (case z7z => omega); k_whole))
  trivial
theorem init_ok {w : World} {mean : ExcName → Option Value} {mg mb : Str → Option Value} {H : Heap} (RT : Root w mean mg mb H) {dp un : Nat} {fr : Option (List Env)} {gd : Option (List Code)} (hdp : dp + 400 < 900) (hun : un + 6000 < 9000)
    {h₀ : Heap} {L : Addr} {m : Str → Option Value} {s : Shared} {sa sd : Addr} {v : Value} {news : List (Addr × Obj)} {D : Addr → Obj → Prop} {p : Pt Nm} (hH : H.StaysIn h₀) (F : Fr h₀ L s.heap m) (N : News h₀ L s.heap ([(sa, instObj 129 sd), (sd, emptyDict)] ++ news)) (hoff : ∀ p ∈ news, p.1 ∉ adrs [(sa, instObj 129 sd), (sd, emptyDict)])
    (hlt : @Ne Nat sa sd) (hD : ∀ b o, D b o → s.heap.get? b = some o ∧ b ∉ adrs [(sa, instObj 129 sd), (sd, emptyDict)]) (hv : Rd D v (p.data enc1)) (pok : p.ok) (ph : p.height ≤ 3) (pl : p.leaves ≤ 9) {R : Result → Shared → Prop}
    (hret : ∀ ln df t1 t2 t3 t4 t5 b a1 a2 nvs nn dfO v1 n1 fl h' tk', AutS w sa sd ln df nvs dfO fl (readF p ⟨[], []⟩).2 → IntsAre v1 (readF p ⟨[], []⟩).1.2.1 → Fr h₀ L h' m → News h₀ L h' (Aut5 w sa sd ln df t1 t2 t3 t4 t5 b a1 a2 nvs nn dfO v1 n1 fl ++ news) → (∀ q ∈ news, q.1 ∉ adrs (Aut5 w sa sd ln df t1 t2 t3 t4 t5 b a1 a2 nvs nn dfO v1 n1 fl)) → R (.ok (.ret .none)) { s with heap := h', toks := tk' }) :
    codeAny (model PySem.Challenge.rw_nu0043_01.row.prog w) (AA dp fr gd un) (.call (.ref 42) ⟨[.ref sa, v], []⟩) R s := by
  have RT0 := RT
  obtain ⟨X, T⟩ := RT
  have N0 : News h₀ L s.heap [(sa, instObj 129 sd), (sd, emptyDict)] := fun p hp => N p (List.mem_append_left _ hp)
  (k_dflt (refine' enterEc ?z8k4 ?z8k5 ?z8kH ?z8F ?z8N ?z8k6 ?z8k7 ?z8k8 ?z8k9 ?z8kB ?_ ?z8c2 ?z8c3 ?z8c4 ?z8c5; (case z8kH => assumption); (case z8F => assumption); (case z8N => assumption); (case z8k4 => k_asm); (case z8k5 => k_asm); (case z8k6 => k_is); (case z8k7 => k_is); (case z8k8 => (simp only [recursionLimit]; omega)); (case z8k9 => exact BindsTo.of_eq rfl); (case z8c5 => decide); (case z8kB => exact locs rfl); (case z8c2 => exact rfl); (case z8c3 => exact rfl); (case z8c4 => exact rfl); k_whole))
  intro L1 h1 tk1 g fr1 gd1 hg hHg F1 N1 hlt1 X1 T1
  clear X T
  have hDg : ∀ b o, D b o → g.get? b = some o := fun b o h => by rw [hg]; exact (er_other s.heap (hD b o h).2).trans (hD b o h).1
  k_steps
  rename_i ln hz1 l1 hz2 df hz3 dfo lo hs fs hi fi l2 hz4 FT NT
  obtain ⟨t1, t2, NM⟩ : ∃ t1 t2, News g L1 hz4 (AutL w sa sd ln df t1 t2 [] 0 dfo [] ++ []) := ⟨_, _, subN NT (by walk_at "m_perm")⟩
  have hnd : (autA sa sd ln df []).Nodup := by
    have e1 : ln ≠ df := Nat.ne_of_lt l2.1
    have e2 : sa ≠ ln := Nat.ne_of_lt l1.1
    have e3 : sd ≠ ln := Nat.ne_of_lt l1.2
    have e4 : sa ≠ df := Nat.ne_of_lt l2.2.1
    have e5 : sd ≠ df := Nat.ne_of_lt l2.2.2
    have e6 : sa ≠ sd := hlt
    simp [autA, adrs, e1, e2, e3, e4, e5, e6]
  have hDA : ∀ b o, D b o → hz4.get? b = some o ∧ b ∉ autA sa sd ln df [] := fun b o h => ⟨FT.keep _ _ (hDg b o h), notGround NM (hDg b o h)⟩
  refine read_ok RT0 4 p (by omega) pok _ _ _ _ g L1 _ _ sa sd ln df t1 t2 [] 0 dfo [] [] ⟨[], []⟩ D v _ _ (by omega) (by omega) hHg FT ⟨NM, fun _ h => (by cases h), ⟨hnd, hi, .nil, .nil, ⟨rfl, fun _ h => by cases h⟩⟩⟩ (by show 0 + p.leaves ≤ 9; omega) hDA hv ?_
  clear NT NM FT
  intro r nvs' nn' dfO' fl' x tl h' tk' hx hfd F9 H9 ne9
  generalize hrd : readF p ⟨[], []⟩ = rd at hfd H9
  obtain ⟨rt, a1, a2, v1, v2, n1, n2, nt, rfl, hr1, hr2, hr3, hi1, hi2, h12⟩ := hfd
  have hT9 : IsTup h' rt #[.bool rd.1.1, .ref a1, .ref a2] := ⟨_, (H9.N _ (List.mem_append_right _ hr1)).1, rfl, _, rfl⟩
  have hnd9 := H9.S.nd
  simp only [autA, List.nodup_cons, List.mem_cons, not_or] at hnd9
  obtain ⟨⟨e12, e13, e14, e1f⟩, ⟨e23, e24, e2f⟩, -⟩ := hnd9
  have hq2 := H9.off _ hr2
  have hq3 := H9.off _ hr3
  simp only [autA, List.mem_cons, not_or] at hq2 hq3
  obtain ⟨REST, hRE, NR, oR⟩ : ∃ REST, REST = (ln, lstO nvs' nn') :: (df, dfO') :: (a1, lstO v1 n1) :: (a2, lstO v2 n2) :: fl' ∧ News g L1 h' ((sa, instObj 129 sd) :: (sd, sdO w t1 t2 ln df) :: REST) ∧ (∀ p ∈ REST, p.1 ≠ sa ∧ p.1 ≠ sd) := by
    refine ⟨_, rfl, subN H9.N fun p hp => ?_, ?_⟩
    · simp only [List.mem_append, List.mem_cons] at hp ⊢
      rcases hp with h | h | h | h | h | h | h
      · exact .inl (.inl h)
      · exact .inl (.inr (.inl h))
      · exact .inl (.inr (.inr (.inl h)))
      · exact .inl (.inr (.inr (.inr (.inl h))))
      · exact .inr (h ▸ .inr hr2)
      · exact .inr (h ▸ .inr hr3)
      · exact .inl (.inr (.inr (.inr (.inr h))))
    · simp only [List.forall_mem_cons]
      refine ⟨⟨Ne.symm e13, Ne.symm e23⟩, ⟨Ne.symm e14, Ne.symm e24⟩, ⟨hq2.1, hq2.2.1⟩, ⟨hq3.1, hq3.2.1⟩, fun p hp => ⟨fun e => e1f (e ▸ List.mem_map.mpr ⟨p, hp, rfl⟩), fun e => e2f (e ▸ List.mem_map.mpr ⟨p, hp, rfl⟩)⟩⟩
  have oR1 : ∀ p ∈ REST, p.1 ≠ sa := fun p hp => (oR p hp).1
  have oR2 : ∀ p ∈ REST, p.1 ≠ sd := fun p hp => (oR p hp).2
  have S9 := H9.S
  clear H9 ne9
  k_steps
  rename Fr g _ _ _ => FT
  rename News g _ _ _ => NT
  obtain ⟨u1, u2, u3, u4, u5, NT'⟩ : ∃ u1 u2 u3 u4 u5, News g L1 _ ([(sa, instObj 129 sd), (sd, sd5 w u1 u2 u3 u4 u5 ln df rd.1.1 a1 a2)] ++ REST) := ⟨_, _, _, _, _, NT⟩
  obtain ⟨F2, N2, ne2, -⟩ := backE (ps := [(sa, instObj 129 sd), (sd, emptyDict)]) (ps' := [(sa, instObj 129 sd), (sd, sd5 w u1 u2 u3 u4 u5 ln df rd.1.1 a1 a2)]) hg F N hoff FT NT' rfl (fun q hq hm => by
    simp only [adrs, List.map_cons, List.map_nil, List.mem_cons, List.not_mem_nil, or_false] at hm
    rcases hm with h | h
    · exact oR1 q hq h
    · exact oR2 q hq h)
  subst hrd
  have hoff2 : ∀ q ∈ news, q.1 ∉ adrs (Aut5 w sa sd ln df u1 u2 u3 u4 u5 (readF p ⟨[], []⟩).1.1 a1 a2 nvs' nn' dfO' v1 n1 fl') := by
    intro q hq hm
    have h1 := hoff q hq
    have h2 : ∀ r ∈ REST, r.1 ≠ q.1 := ne2 q (List.mem_append_right _ hq)
    rw [hRE] at h2
    simp only [adrs, List.map_cons, List.map_nil, List.mem_cons, List.not_mem_nil, or_false, not_or] at h1 hm
    simp only [List.forall_mem_cons] at h2
    obtain ⟨k1, k2, k3, k4, k5⟩ := h2
    rcases hm with h | h | h | h | h | h
    · exact h1.1 h
    · exact h1.2 h
    · exact k1 h.symm
    · exact k2 h.symm
    · exact k3 h.symm
    · obtain ⟨r, hr, e⟩ := List.mem_map.mp h
      exact k5 r hr e
  refine hret ln df u1 u2 u3 u4 u5 (readF p ⟨[], []⟩).1.1 a1 a2 nvs' nn' dfO' v1 n1 fl' _ _ S9 hi1 F2 (subN N2 fun q hq => ?_) hoff2
  rw [hRE]
  simp only [List.cons_append, List.nil_append, List.mem_append, List.mem_cons] at hq ⊢
  rcases hq with h | h | h | h | h | h | h
  · exact .inl h
  · exact .inr (.inl h)
  · exact .inr (.inr (.inr (.inl h)))
  · exact .inr (.inr (.inr (.inr (.inl h))))
  · exact .inr (.inr (.inr (.inr (.inr (.inl h)))))
  · exact .inr (.inr (.inr (.inr (.inr (.inr (.inr h))))))
  · exact .inr (.inr (.inl h))
theorem words_nameat : True := by
  w_top off
  k_with_none
  k_with "m_enter" => (
      refine wpAny_call ?_;
      k_dflt (refine' enterP0 ?q0k4 ?q0k5 ?q0kH ?q0k6 ?q0k7 ?q0k8 ?q0k9 ?q0kB ?_ ?q0c2 ?q0c3 ?q0c4 ?q0c5; (case q0kH => assumption); (case q0k4 => k_asm); (case q0k5 => k_asm); (case q0k6 => k_is); (case q0k7 => k_is); (case q0k8 => (simp only [recursionLimit]; omega)); (case q0k9 => exact BindsTo.of_eq rfl); (case q0c5 => decide); (case q0kB => exact locs rfl); (case q0c2 => exact rfl); (case q0c3 => exact rfl); (case q0c4 => exact rfl); k_whole);
      rename Frag.In _ _ => xX; rename Top _ _ _ _ _ _ => xT; clear xX xT;
      intro L' h' tk' F' N' X' T'; (try dsimp only); (try k_fold))
  k_with "m_enter0" => (
      refine wpAny_call ?_;
      k_dflt (refine' enterP0 ?q1k4 ?q1k5 ?q1kH ?q1k6 ?q1k7 ?q1k8 ?q1k9 ?q1kB ?_ ?q1c2 ?q1c3 ?q1c4 ?q1c5; (case q1kH => assumption); (case q1k4 => k_asm); (case q1k5 => k_asm); (case q1k6 => k_is); (case q1k7 => k_is); (case q1k8 => (simp only [recursionLimit]; omega)); (case q1k9 => exact BindsTo.of_eq rfl); (case q1c5 => decide); (case q1kB => exact locs rfl); (case q1c2 => exact rfl); (case q1c3 => exact rfl); (case q1c4 => exact rfl); k_whole);
      rename Frag.In _ _ => xX; rename Top _ _ _ _ _ _ => xT; clear xX xT)
  k_with "m_enterC" => (
      refine wpAny_call ?_;
      k_dflt (refine' enterC0 ?q2k4 ?q2k5 ?q2kH ?q2k6 ?q2k7 ?q2k8 ?q2k9 ?q2kB ?q2kD ?_ ?q2c2 ?q2c3 ?q2c4; (case q2kH => assumption); (case q2k4 => k_asm); (case q2k5 => k_asm); (case q2k6 => k_is); (case q2k7 => k_is); (case q2k8 => (simp only [recursionLimit]; omega)); (case q2k9 => exact BindsTo.of_eq rfl); (case q2kB => exact rfl); (case q2kD => decide +kernel); (case q2c2 => exact rfl); (case q2c3 => exact rfl); (case q2c4 => exact rfl); k_whole);
      rename Frag.In _ _ => xX; rename Top _ _ _ _ _ _ => xT; clear xX xT;
      intro L' h' tk' cells' F' N' Y' X' T'; k_cells Y'; (try simp only [List.cons_append, List.nil_append] at N'); (try dsimp only); (try k_fold))
  k_with "m_enterC0" => (
      refine wpAny_call ?_;
      k_dflt (refine' enterC0 ?q3k4 ?q3k5 ?q3kH ?q3k6 ?q3k7 ?q3k8 ?q3k9 ?q3kB ?q3kD ?_ ?q3c2 ?q3c3 ?q3c4; (case q3kH => assumption); (case q3k4 => k_asm); (case q3k5 => k_asm); (case q3k6 => k_is); (case q3k7 => k_is); (case q3k8 => (simp only [recursionLimit]; omega)); (case q3k9 => exact BindsTo.of_eq rfl); (case q3kB => exact rfl); (case q3kD => decide +kernel); (case q3c2 => exact rfl); (case q3c3 => exact rfl); (case q3c4 => exact rfl); k_whole);
      rename Frag.In _ _ => xX; rename Top _ _ _ _ _ _ => xT; clear xX xT)
  k_with "call ref" => k_dflt (k_extra "m_call")
  k_with "exec Assign cons ListComp" => (k_dflt (refine' comp_assign ?q5kF (emitOne _) ?q5k0 ?q5k1 ?q5k2 ?q5k3 ?q5k4 ?q5k5 ?q5k6 ?q5k7 ?q5k8 ?_; (case q5kF => k_asm); (case q5k0 => exact rfl); (case q5k1 => (intros; rfl)); (case q5k2 => exact rfl); (case q5k3 => with_unfolding_all rfl); (case q5k4 => decide); (case q5k5 => exact rfl); (case q5k6 => decide); (case q5k7 => exact rfl); (case q5k8 => exact rfl); k_whole))
  k_with "eval ListComp" => (k_dflt (refine' comp_eval ?q6kF (emitOne _) ?q6k1 ?q6k3 ?q6k4 ?q6k5 ?q6k6 ?_; (case q6kF => k_asm); (case q6k1 => (intros; rfl)); (case q6k3 => with_unfolding_all rfl); (case q6k4 => decide); (case q6k5 => exact rfl); (case q6k6 => decide); k_whole))
  k_with "exec For Name Subscript cons nil" => (k_dflt (refine' for_rule ?q7kF ?_; (case q7kF => k_asm); k_whole))
  k_with "exec For Name Name cons nil" => (k_dflt (refine' for_rule ?q8kF ?_; (case q8kF => k_asm); k_whole))
  k_with "exec For Name IfExp cons nil" => (k_dflt (refine' for_rule ?q9kF ?_; (case q9kF => k_asm); k_whole))
  k_with "exec For Name Call cons nil" => (k_dflt (refine' for_rule ?q10kF ?_; (case q10kF => k_asm); k_whole))
  k_with "exec For Name ListComp cons nil" => (k_dflt (refine' for_rule ?q11kF ?_; (case q11kF => k_asm); k_whole))
  k_with "exec For Tuple Name cons nil" => (k_dflt (refine' for_rule ?q12kF ?_; (case q12kF => k_asm); k_whole))
  k_with "FSrc" => k_dflt (k_extra "m_fsrc")
  k_with "FRest" => k_dflt (k_extra "m_frest")
  k_with "FEnd" => k_dflt (k_extra "m_fend")
  k_with "CSrc" => k_dflt (k_extra "m_src")
  k_with "CRest" => k_dflt (k_extra "m_rest")
  k_with "CEnd" => k_dflt (k_extra "m_cend")
  k_with "FinA" => (unfold FinA; intro h9 tk9 F9 N9 ne9; (try rw [lst_eq] at N9))
  k_with "FinE" => (unfold FinE; intro h9 tk9 F9 N9 ne9; (try rw [lst_eq] at N9))
  k_with "execs cons Assign cons" => refine wpAny_execs_cons ?_
  k_with "execs cons Assign nil" => refine wpAny_execs_cons ?_
  k_with "execs cons If cons" => refine wpAny_execs_cons ?_
  k_with "execs cons If nil" => refine wpAny_execs_cons ?_
  k_with "execs cons For cons" => refine wpAny_execs_cons ?_
  k_with "execs cons For nil" => refine wpAny_execs_cons ?_
  k_with "execs cons Return cons" => refine wpAny_execs_cons ?_
  k_with "execs cons Return nil" => refine wpAny_execs_cons ?_
  k_with "execs cons Expr cons" => refine wpAny_execs_cons ?_
  k_with "execs cons Expr nil" => refine wpAny_execs_cons ?_
  k_with "ite" => first | (rw [if_neg (by decide +kernel)]) | (rw [if_pos (by decide +kernel)])
  k_with "subscriptTail Name Constant ref int" => (k_dflt (refine' item_tupleT ?q32k1 ?q32k2 ?q32k3 ?q32k4 ?q32k5 ?_; (case q32k1 => exact Fr.tup (by k_asm) (by assumption)); (case q32k2 => decide); (case q32k3 => decide); (case q32k4 => rfl); (case q32k5 => rfl); k_whole))
  k_with "eval Name" => (k_dflt (refine' nameX_L ?q33k1 ?q33k2 ?_; (case q33k1 => k_asm); (case q33k2 => first | exact rfl | assumption); k_whole))
  k_with "binaryOp Add ref ref" => (k_dflt (refine' my_add ?q34F ?q34N ?q34a ?q34b ?q34z ?_; (case q34F => k_asm); (case q34N => k_asm); (case q34a => k_mem); (case q34b => k_mem); (case q34z => (rw [sizeLine_eq]; (try simp only [List.length_append, List.length_nil, List.length_cons]); omega)); k_whole; intro r9 h9 F9 N9 l9; (try k_lt l9)))
  k_with "subscriptTail Subscript" => (k_dflt (refine kba_turn (value' := PySem.Expr.Name (PySem.Str.ofString "_") ⟨0, 0, 0, 0⟩) (fun _ => rfl) ?_))
  k_with "subscriptTail Name Slice ref ref" => (k_dflt (refine' slice_tuple ?q36F ?q36N ?q36t ?q36pa ?q36pb ?q36pc ?q36h0 ?q36hno ?q36hz ?q36hsz ?_ ?q36hs ?q36hg; (case q36F => k_asm); (case q36N => k_asm); (case q36t => exact Fr.tup (by k_asm) (by assumption)); (case q36pa => first | exact IsPart.none | exact IsPart.int _ _); (case q36pb => first | exact IsPart.none | exact IsPart.int _ _); (case q36pc => first | exact IsPart.none | exact IsPart.int _ _); (case q36h0 => rfl); (case q36hno => rfl); (case q36hz => with_unfolding_all first | exact (rfl : _ = []) | exact (rfl : _ = [_]) | exact (rfl : _ = [_, _]) | exact (rfl : _ = [_, _, _])); (case q36hsz => (rw [sizeLine_eq]; exact Nat.le_of_ble_eq_true rfl)); (case q36hs => with_unfolding_all rfl); (case q36hg => (intro _; with_unfolding_all rfl)); k_whole; intro r9 h9 F9 N9 l9; (try k_lt l9)))
  k_with "m_sub" => (intro q9 h9; simp only [List.mem_cons, List.mem_append, h9, true_or, or_true])
  k_with "m_rdsub" => (intro b o h; first | exact h | exact Or.inl h | (refine Or.elim h Or.inl (fun h => Or.inr ?_); simp only [List.mem_cons, List.mem_append, h, true_or, or_true]))
  k_with "m_rd" => first
      | exact Rd.int _ _ | exact Rd.str _ _ | exact Rd.bool _ | assumption
      | (refine' Rd.mono ?q39hs ?q39hv; (case q39hv => assumption); (case q39hs => walk_at "m_rdsub"))
      | (refine Rd.tuple (Or.inr (by k_mem)) ?_; walk_at "m_rds")
  k_with "m_rds" => first
      | exact RdAll.nil
      | ((refine RdAll.cons ?_ ?_); (walk_at "m_rd"); (walk_at "m_rds"))
  k_with "call builtin:len" => (k_dflt (refine' len_tupK ?q41k1 ?q41k2 ?q41k3 ?_; (case q41k1 => exact Fr.tup (by k_asm) (by assumption)); (case q41k2 => assumption); (case q41k3 => omega); k_whole))
  k_with "call type:range" => (k_dflt (first | (refine' range1_rows ?q42k1 ?q42k2 ?_; (case q42k1 => k_asm); (case q42k2 => k_asm); k_whole; intro h9 tk9 t9 u9 v9 hr9 F9 N9 hk9) | (refine' range2_rows ?q42k1 ?q42k2 ?_; (case q42k1 => k_asm); (case q42k2 => k_asm); k_whole; intro h9 tk9 t9 u9 v9 hr9 F9 N9 hk9)))
  k_with "subscriptTail Name Name ref int" => (k_dflt (refine' item_sym ?q43k1 ?q43k2 ?q43k3 ?q43k4 ?_; (case q43k1 => exact Fr.tup (by k_asm) (by assumption)); (case q43k4 => assumption); (case q43k2 => omega); (case q43k3 => omega); k_whole))
  k_with "compareOp Eq ref ref" => (k_dflt (refine' list_eq_nil ?y1N ?y1a ?y1b ?y1u ?_; (case y1N => k_asm); (case y1a => k_mem); (case y1b => k_mem); (case y1u => (show _ < 9900; (try dsimp only); omega)); k_whole))
  k_with "m_enterD" => (
      k_dflt (refine' enterC1 ?z3k4 ?z3k5 ?z3kH ?z3k6 ?z3k7 ?z3k8 ?z3k9 ?z3kB ?z3kD ?_ ?z3c2 ?z3c3 ?z3c4; (case z3kH => assumption); (case z3k4 => k_asm); (case z3k5 => k_asm); (case z3k6 => k_is); (case z3k7 => k_is); (case z3k8 => (simp only [recursionLimit]; omega)); (case z3k9 => exact BindsTo.of_eq rfl); (case z3kB => exact rfl); (case z3kD => decide +kernel); (case z3c2 => exact rfl); (case z3c3 => exact rfl); (case z3c4 => exact rfl); k_whole);
      rename Frag.In _ _ => xX; rename Top _ _ _ _ _ _ => xT; clear xX xT)
  k_with "m_enterB" => (
      k_dflt (refine' enterP1 ?z4k4 ?z4k5 ?z4kH ?z4k6 ?z4k7 ?z4k8 ?z4k9 ?z4kB ?_ ?z4c2 ?z4c3 ?z4c4 ?z4c5; (case z4kH => assumption); (case z4k4 => k_asm); (case z4k5 => k_asm); (case z4k6 => k_is); (case z4k7 => k_is); (case z4k8 => (simp only [recursionLimit]; omega)); (case z4k9 => exact BindsTo.of_eq rfl); (case z4c5 => decide); (case z4kB => exact locs rfl); (case z4c2 => exact rfl); (case z4c3 => exact rfl); (case z4c4 => exact rfl); k_whole);
      rename Frag.In _ _ => xX; rename Top _ _ _ _ _ _ => xT; clear xX xT)
  k_with "m_enterG" => (
      k_dflt (refine' enterG ?z5k4 ?z5k5 ?z5kH ?z5F ?z5N ?z5k6 ?z5k7 ?z5k8 ?z5k9 ?z5kB ?_ ?z5c2 ?z5c3 ?z5c4 ?z5c5; (case z5kH => assumption); (case z5F => assumption); (case z5N => assumption); (case z5k4 => k_asm); (case z5k5 => k_asm); (case z5k6 => k_is); (case z5k7 => k_is); (case z5k8 => (simp only [recursionLimit]; omega)); (case z5k9 => exact BindsTo.of_eq rfl); (case z5c5 => decide); (case z5kB => exact locs rfl); (case z5c2 => exact rfl); (case z5c3 => exact rfl); (case z5c4 => exact rfl); k_whole))
  k_with "m_enterGC" => (
      k_dflt (refine' enterGC ?z6k4 ?z6k5 ?z6kH ?z6F ?z6N ?z6k6 ?z6k7 ?z6k8 ?z6k9 ?z6kB ?z6kD ?_ ?z6c2 ?z6c3 ?z6c4; (case z6kH => assumption); (case z6F => assumption); (case z6N => assumption); (case z6k4 => k_asm); (case z6k5 => k_asm); (case z6k6 => k_is); (case z6k7 => k_is); (case z6k8 => (simp only [recursionLimit]; omega)); (case z6k9 => exact BindsTo.of_eq rfl); (case z6kB => exact rfl); (case z6kD => decide +kernel); (case z6c2 => exact rfl); (case z6c3 => exact rfl); (case z6c4 => exact rfl); k_whole))
  k_with "m_enterE" => (
      k_dflt (refine' enterE ?z8k4 ?z8k5 ?z8kH ?z8F ?z8N ?z8k6 ?z8k7 ?z8k8 ?z8k9 ?z8kB ?_ ?z8c2 ?z8c3 ?z8c4 ?z8c5; (case z8kH => assumption); (case z8F => assumption); (case z8N => assumption); (case z8k4 => k_asm); (case z8k5 => k_asm); (case z8k6 => k_is); (case z8k7 => k_is); (case z8k8 => (simp only [recursionLimit]; omega)); (case z8k9 => exact BindsTo.of_eq rfl); (case z8c5 => decide); (case z8kB => exact locs rfl); (case z8c2 => exact rfl); (case z8c3 => exact rfl); (case z8c4 => exact rfl); k_whole))
  k_with "m_enterEC" => (
      k_dflt (refine' enterEC ?z9k4 ?z9k5 ?z9kH ?z9F ?z9N ?z9k6 ?z9k7 ?z9k8 ?z9k9 ?z9kB ?z9kD ?_ ?z9c2 ?z9c3 ?z9c4; (case z9kH => assumption); (case z9F => assumption); (case z9N => assumption); (case z9k4 => k_asm); (case z9k5 => k_asm); (case z9k6 => k_is); (case z9k7 => k_is); (case z9k8 => (simp only [recursionLimit]; omega)); (case z9k9 => exact BindsTo.of_eq rfl); (case z9kB => exact rfl); (case z9kD => decide +kernel); (case z9c2 => exact rfl); (case z9c3 => exact rfl); (case z9c4 => exact rfl); k_whole))
  k_with "m_in" => first
    | with_reducible apply in_hd
    | (with_reducible apply in_l; walk_at "m_in")
    | (with_reducible apply in_r; walk_at "m_in")
    | (with_reducible apply in_tl; walk_at "m_in")
    | apply in_hd
    | assumption
  k_with "m_sub3" => first
    | with_reducible apply sub_id
    | (with_reducible apply sub_l; walk_at "m_sub3")
    | (with_reducible apply sub_r; walk_at "m_sub3")
    | (with_reducible apply sub_tl; walk_at "m_sub3")
  k_with "m_perm2" => ((repeat' (first | with_reducible apply sub_nil | with_reducible apply sub_app | with_reducible apply sub_cons)); all_goals (first | walk_at "m_in" | walk_at "m_sub3"))
  k_with "m_perm" => (intro p hp; simp only [List.cons_append, List.nil_append, List.append_assoc, List.append_nil, List.mem_cons, List.mem_append, List.not_mem_nil, or_false, or_assoc] at hp ⊢; (repeat' (first | (cases hp with | inl hp => ?_ | inr hp => ?_) | fail)); all_goals (repeat (first | apply hp | apply Or.inl hp | apply Or.inr)))
  k_with "m_notin" => first | exact notIn_of2 (by assumption) | (refine notIn_of ?_ ?_ ?_ ?_ ?_ <;> first | omega | assumption)
  k_with "m_off" => (refine Ap.all ?_; simp only [Ap, and_true]; omega)
  k_with "m_front" => first
    | assumption
    | exact rot2 (by assumption)
    | exact rot3 (by assumption)
    | exact rot4 (by assumption)
    | exact rot5 (by assumption)
    | exact rot6 (by assumption)
    | exact rot7 (by assumption)
    | exact rot8 (by assumption)
    | exact rot9 (by assumption)
  k_with "call builtin:list.append" => (k_dflt (refine' append_L ?zaF ?zaN ?zao ?zaz ?_; (case zaF => k_asm); (case zaN => walk_at "m_front"); (case zao => first | k_all | walk_at "m_off"); (case zaz => omega); k_whole; intro h9 F9 N9))
  k_with "compareOp NotIn int ref" => (k_dflt (refine' notin_L ?zbN ?zbm ?zbI ?_; (case zbN => k_asm); (case zbm => k_mem); (case zbI => assumption); k_whole))
  k_with "call builtin:len" => (k_dflt (refine' len_listK ?z7N ?z7l ?z7z ?_; (case z7N => k_asm); (case z7l => k_mem); (case z7z => omega); k_whole))
  trivial
theorem nameat_ok {w : World} {mean : ExcName → Option Value} {mg mb : Str → Option Value} {H g : Heap} (RT : Root w mean mg mb H) (hH : H.StaysIn g) {dp un : Nat} {fr : Option (List Env)} {gd : Option (List Code)} (hdp : dp + 3 < 900) (hun : un + 30 < 9000)
    {L : Addr} {m : Str → Option Value} {s : Shared} {news : List (Addr × Obj)} (F : Fr g L s.heap m) (N : News g L s.heap news) {sa sd ln df a1 a2 : Addr} {t1 t2 t3 t4 t5 t : Tok} {b : Bool} {nvs : List Value} {nn : Nat} {x : Int} {v : Value}
    (hsa : (sa, instObj 129 sd) ∈ news) (hsd : (sd, sd5 w t1 t2 t3 t4 t5 ln df b a1 a2) ∈ news) (hln : (ln, lstO nvs nn) ∈ news) (hx : 1 ≤ x) (hxl : x ≤ 100) (hv : nvs[x.toNat - 1]? = some v) {Q E : Value → Shared → Prop}
    (hret : ∀ h' tk', Fr g L h' m → News g L h' news → Q v { s with heap := h', toks := tk' }) :
    wpAny (model PySem.Challenge.rw_nu0043_01.row.prog w) (AA dp fr gd un) (call (.ref 84) [.ref sa, .int x t]) Q E s := by
  obtain ⟨X, T⟩ := RT
  walk_at "m_enterG"
  intro L' h1 tk1 oL fr1 gd1 F1 N1 hoL hne
  have X1 := X.keeps hH
  have T1 := T.keeps hH
  clear X T
  have hv' : nvs[(x - 1).toNat]? = some v := by rw [show (x - 1).toNat = x.toNat - 1 by omega]; exact hv
  k_steps
  refine' item_symL N1 (.tail _ hln) (by omega) (by omega) hv' ?_ ?hs
  case hs => with_unfolding_all rfl
  obtain ⟨F2, N2⟩ := backG F hoL F1 N1 hne
  exact hret _ _ F2 N2
theorem behind_ok {w : World} {mean : ExcName → Option Value} {mg mb : Str → Option Value} {H g : Heap} (RT : Root w mean mg mb H) (hH : H.StaysIn g) {dp un : Nat} {fr : Option (List Env)} {gd : Option (List Code)} (hdp : dp + 3 < 900) (hun : un + 30 < 9000)
    {L : Addr} {m : Str → Option Value} {s : Shared} {news : List (Addr × Obj)} (F : Fr g L s.heap m) (N : News g L s.heap news) {sa sd ln df a1 a2 c : Addr} {t1 t2 t3 t4 t5 t : Tok} {b : Bool} {dfO : Obj} {kvs : List (Int × Value)} {x : Int}
    (hsa : (sa, instObj 129 sd) ∈ news) (hsd : (sd, sd5 w t1 t2 t3 t4 t5 ln df b a1 a2) ∈ news) (hdf : (df, dfO) ∈ news) (hd : dfO.IsDictOf (PySem.intKind PySem.Challenge.rw_nu0043_01.row.prog w) kvs) (hz0 : x = 0 → c = a1) (hz1 : x ≠ 0 → valueAt kvs x = some (.ref c)) {Q E : Value → Shared → Prop}
    (hret : ∀ h' tk', Fr g L h' m → News g L h' news → Q (.ref c) { s with heap := h', toks := tk' }) :
    wpAny (model PySem.Challenge.rw_nu0043_01.row.prog w) (AA dp fr gd un) (call (.ref 91) [.ref sa, .int x t]) Q E s := by
  obtain ⟨X, T⟩ := RT
  walk_at "m_enterG"
  intro L' h1 tk1 oL fr1 gd1 F1 N1 hoL hne
  have X1 := X.keeps hH
  have T1 := T.keeps hH
  clear X T
  k_steps
  · rename (x = 0) => e
    obtain rfl := hz0 e
    obtain ⟨F2, N2⟩ := backG F hoL F1 N1 hne
    exact hret _ _ F2 N2
  · rename (x ≠ 0) => e
    refine' kda_item (knd := PySem.intKind _ _) N1 (.tail _ hdf) hd (intKind_is _ _ _ _) (hz1 e) ?_ ?ha ?hb
    case ha => with_unfolding_all rfl
    case hb => (intro _; with_unfolding_all rfl)
    obtain ⟨F2, N2⟩ := backG F hoL F1 N1 hne
    exact hret _ _ F2 N2
theorem words_clash : True := by
  w_top off
  k_with_none
  k_with "m_enter" => (
      refine wpAny_call ?_;
      k_dflt (refine' enterP0 ?q0k4 ?q0k5 ?q0kH ?q0k6 ?q0k7 ?q0k8 ?q0k9 ?q0kB ?_ ?q0c2 ?q0c3 ?q0c4 ?q0c5; (case q0kH => assumption); (case q0k4 => k_asm); (case q0k5 => k_asm); (case q0k6 => k_is); (case q0k7 => k_is); (case q0k8 => (simp only [recursionLimit]; omega)); (case q0k9 => exact BindsTo.of_eq rfl); (case q0c5 => decide); (case q0kB => exact locs rfl); (case q0c2 => exact rfl); (case q0c3 => exact rfl); (case q0c4 => exact rfl); k_whole);
      rename Frag.In _ _ => xX; rename Top _ _ _ _ _ _ => xT; clear xX xT;
      intro L' h' tk' F' N' X' T'; (try dsimp only); (try k_fold))
  k_with "m_enter0" => (
      refine wpAny_call ?_;
      k_dflt (refine' enterP0 ?q1k4 ?q1k5 ?q1kH ?q1k6 ?q1k7 ?q1k8 ?q1k9 ?q1kB ?_ ?q1c2 ?q1c3 ?q1c4 ?q1c5; (case q1kH => assumption); (case q1k4 => k_asm); (case q1k5 => k_asm); (case q1k6 => k_is); (case q1k7 => k_is); (case q1k8 => (simp only [recursionLimit]; omega)); (case q1k9 => exact BindsTo.of_eq rfl); (case q1c5 => decide); (case q1kB => exact locs rfl); (case q1c2 => exact rfl); (case q1c3 => exact rfl); (case q1c4 => exact rfl); k_whole);
      rename Frag.In _ _ => xX; rename Top _ _ _ _ _ _ => xT; clear xX xT)
  k_with "m_enterC" => (
      refine wpAny_call ?_;
      k_dflt (refine' enterC0 ?q2k4 ?q2k5 ?q2kH ?q2k6 ?q2k7 ?q2k8 ?q2k9 ?q2kB ?q2kD ?_ ?q2c2 ?q2c3 ?q2c4; (case q2kH => assumption); (case q2k4 => k_asm); (case q2k5 => k_asm); (case q2k6 => k_is); (case q2k7 => k_is); (case q2k8 => (simp only [recursionLimit]; omega)); (case q2k9 => exact BindsTo.of_eq rfl); (case q2kB => exact rfl); (case q2kD => decide +kernel); (case q2c2 => exact rfl); (case q2c3 => exact rfl); (case q2c4 => exact rfl); k_whole);
      rename Frag.In _ _ => xX; rename Top _ _ _ _ _ _ => xT; clear xX xT;
      intro L' h' tk' cells' F' N' Y' X' T'; k_cells Y'; (try simp only [List.cons_append, List.nil_append] at N'); (try dsimp only); (try k_fold))
  k_with "m_enterC0" => (
      refine wpAny_call ?_;
      k_dflt (refine' enterC0 ?q3k4 ?q3k5 ?q3kH ?q3k6 ?q3k7 ?q3k8 ?q3k9 ?q3kB ?q3kD ?_ ?q3c2 ?q3c3 ?q3c4; (case q3kH => assumption); (case q3k4 => k_asm); (case q3k5 => k_asm); (case q3k6 => k_is); (case q3k7 => k_is); (case q3k8 => (simp only [recursionLimit]; omega)); (case q3k9 => exact BindsTo.of_eq rfl); (case q3kB => exact rfl); (case q3kD => decide +kernel); (case q3c2 => exact rfl); (case q3c3 => exact rfl); (case q3c4 => exact rfl); k_whole);
      rename Frag.In _ _ => xX; rename Top _ _ _ _ _ _ => xT; clear xX xT)
  k_with "call ref" => k_dflt (k_extra "m_call")
  k_with "exec Assign cons ListComp" => (k_dflt (refine' comp_assign ?q5kF (emitOne _) ?q5k0 ?q5k1 ?q5k2 ?q5k3 ?q5k4 ?q5k5 ?q5k6 ?q5k7 ?q5k8 ?_; (case q5kF => k_asm); (case q5k0 => exact rfl); (case q5k1 => (intros; rfl)); (case q5k2 => exact rfl); (case q5k3 => with_unfolding_all rfl); (case q5k4 => decide); (case q5k5 => exact rfl); (case q5k6 => decide); (case q5k7 => exact rfl); (case q5k8 => exact rfl); k_whole))
  k_with "eval ListComp" => (k_dflt (refine' comp_eval ?q6kF (emitOne _) ?q6k1 ?q6k3 ?q6k4 ?q6k5 ?q6k6 ?_; (case q6kF => k_asm); (case q6k1 => (intros; rfl)); (case q6k3 => with_unfolding_all rfl); (case q6k4 => decide); (case q6k5 => exact rfl); (case q6k6 => decide); k_whole))
  k_with "exec For Name Subscript cons nil" => (k_dflt (refine' for_rule ?q7kF ?_; (case q7kF => k_asm); k_whole))
  k_with "exec For Name Name cons nil" => (k_dflt (refine' for_rule ?q8kF ?_; (case q8kF => k_asm); k_whole))
  k_with "exec For Name IfExp cons nil" => (k_dflt (refine' for_rule ?q9kF ?_; (case q9kF => k_asm); k_whole))
  k_with "exec For Name Call cons nil" => (k_dflt (refine' for_rule ?q10kF ?_; (case q10kF => k_asm); k_whole))
  k_with "exec For Name ListComp cons nil" => (k_dflt (refine' for_rule ?q11kF ?_; (case q11kF => k_asm); k_whole))
  k_with "exec For Tuple Name cons nil" => (k_dflt (refine' for_rule ?q12kF ?_; (case q12kF => k_asm); k_whole))
  k_with "FSrc" => k_dflt (k_extra "m_fsrc")
  k_with "FRest" => k_dflt (k_extra "m_frest")
  k_with "FEnd" => k_dflt (k_extra "m_fend")
  k_with "CSrc" => k_dflt (k_extra "m_src")
  k_with "CRest" => k_dflt (k_extra "m_rest")
  k_with "CEnd" => k_dflt (k_extra "m_cend")
  k_with "FinA" => (unfold FinA; intro h9 tk9 F9 N9 ne9; (try rw [lst_eq] at N9))
  k_with "FinE" => (unfold FinE; intro h9 tk9 F9 N9 ne9; (try rw [lst_eq] at N9))
  k_with "execs cons Assign cons" => refine wpAny_execs_cons ?_
  k_with "execs cons Assign nil" => refine wpAny_execs_cons ?_
  k_with "execs cons If cons" => refine wpAny_execs_cons ?_
  k_with "execs cons If nil" => refine wpAny_execs_cons ?_
  k_with "execs cons For cons" => refine wpAny_execs_cons ?_
  k_with "execs cons For nil" => refine wpAny_execs_cons ?_
  k_with "execs cons Return cons" => refine wpAny_execs_cons ?_
  k_with "execs cons Return nil" => refine wpAny_execs_cons ?_
  k_with "execs cons Expr cons" => refine wpAny_execs_cons ?_
  k_with "execs cons Expr nil" => refine wpAny_execs_cons ?_
  k_with "ite" => first | (rw [if_neg (by decide +kernel)]) | (rw [if_pos (by decide +kernel)])
  k_with "subscriptTail Name Constant ref int" => (k_dflt (refine' item_tupleT ?q32k1 ?q32k2 ?q32k3 ?q32k4 ?q32k5 ?_; (case q32k1 => exact Fr.tup (by k_asm) (by assumption)); (case q32k2 => decide); (case q32k3 => decide); (case q32k4 => rfl); (case q32k5 => rfl); k_whole))
  k_with "eval Name" => (k_dflt (refine' nameX_L ?q33k1 ?q33k2 ?_; (case q33k1 => k_asm); (case q33k2 => first | exact rfl | assumption); k_whole))
  k_with "binaryOp Add ref ref" => (k_dflt (refine' my_add ?q34F ?q34N ?q34a ?q34b ?q34z ?_; (case q34F => k_asm); (case q34N => k_asm); (case q34a => k_mem); (case q34b => k_mem); (case q34z => (rw [sizeLine_eq]; (try simp only [List.length_append, List.length_nil, List.length_cons]); omega)); k_whole; intro r9 h9 F9 N9 l9; (try k_lt l9)))
  k_with "subscriptTail Subscript" => (k_dflt (refine kba_turn (value' := PySem.Expr.Name (PySem.Str.ofString "_") ⟨0, 0, 0, 0⟩) (fun _ => rfl) ?_))
  k_with "subscriptTail Name Slice ref ref" => (k_dflt (refine' slice_tuple ?q36F ?q36N ?q36t ?q36pa ?q36pb ?q36pc ?q36h0 ?q36hno ?q36hz ?q36hsz ?_ ?q36hs ?q36hg; (case q36F => k_asm); (case q36N => k_asm); (case q36t => exact Fr.tup (by k_asm) (by assumption)); (case q36pa => first | exact IsPart.none | exact IsPart.int _ _); (case q36pb => first | exact IsPart.none | exact IsPart.int _ _); (case q36pc => first | exact IsPart.none | exact IsPart.int _ _); (case q36h0 => rfl); (case q36hno => rfl); (case q36hz => with_unfolding_all first | exact (rfl : _ = []) | exact (rfl : _ = [_]) | exact (rfl : _ = [_, _]) | exact (rfl : _ = [_, _, _])); (case q36hsz => (rw [sizeLine_eq]; exact Nat.le_of_ble_eq_true rfl)); (case q36hs => with_unfolding_all rfl); (case q36hg => (intro _; with_unfolding_all rfl)); k_whole; intro r9 h9 F9 N9 l9; (try k_lt l9)))
  k_with "m_sub" => (intro q9 h9; simp only [List.mem_cons, List.mem_append, h9, true_or, or_true])
  k_with "m_rdsub" => (intro b o h; first | exact h | exact Or.inl h | (refine Or.elim h Or.inl (fun h => Or.inr ?_); simp only [List.mem_cons, List.mem_append, h, true_or, or_true]))
  k_with "m_rd" => first
      | exact Rd.int _ _ | exact Rd.str _ _ | exact Rd.bool _ | assumption
      | (refine' Rd.mono ?q39hs ?q39hv; (case q39hv => assumption); (case q39hs => walk_at "m_rdsub"))
      | (refine Rd.tuple (Or.inr (by k_mem)) ?_; walk_at "m_rds")
  k_with "m_rds" => first
      | exact RdAll.nil
      | ((refine RdAll.cons ?_ ?_); (walk_at "m_rd"); (walk_at "m_rds"))
  k_with "call builtin:len" => (k_dflt (refine' len_tupK ?q41k1 ?q41k2 ?q41k3 ?_; (case q41k1 => exact Fr.tup (by k_asm) (by assumption)); (case q41k2 => assumption); (case q41k3 => omega); k_whole))
  k_with "call type:range" => (k_dflt (first | (refine' range1_rows ?q42k1 ?q42k2 ?_; (case q42k1 => k_asm); (case q42k2 => k_asm); k_whole; intro h9 tk9 t9 u9 v9 hr9 F9 N9 hk9) | (refine' range2_rows ?q42k1 ?q42k2 ?_; (case q42k1 => k_asm); (case q42k2 => k_asm); k_whole; intro h9 tk9 t9 u9 v9 hr9 F9 N9 hk9)))
  k_with "subscriptTail Name Name ref int" => (k_dflt (refine' item_sym ?q43k1 ?q43k2 ?q43k3 ?q43k4 ?_; (case q43k1 => exact Fr.tup (by k_asm) (by assumption)); (case q43k4 => assumption); (case q43k2 => omega); (case q43k3 => omega); k_whole))
  k_with "compareOp Eq ref ref" => (k_dflt (refine' list_eq_nil ?y1N ?y1a ?y1b ?y1u ?_; (case y1N => k_asm); (case y1a => k_mem); (case y1b => k_mem); (case y1u => (show _ < 9900; (try dsimp only); omega)); k_whole))
  k_with "m_enterD" => (
      k_dflt (refine' enterC1 ?z3k4 ?z3k5 ?z3kH ?z3k6 ?z3k7 ?z3k8 ?z3k9 ?z3kB ?z3kD ?_ ?z3c2 ?z3c3 ?z3c4; (case z3kH => assumption); (case z3k4 => k_asm); (case z3k5 => k_asm); (case z3k6 => k_is); (case z3k7 => k_is); (case z3k8 => (simp only [recursionLimit]; omega)); (case z3k9 => exact BindsTo.of_eq rfl); (case z3kB => exact rfl); (case z3kD => decide +kernel); (case z3c2 => exact rfl); (case z3c3 => exact rfl); (case z3c4 => exact rfl); k_whole);
      rename Frag.In _ _ => xX; rename Top _ _ _ _ _ _ => xT; clear xX xT)
  k_with "m_enterB" => (
      k_dflt (refine' enterP1 ?z4k4 ?z4k5 ?z4kH ?z4k6 ?z4k7 ?z4k8 ?z4k9 ?z4kB ?_ ?z4c2 ?z4c3 ?z4c4 ?z4c5; (case z4kH => assumption); (case z4k4 => k_asm); (case z4k5 => k_asm); (case z4k6 => k_is); (case z4k7 => k_is); (case z4k8 => (simp only [recursionLimit]; omega)); (case z4k9 => exact BindsTo.of_eq rfl); (case z4c5 => decide); (case z4kB => exact locs rfl); (case z4c2 => exact rfl); (case z4c3 => exact rfl); (case z4c4 => exact rfl); k_whole);
      rename Frag.In _ _ => xX; rename Top _ _ _ _ _ _ => xT; clear xX xT)
  k_with "m_enterG" => (
      k_dflt (refine' enterG ?z5k4 ?z5k5 ?z5kH ?z5F ?z5N ?z5k6 ?z5k7 ?z5k8 ?z5k9 ?z5kB ?_ ?z5c2 ?z5c3 ?z5c4 ?z5c5; (case z5kH => assumption); (case z5F => assumption); (case z5N => assumption); (case z5k4 => k_asm); (case z5k5 => k_asm); (case z5k6 => k_is); (case z5k7 => k_is); (case z5k8 => (simp only [recursionLimit]; omega)); (case z5k9 => exact BindsTo.of_eq rfl); (case z5c5 => decide); (case z5kB => exact locs rfl); (case z5c2 => exact rfl); (case z5c3 => exact rfl); (case z5c4 => exact rfl); k_whole))
  k_with "m_enterGC" => (
      k_dflt (refine' enterGC ?z6k4 ?z6k5 ?z6kH ?z6F ?z6N ?z6k6 ?z6k7 ?z6k8 ?z6k9 ?z6kB ?z6kD ?_ ?z6c2 ?z6c3 ?z6c4; (case z6kH => assumption); (case z6F => assumption); (case z6N => assumption); (case z6k4 => k_asm); (case z6k5 => k_asm); (case z6k6 => k_is); (case z6k7 => k_is); (case z6k8 => (simp only [recursionLimit]; omega)); (case z6k9 => exact BindsTo.of_eq rfl); (case z6kB => exact rfl); (case z6kD => decide +kernel); (case z6c2 => exact rfl); (case z6c3 => exact rfl); (case z6c4 => exact rfl); k_whole))
  k_with "m_enterE" => (
      k_dflt (refine' enterE ?z8k4 ?z8k5 ?z8kH ?z8F ?z8N ?z8k6 ?z8k7 ?z8k8 ?z8k9 ?z8kB ?_ ?z8c2 ?z8c3 ?z8c4 ?z8c5; (case z8kH => assumption); (case z8F => assumption); (case z8N => assumption); (case z8k4 => k_asm); (case z8k5 => k_asm); (case z8k6 => k_is); (case z8k7 => k_is); (case z8k8 => (simp only [recursionLimit]; omega)); (case z8k9 => exact BindsTo.of_eq rfl); (case z8c5 => decide); (case z8kB => exact locs rfl); (case z8c2 => exact rfl); (case z8c3 => exact rfl); (case z8c4 => exact rfl); k_whole))
  k_with "m_enterEC" => (
      k_dflt (refine' enterEC ?z9k4 ?z9k5 ?z9kH ?z9F ?z9N ?z9k6 ?z9k7 ?z9k8 ?z9k9 ?z9kB ?z9kD ?_ ?z9c2 ?z9c3 ?z9c4; (case z9kH => assumption); (case z9F => assumption); (case z9N => assumption); (case z9k4 => k_asm); (case z9k5 => k_asm); (case z9k6 => k_is); (case z9k7 => k_is); (case z9k8 => (simp only [recursionLimit]; omega)); (case z9k9 => exact BindsTo.of_eq rfl); (case z9kB => exact rfl); (case z9kD => decide +kernel); (case z9c2 => exact rfl); (case z9c3 => exact rfl); (case z9c4 => exact rfl); k_whole))
  k_with "m_in" => first
    | with_reducible apply in_hd
    | (with_reducible apply in_l; walk_at "m_in")
    | (with_reducible apply in_r; walk_at "m_in")
    | (with_reducible apply in_tl; walk_at "m_in")
    | apply in_hd
    | assumption
  k_with "m_sub3" => first
    | with_reducible apply sub_id
    | (with_reducible apply sub_l; walk_at "m_sub3")
    | (with_reducible apply sub_r; walk_at "m_sub3")
    | (with_reducible apply sub_tl; walk_at "m_sub3")
  k_with "m_perm2" => ((repeat' (first | with_reducible apply sub_nil | with_reducible apply sub_app | with_reducible apply sub_cons)); all_goals (first | walk_at "m_in" | walk_at "m_sub3"))
  k_with "m_perm" => (intro p hp; simp only [List.cons_append, List.nil_append, List.append_assoc, List.append_nil, List.mem_cons, List.mem_append, List.not_mem_nil, or_false, or_assoc] at hp ⊢; (repeat' (first | (cases hp with | inl hp => ?_ | inr hp => ?_) | fail)); all_goals (repeat (first | apply hp | apply Or.inl hp | apply Or.inr)))
  k_with "m_notin" => first | exact notIn_of2 (by assumption) | (refine notIn_of ?_ ?_ ?_ ?_ ?_ <;> first | omega | assumption)
  k_with "m_off" => (refine Ap.all ?_; simp only [Ap, and_true]; omega)
  k_with "m_front" => first
    | assumption
    | exact rot2 (by assumption)
    | exact rot3 (by assumption)
    | exact rot4 (by assumption)
    | exact rot5 (by assumption)
    | exact rot6 (by assumption)
    | exact rot7 (by assumption)
    | exact rot8 (by assumption)
    | exact rot9 (by assumption)
  k_with "call builtin:list.append" => (k_dflt (refine' append_L ?zaF ?zaN ?zao ?zaz ?_; (case zaF => k_asm); (case zaN => walk_at "m_front"); (case zao => first | k_all | walk_at "m_off"); (case zaz => omega); k_whole; intro h9 F9 N9))
  k_with "compareOp NotIn int ref" => (k_dflt (refine' notin_L ?zbN ?zbm ?zbI ?_; (case zbN => k_asm); (case zbm => k_mem); (case zbI => assumption); k_whole))
  k_with "call builtin:len" => (k_dflt (refine' len_listK ?z7N ?z7l ?z7z ?_; (case z7N => k_asm); (case z7l => k_mem); (case z7z => omega); k_whole))
  trivial
theorem nms_get {D : Addr → Obj → Prop} {nvs : List Value} {names : List Nm} (h : RdAll D nvs (names.map enc1)) {x : Int} (h1 : 1 ≤ x) (h2 : x ≤ (names.length : Int)) : ∃ t, nvs[x.toNat - 1]? = some (.str (nmOf names x).str t) := by
  have hl := h.length
  rw [List.length_map] at hl
  obtain ⟨v, hv⟩ : ∃ v, nvs[x.toNat - 1]? = some v := ⟨_, List.getElem?_eq_getElem (by omega)⟩
  obtain ⟨q, hq, -, hr, -⟩ := h.get_map hv
  obtain ⟨t, rfl⟩ := Rd.str_inv (x := q.str) hr
  refine ⟨t, ?_⟩
  rw [hv, nmOf, List.getD_eq_getElem?_getD, hq]
  rfl
theorem clashAll_none {nmAt : Int → Nm} {l : List Int} {ls : List (List Int)} (h : clashRow nmAt l [] = none) : clashAll nmAt (l :: ls) = clashAll nmAt ls := by rw [clashAll, h]
theorem clashAll_some {nmAt : Int → Nm} {l : List Int} {ls : List (List Int)} {r : Nm × Int × Int} (h : clashRow nmAt l [] = some r) : clashAll nmAt (l :: ls) = some r := by rw [clashAll, h]
inductive SnJ {prog : Program} {w : World} (names : List Nm) (l : List Int) (sa d : Addr) (base : List (Addr × Obj)) : Nat → (Str → Option Value) → List (Addr × Obj) → Prop
  | mk {j : Nat} {m : Str → Option Value} (o' : Obj) (kvs : List (Str × Value)) (sn : List (Nm × Int)) : o'.IsDictOf (PySem.strKind prog w) kvs → SeenR kvs sn → kvs.length ≤ j → clashRow (nmOf names) l [] = clashRow (nmOf names) (l.drop j) sn → m "self" = some (.ref sa) → m "seen" = some (.ref d) → SnJ names l sa d base j m ((d, o') :: base)
theorem clash_ok {w : World} {mean : ExcName → Option Value} {mg mb : Str → Option Value} {H : Heap} (RT : Root w mean mg mb H) {dp un : Nat} {fr : Option (List Env)} {gd : Option (List Code)} (hdp : dp + 20 < 900) (hun : un + 200 < 9000)
    {h₀ : Heap} {L : Addr} {m : Str → Option Value} {s : Shared} {sa sd ln df a1 a2 : Addr} {t1 t2 t3 t4 t5 : Tok} {b : Bool} {nvs v1 : List Value} {nn n1 : Nat} {dfO : Obj} {fl news : List (Addr × Obj)} {st : St} {fst : List Int}
    (hH : H.StaysIn h₀) (F : Fr h₀ L s.heap m) (N : News h₀ L s.heap (Aut5 w sa sd ln df t1 t2 t3 t4 t5 b a1 a2 nvs nn dfO v1 n1 fl ++ news)) (hoff : ∀ p ∈ news, p.1 ∉ adrs (Aut5 w sa sd ln df t1 t2 t3 t4 t5 b a1 a2 nvs nn dfO v1 n1 fl))
    (S : AutS w sa sd ln df nvs dfO fl st) (hi1 : IntsAre v1 fst) (ho1 : OKs st.names.length fst) (hk9 : st.names.length ≤ 9) {Q E : Value → Shared → Prop}
    (hnone : clashAll (nmOf st.names) (fst :: st.fol) = none → ∀ h' tk', Fr h₀ L h' m → News h₀ L h' (Aut5 w sa sd ln df t1 t2 t3 t4 t5 b a1 a2 nvs nn dfO v1 n1 fl ++ news) → Q .none { s with heap := h', toks := tk' })
    (hsome : ∀ nm x y, clashAll (nmOf st.names) (fst :: st.fol) = some (nm, x, y) → ∀ rt u1 u2 u3 nt h' tk', Fr h₀ L h' m → News h₀ L h' ((rt, tupO [.str nm.str u1, .int x u2, .int y u3] nt) :: (Aut5 w sa sd ln df t1 t2 t3 t4 t5 b a1 a2 nvs nn dfO v1 n1 fl ++ news)) → (∀ p ∈ Aut5 w sa sd ln df t1 t2 t3 t4 t5 b a1 a2 nvs nn dfO v1 n1 fl ++ news, p.1 ≠ rt) → Q (.ref rt) { s with heap := h', toks := tk' }) :
    wpAny (model PySem.Challenge.rw_nu0043_01.row.prog w) (AA dp fr gd un) (call (.ref 98) [.ref sa]) Q E s := by
  have RT0 := RT
  obtain ⟨X, T⟩ := RT
  have N0 : News h₀ L s.heap (Aut5 w sa sd ln df t1 t2 t3 t4 t5 b a1 a2 nvs nn dfO v1 n1 fl) := fun p hp => N p (List.mem_append_left _ hp)
  walk_at "m_enterE"
  intro L1 h1 tk1 g fr1 gd1 hg hHg F1 N1 hlt X1 T1
  clear X T
  have hnl := S.nms.length
  rw [List.length_map] at hnl
  have hfl := S.fl.length
  have hil := S.inv.1
  have e0 : ((nvs.length : Nat) : Int) + 1 = ((nvs.length + 1 : Nat) : Int) := by omega
  k_steps
  rename IsRange _ _ _ _ _ _ _ _ => hr
  rw [e0] at hr
  refine' FSrc.range (n := nvs.length + 1) (news := Aut5 w sa sd ln df t1 t2 t3 t4 t5 b a1 a2 nvs nn dfO v1 n1 fl) rfl ?hF ?hN hr (range_small (a := 0) (Nat.zero_le _) (by omega)) (range_size (a := 0) (Nat.zero_le _)) ?_
  case hF => k_asm
  case hN => k_asm
  intro I9 off9
  refine FRest.ind (fun i m nw => nw = Aut5 w sa sd ln df t1 t2 t3 t4 t5 b a1 a2 nvs nn dfO v1 n1 fl ∧ m "self" = some (.ref sa) ∧ clashAll (nmOf st.names) (fst :: st.fol) = clashAll (nmOf st.names) ((fst :: st.fol).drop i)) ?step ?done ?hS₀ ?start
  case hS₀ => trivial
  case start => exact ⟨rfl, rfl, rfl⟩
  case done =>
    rintro m9 nw h9 tk9 - ⟨rfl, hm1, hc⟩ F9 N9 off9
    have hdr : (fst :: st.fol).drop (nvs.length + 1) = [] := List.drop_eq_nil_of_le (by rw [List.length_cons]; omega)
    rw [hdr] at hc
    k_steps
    rename Fr g _ _ _ => FF
    rename News g _ _ _ => NN
    obtain ⟨F2, N2, -⟩ := backE (tl := []) (ps := Aut5 w sa sd ln df t1 t2 t3 t4 t5 b a1 a2 nvs nn dfO v1 n1 fl) (ps' := Aut5 w sa sd ln df t1 t2 t3 t4 t5 b a1 a2 nvs nn dfO v1 n1 fl) hg F N hoff FF (by rw [List.append_nil]; exact NN) rfl (fun _ h => by cases h)
    rw [List.append_nil] at N2
    exact hnone hc _ _ F2 N2
  case step =>
    rintro i m9 nw v9 oI9 h9 tk9 E9 hi - ⟨rfl, hm1, hc⟩ ⟨tv, rfl⟩ F9 N9 off9
    rw [show (0 : Int) + (i : Int) = (i : Int) by omega]
    obtain ⟨c, vs, nc, l, hcm, hil2, hl, hz0, hz1, hol⟩ : ∃ c vs nc l, (c, lstO vs nc) ∈ Aut5 w sa sd ln df t1 t2 t3 t4 t5 b a1 a2 nvs nn dfO v1 n1 fl ∧ IntsAre vs l ∧ (fst :: st.fol)[i]? = some l ∧ ((i : Int) = 0 → c = a1) ∧ ((i : Int) ≠ 0 → valueAt (kvsFrom 1 fl) (i : Int) = some (.ref c)) ∧ OKs st.names.length l := by
      cases i with
      | zero => exact ⟨a1, v1, n1, fst, by k_mem, hi1, rfl, fun _ => rfl, fun h => absurd rfl h, ho1⟩
      | succ j =>
        obtain ⟨a, vs, n, ns, ha, hns, hI⟩ := S.fl.get (i := j) (by omega)
        refine ⟨a, vs, n, ns, ?_, hI, by simpa using hns, fun h => by omega, fun _ => ?_, S.inv.2 _ (List.mem_of_getElem? hns)⟩
        · exact .tail _ (.tail _ (.tail _ (.tail _ (.tail _ (List.mem_of_getElem? ha)))))
        · have := kvsFrom_at (k := 1) ha
          rw [Nat.add_comm 1 j] at this
          exact this
    have hdr : (fst :: st.fol).drop i = l :: (fst :: st.fol).drop (i + 1) := by
      obtain ⟨hi', e⟩ := List.getElem?_eq_some_iff.mp hl
      rw [List.drop_eq_getElem_cons hi', e]
    rw [hdr] at hc
    k_with "m_call" => (refine' behind_ok RT0 hHg ?tdp ?tun ?tF ?tN (c := c) ?ma ?mb ?mc S.dict hz0 hz1 ?_; (case tdp => omega); (case tun => omega); (case tF => k_asm); (case tN => k_asm); (case ma => k_mem); (case mb => k_mem); (case mc => k_mem); intro h9 tk9 F9 N9)
    k_steps
    rename_i d hz2 dO lo hs fs hi' fi l1 hz3 F3 N3
    obtain ⟨l11, l12, l13, l14, l15, l16, l17⟩ := l1
    have hdne : ∀ p ∈ (I9, oI9) :: Aut5 w sa sd ln df t1 t2 t3 t4 t5 b a1 a2 nvs nn dfO v1 n1 fl, p.1 ≠ d := by
      simp only [List.forall_mem_cons]
      exact ⟨Nat.ne_of_lt l11, Nat.ne_of_lt l12, Nat.ne_of_lt l13, Nat.ne_of_lt l14, Nat.ne_of_lt l15, Nat.ne_of_lt l16, fun p hp => Nat.ne_of_lt (tb_ltOf l17 p hp)⟩
    refine' FSrc.seq (tup := false) (its := vs) (n := nc) (news := (d, dO) :: (I9, oI9) :: Aut5 w sa sd ln df t1 t2 t3 t4 t5 b a1 a2 nvs nn dfO v1 n1 fl) rfl ?hF ?hN (.inr (.tail _ (.tail _ hcm))) ?_
    case hF => k_asm
    case hN => k_asm
    intro I2 off2
    refine FRest.ind (SnJ (prog := PySem.Challenge.rw_nu0043_01.row.prog) (w := w) st.names l sa d ((I9, oI9) :: Aut5 w sa sd ln df t1 t2 t3 t4 t5 b a1 a2 nvs nn dfO v1 n1 fl)) ?step ?done ?hS₀ ?start
    case hS₀ => exact .inr (.tail _ (.tail _ hcm))
    case start => exact ⟨dO, [], [], hs, .nil, Nat.le_refl _, rfl, hm1, rfl⟩
    case done =>
      rintro m8 nw h8 tk8 - ⟨o', kvs, sn, hd', hsr, hkl, hcr, hm2, hm3⟩ F8 N8 off8
      have hll := hil2.length
      rw [List.drop_eq_nil_of_le (by omega), clashRow] at hcr
      rw [clashAll_none hcr] at hc
      k_steps
      rename Fr g _ _ _ => F7
      rename News g _ _ _ => N7
      refine FEnd.next F7 N7 (Aut5 w sa sd ln df t1 t2 t3 t4 t5 b a1 a2 nvs nn dfO v1 n1 fl) (fun p hp => ?_) off9 trivial ⟨rfl, hm2, hc⟩
      exact .tail _ hp
    case step =>
      rintro j m8 nw v8 oI2 h8 tk8 E8 hj - ⟨o', kvs, sn, hd', hsr, hkl, hcr, hm2, hm3⟩ hP F8 N8 off8
      obtain ⟨x, t, rfl, hx, htake⟩ := ints_get hil2 hP
      have hxo := hol.2 x (List.mem_of_getElem? hx)
      have hol9 := hol.len
      have hll := hil2.length
      obtain ⟨tn, hnv⟩ := nms_get S.nms hxo.1 hxo.2
      have hdr2 : l.drop j = x :: l.drop (j + 1) := by
        obtain ⟨hi', e⟩ := List.getElem?_eq_some_iff.mp hx
        rw [List.drop_eq_getElem_cons hi', e]
      rw [hdr2, clashRow] at hcr
      have hdI : I2 ≠ d := Ne.symm (off8 (d, o') (.head _))
      have hdne2 : ∀ p ∈ (I2, oI2) :: (I9, oI9) :: Aut5 w sa sd ln df t1 t2 t3 t4 t5 b a1 a2 nvs nn dfO v1 n1 fl, p.1 ≠ d := List.forall_mem_cons.mpr ⟨hdI, hdne⟩
      k_with "m_call" => (refine' nameat_ok RT0 hHg ?tdp ?tun ?tF ?tN ?ma ?mb ?mc hxo.1 (by omega) hnv ?_; (case tdp => omega); (case tun => omega); (case tF => k_asm); (case tN => k_asm); (case ma => k_mem); (case mb => k_mem); (case mc => k_mem); intro h9 tk9 F9 N9)
      cases hlk : sn.lookup (nmOf st.names x) with
      | none =>
        rw [hlk] at hcr
        have hva := hsr.none hlk
        k_with "compareOp In str ref" => (k_dflt (refine' kda_in (knd := PySem.strKind _ _) ?tN ?tp hd' lo (strKind_is _ _ _ _) false ?tb ?_; (case tN => k_asm); (case tp => k_mem); (case tb => (rw [hva]; rfl)); k_whole))
        k_with "setItem ref str int" => (k_dflt (refine' setS_L ?tF ?tN hdne2 hd' ?tz ?_; (case tF => k_asm); (case tN => walk_at "m_front"); (case tz => omega); k_whole); intro h9 o9 F9 N9 d9)
        k_steps
        rw [stored_new hva] at d9
        refine FEnd.next F9 N9 ((d, o9) :: (I9, oI9) :: Aut5 w sa sd ln df t1 t2 t3 t4 t5 b a1 a2 nvs nn dfO v1 n1 fl) (by walk_at "m_perm") ?_ (.inr (.tail _ (.tail _ hcm))) ⟨o9, _, sn ++ [(nmOf st.names x, x)], d9, hsr.snoc, by rw [List.length_append, List.length_singleton]; omega, hcr, hm2, hm3⟩
        intro p hp
        rcases List.mem_cons.mp hp with rfl | hp
        · exact off8 (d, o') (.head _)
        · exact off8 p (.tail _ hp)
      | some y =>
        rw [hlk] at hcr
        obtain ⟨ty, hva⟩ := hsr.some hlk
        k_with "compareOp In str ref" => (k_dflt (refine' kda_in (knd := PySem.strKind _ _) ?tN ?tp hd' lo (strKind_is _ _ _ _) true ?tb ?_; (case tN => k_asm); (case tp => k_mem); (case tb => (rw [hva]; rfl)); k_whole))
        k_with "subscriptTail Name Name ref str" => (k_dflt (refine' kda_item (knd := PySem.strKind _ _) ?zN ?zp hd' (strKind_is _ _ _ _) hva ?_; (case zN => k_asm); (case zp => k_mem); k_whole))
        k_steps
        rename_i DT hz8 FT NT lT
        obtain ⟨q1, q2, q3, q4, q5, q6, q7, q8, q9⟩ := lT
        obtain ⟨F2, N2, ne2, -⟩ := backE (tl := [(DT, tupO [.str (nmOf st.names x).str tn, .int y ty, .int x t] 0)]) (ps := Aut5 w sa sd ln df t1 t2 t3 t4 t5 b a1 a2 nvs nn dfO v1 n1 fl) (ps' := Aut5 w sa sd ln df t1 t2 t3 t4 t5 b a1 a2 nvs nn dfO v1 n1 fl) hg F N hoff FT (subN NT (by walk_at "m_perm")) rfl (fun p hp hm => by
          rw [List.mem_singleton.mp hp] at hm
          simp only [adrs, List.map_cons, List.mem_cons] at hm
          rcases hm with h | h | h | h | h | h
          · exact Nat.ne_of_lt q4 h.symm
          · exact Nat.ne_of_lt q5 h.symm
          · exact Nat.ne_of_lt q6 h.symm
          · exact Nat.ne_of_lt q7 h.symm
          · exact Nat.ne_of_lt q8 h.symm
          · obtain ⟨q, hq, e⟩ := List.mem_map.mp h
            exact Nat.ne_of_lt (tb_ltOf q9 q hq) e)
        show Q (.ref _) _
        refine hsome (nmOf st.names x) y x (hc.trans (clashAll_some hcr)) DT _ _ _ 0 _ _ F2 (subN N2 (by walk_at "m_perm")) fun p hp => Ne.symm (ne2 p hp _ (.head _))
theorem words_pool : True := by
  w_top off
  k_with_none
  k_with "m_enter" => (
      refine wpAny_call ?_;
      k_dflt (refine' enterP0 ?q0k4 ?q0k5 ?q0kH ?q0k6 ?q0k7 ?q0k8 ?q0k9 ?q0kB ?_ ?q0c2 ?q0c3 ?q0c4 ?q0c5; (case q0kH => assumption); (case q0k4 => k_asm); (case q0k5 => k_asm); (case q0k6 => k_is); (case q0k7 => k_is); (case q0k8 => (simp only [recursionLimit]; omega)); (case q0k9 => exact BindsTo.of_eq rfl); (case q0c5 => decide); (case q0kB => exact locs rfl); (case q0c2 => exact rfl); (case q0c3 => exact rfl); (case q0c4 => exact rfl); k_whole);
      rename Frag.In _ _ => xX; rename Top _ _ _ _ _ _ => xT; clear xX xT;
      intro L' h' tk' F' N' X' T'; (try dsimp only); (try k_fold))
  k_with "m_enter0" => (
      refine wpAny_call ?_;
      k_dflt (refine' enterP0 ?q1k4 ?q1k5 ?q1kH ?q1k6 ?q1k7 ?q1k8 ?q1k9 ?q1kB ?_ ?q1c2 ?q1c3 ?q1c4 ?q1c5; (case q1kH => assumption); (case q1k4 => k_asm); (case q1k5 => k_asm); (case q1k6 => k_is); (case q1k7 => k_is); (case q1k8 => (simp only [recursionLimit]; omega)); (case q1k9 => exact BindsTo.of_eq rfl); (case q1c5 => decide); (case q1kB => exact locs rfl); (case q1c2 => exact rfl); (case q1c3 => exact rfl); (case q1c4 => exact rfl); k_whole);
      rename Frag.In _ _ => xX; rename Top _ _ _ _ _ _ => xT; clear xX xT)
  k_with "m_enterC" => (
      refine wpAny_call ?_;
      k_dflt (refine' enterC0 ?q2k4 ?q2k5 ?q2kH ?q2k6 ?q2k7 ?q2k8 ?q2k9 ?q2kB ?q2kD ?_ ?q2c2 ?q2c3 ?q2c4; (case q2kH => assumption); (case q2k4 => k_asm); (case q2k5 => k_asm); (case q2k6 => k_is); (case q2k7 => k_is); (case q2k8 => (simp only [recursionLimit]; omega)); (case q2k9 => exact BindsTo.of_eq rfl); (case q2kB => exact rfl); (case q2kD => decide +kernel); (case q2c2 => exact rfl); (case q2c3 => exact rfl); (case q2c4 => exact rfl); k_whole);
      rename Frag.In _ _ => xX; rename Top _ _ _ _ _ _ => xT; clear xX xT;
      intro L' h' tk' cells' F' N' Y' X' T'; k_cells Y'; (try simp only [List.cons_append, List.nil_append] at N'); (try dsimp only); (try k_fold))
  k_with "m_enterC0" => (
      refine wpAny_call ?_;
      k_dflt (refine' enterC0 ?q3k4 ?q3k5 ?q3kH ?q3k6 ?q3k7 ?q3k8 ?q3k9 ?q3kB ?q3kD ?_ ?q3c2 ?q3c3 ?q3c4; (case q3kH => assumption); (case q3k4 => k_asm); (case q3k5 => k_asm); (case q3k6 => k_is); (case q3k7 => k_is); (case q3k8 => (simp only [recursionLimit]; omega)); (case q3k9 => exact BindsTo.of_eq rfl); (case q3kB => exact rfl); (case q3kD => decide +kernel); (case q3c2 => exact rfl); (case q3c3 => exact rfl); (case q3c4 => exact rfl); k_whole);
      rename Frag.In _ _ => xX; rename Top _ _ _ _ _ _ => xT; clear xX xT)
  k_with "call ref" => k_dflt (k_extra "m_call")
  k_with "exec Assign cons ListComp" => (k_dflt (refine' comp_assign ?q5kF (emitOne _) ?q5k0 ?q5k1 ?q5k2 ?q5k3 ?q5k4 ?q5k5 ?q5k6 ?q5k7 ?q5k8 ?_; (case q5kF => k_asm); (case q5k0 => exact rfl); (case q5k1 => (intros; rfl)); (case q5k2 => exact rfl); (case q5k3 => with_unfolding_all rfl); (case q5k4 => decide); (case q5k5 => exact rfl); (case q5k6 => decide); (case q5k7 => exact rfl); (case q5k8 => exact rfl); k_whole))
  k_with "eval ListComp" => (k_dflt (refine' comp_eval ?q6kF (emitOne _) ?q6k1 ?q6k3 ?q6k4 ?q6k5 ?q6k6 ?_; (case q6kF => k_asm); (case q6k1 => (intros; rfl)); (case q6k3 => with_unfolding_all rfl); (case q6k4 => decide); (case q6k5 => exact rfl); (case q6k6 => decide); k_whole))
  k_with "exec For Name Subscript cons nil" => (k_dflt (refine' for_rule ?q7kF ?_; (case q7kF => k_asm); k_whole))
  k_with "exec For Name Name cons nil" => (k_dflt (refine' for_rule ?q8kF ?_; (case q8kF => k_asm); k_whole))
  k_with "exec For Name IfExp cons nil" => (k_dflt (refine' for_rule ?q9kF ?_; (case q9kF => k_asm); k_whole))
  k_with "exec For Name Call cons nil" => (k_dflt (refine' for_rule ?q10kF ?_; (case q10kF => k_asm); k_whole))
  k_with "exec For Name ListComp cons nil" => (k_dflt (refine' for_rule ?q11kF ?_; (case q11kF => k_asm); k_whole))
  k_with "exec For Tuple Name cons nil" => (k_dflt (refine' for_rule ?q12kF ?_; (case q12kF => k_asm); k_whole))
  k_with "FSrc" => k_dflt (k_extra "m_fsrc")
  k_with "FRest" => k_dflt (k_extra "m_frest")
  k_with "FEnd" => k_dflt (k_extra "m_fend")
  k_with "CSrc" => k_dflt (k_extra "m_src")
  k_with "CRest" => k_dflt (k_extra "m_rest")
  k_with "CEnd" => k_dflt (k_extra "m_cend")
  k_with "FinA" => (unfold FinA; intro h9 tk9 F9 N9 ne9; (try rw [lst_eq] at N9))
  k_with "FinE" => (unfold FinE; intro h9 tk9 F9 N9 ne9; (try rw [lst_eq] at N9))
  k_with "execs cons Assign cons" => refine wpAny_execs_cons ?_
  k_with "execs cons Assign nil" => refine wpAny_execs_cons ?_
  k_with "execs cons If cons" => refine wpAny_execs_cons ?_
  k_with "execs cons If nil" => refine wpAny_execs_cons ?_
  k_with "execs cons For cons" => refine wpAny_execs_cons ?_
  k_with "execs cons For nil" => refine wpAny_execs_cons ?_
  k_with "execs cons Return cons" => refine wpAny_execs_cons ?_
  k_with "execs cons Return nil" => refine wpAny_execs_cons ?_
  k_with "execs cons Expr cons" => refine wpAny_execs_cons ?_
  k_with "execs cons Expr nil" => refine wpAny_execs_cons ?_
  k_with "ite" => first | (rw [if_neg (by decide +kernel)]) | (rw [if_pos (by decide +kernel)])
  k_with "subscriptTail Name Constant ref int" => (k_dflt (refine' item_tupleT ?q32k1 ?q32k2 ?q32k3 ?q32k4 ?q32k5 ?_; (case q32k1 => exact Fr.tup (by k_asm) (by assumption)); (case q32k2 => decide); (case q32k3 => decide); (case q32k4 => rfl); (case q32k5 => rfl); k_whole))
  k_with "eval Name" => (k_dflt (refine' nameX_L ?q33k1 ?q33k2 ?_; (case q33k1 => k_asm); (case q33k2 => first | exact rfl | assumption); k_whole))
  k_with "binaryOp Add ref ref" => (k_dflt (refine' my_add ?q34F ?q34N ?q34a ?q34b ?q34z ?_; (case q34F => k_asm); (case q34N => k_asm); (case q34a => k_mem); (case q34b => k_mem); (case q34z => (rw [sizeLine_eq]; (try simp only [List.length_append, List.length_nil, List.length_cons]); omega)); k_whole; intro r9 h9 F9 N9 l9; (try k_lt l9)))
  k_with "subscriptTail Subscript" => (k_dflt (refine kba_turn (value' := PySem.Expr.Name (PySem.Str.ofString "_") ⟨0, 0, 0, 0⟩) (fun _ => rfl) ?_))
  k_with "subscriptTail Name Slice ref ref" => (k_dflt (refine' slice_tuple ?q36F ?q36N ?q36t ?q36pa ?q36pb ?q36pc ?q36h0 ?q36hno ?q36hz ?q36hsz ?_ ?q36hs ?q36hg; (case q36F => k_asm); (case q36N => k_asm); (case q36t => exact Fr.tup (by k_asm) (by assumption)); (case q36pa => first | exact IsPart.none | exact IsPart.int _ _); (case q36pb => first | exact IsPart.none | exact IsPart.int _ _); (case q36pc => first | exact IsPart.none | exact IsPart.int _ _); (case q36h0 => rfl); (case q36hno => rfl); (case q36hz => with_unfolding_all first | exact (rfl : _ = []) | exact (rfl : _ = [_]) | exact (rfl : _ = [_, _]) | exact (rfl : _ = [_, _, _])); (case q36hsz => (rw [sizeLine_eq]; exact Nat.le_of_ble_eq_true rfl)); (case q36hs => with_unfolding_all rfl); (case q36hg => (intro _; with_unfolding_all rfl)); k_whole; intro r9 h9 F9 N9 l9; (try k_lt l9)))
  k_with "m_sub" => (intro q9 h9; simp only [List.mem_cons, List.mem_append, h9, true_or, or_true])
  k_with "m_rdsub" => (intro b o h; first | exact h | exact Or.inl h | (refine Or.elim h Or.inl (fun h => Or.inr ?_); simp only [List.mem_cons, List.mem_append, h, true_or, or_true]))
  k_with "m_rd" => first
      | exact Rd.int _ _ | exact Rd.str _ _ | exact Rd.bool _ | assumption
      | (refine' Rd.mono ?q39hs ?q39hv; (case q39hv => assumption); (case q39hs => walk_at "m_rdsub"))
      | (refine Rd.tuple (Or.inr (by k_mem)) ?_; walk_at "m_rds")
  k_with "m_rds" => first
      | exact RdAll.nil
      | ((refine RdAll.cons ?_ ?_); (walk_at "m_rd"); (walk_at "m_rds"))
  k_with "call builtin:len" => (k_dflt (refine' len_tupK ?q41k1 ?q41k2 ?q41k3 ?_; (case q41k1 => exact Fr.tup (by k_asm) (by assumption)); (case q41k2 => assumption); (case q41k3 => omega); k_whole))
  k_with "call type:range" => (k_dflt (first | (refine' range1_rows ?q42k1 ?q42k2 ?_; (case q42k1 => k_asm); (case q42k2 => k_asm); k_whole; intro h9 tk9 t9 u9 v9 hr9 F9 N9 hk9) | (refine' range2_rows ?q42k1 ?q42k2 ?_; (case q42k1 => k_asm); (case q42k2 => k_asm); k_whole; intro h9 tk9 t9 u9 v9 hr9 F9 N9 hk9)))
  k_with "subscriptTail Name Name ref int" => (k_dflt (refine' item_sym ?q43k1 ?q43k2 ?q43k3 ?q43k4 ?_; (case q43k1 => exact Fr.tup (by k_asm) (by assumption)); (case q43k4 => assumption); (case q43k2 => omega); (case q43k3 => omega); k_whole))
  k_with "compareOp Eq ref ref" => (k_dflt (refine' list_eq_nil ?y1N ?y1a ?y1b ?y1u ?_; (case y1N => k_asm); (case y1a => k_mem); (case y1b => k_mem); (case y1u => (show _ < 9900; (try dsimp only); omega)); k_whole))
  k_with "m_enterD" => (
      k_dflt (refine' enterC1 ?z3k4 ?z3k5 ?z3kH ?z3k6 ?z3k7 ?z3k8 ?z3k9 ?z3kB ?z3kD ?_ ?z3c2 ?z3c3 ?z3c4; (case z3kH => assumption); (case z3k4 => k_asm); (case z3k5 => k_asm); (case z3k6 => k_is); (case z3k7 => k_is); (case z3k8 => (simp only [recursionLimit]; omega)); (case z3k9 => exact BindsTo.of_eq rfl); (case z3kB => exact rfl); (case z3kD => decide +kernel); (case z3c2 => exact rfl); (case z3c3 => exact rfl); (case z3c4 => exact rfl); k_whole);
      rename Frag.In _ _ => xX; rename Top _ _ _ _ _ _ => xT; clear xX xT)
  k_with "m_enterB" => (
      k_dflt (refine' enterP1 ?z4k4 ?z4k5 ?z4kH ?z4k6 ?z4k7 ?z4k8 ?z4k9 ?z4kB ?_ ?z4c2 ?z4c3 ?z4c4 ?z4c5; (case z4kH => assumption); (case z4k4 => k_asm); (case z4k5 => k_asm); (case z4k6 => k_is); (case z4k7 => k_is); (case z4k8 => (simp only [recursionLimit]; omega)); (case z4k9 => exact BindsTo.of_eq rfl); (case z4c5 => decide); (case z4kB => exact locs rfl); (case z4c2 => exact rfl); (case z4c3 => exact rfl); (case z4c4 => exact rfl); k_whole);
      rename Frag.In _ _ => xX; rename Top _ _ _ _ _ _ => xT; clear xX xT)
  k_with "m_enterG" => (
      k_dflt (refine' enterG ?z5k4 ?z5k5 ?z5kH ?z5F ?z5N ?z5k6 ?z5k7 ?z5k8 ?z5k9 ?z5kB ?_ ?z5c2 ?z5c3 ?z5c4 ?z5c5; (case z5kH => assumption); (case z5F => assumption); (case z5N => assumption); (case z5k4 => k_asm); (case z5k5 => k_asm); (case z5k6 => k_is); (case z5k7 => k_is); (case z5k8 => (simp only [recursionLimit]; omega)); (case z5k9 => exact BindsTo.of_eq rfl); (case z5c5 => decide); (case z5kB => exact locs rfl); (case z5c2 => exact rfl); (case z5c3 => exact rfl); (case z5c4 => exact rfl); k_whole))
  k_with "m_enterGC" => (
      k_dflt (refine' enterGC ?z6k4 ?z6k5 ?z6kH ?z6F ?z6N ?z6k6 ?z6k7 ?z6k8 ?z6k9 ?z6kB ?z6kD ?_ ?z6c2 ?z6c3 ?z6c4; (case z6kH => assumption); (case z6F => assumption); (case z6N => assumption); (case z6k4 => k_asm); (case z6k5 => k_asm); (case z6k6 => k_is); (case z6k7 => k_is); (case z6k8 => (simp only [recursionLimit]; omega)); (case z6k9 => exact BindsTo.of_eq rfl); (case z6kB => exact rfl); (case z6kD => decide +kernel); (case z6c2 => exact rfl); (case z6c3 => exact rfl); (case z6c4 => exact rfl); k_whole))
  k_with "m_enterE" => (
      k_dflt (refine' enterE ?z8k4 ?z8k5 ?z8kH ?z8F ?z8N ?z8k6 ?z8k7 ?z8k8 ?z8k9 ?z8kB ?_ ?z8c2 ?z8c3 ?z8c4 ?z8c5; (case z8kH => assumption); (case z8F => assumption); (case z8N => assumption); (case z8k4 => k_asm); (case z8k5 => k_asm); (case z8k6 => k_is); (case z8k7 => k_is); (case z8k8 => (simp only [recursionLimit]; omega)); (case z8k9 => exact BindsTo.of_eq rfl); (case z8c5 => decide); (case z8kB => exact locs rfl); (case z8c2 => exact rfl); (case z8c3 => exact rfl); (case z8c4 => exact rfl); k_whole))
  k_with "m_enterEC" => (
      k_dflt (refine' enterEC ?z9k4 ?z9k5 ?z9kH ?z9F ?z9N ?z9k6 ?z9k7 ?z9k8 ?z9k9 ?z9kB ?z9kD ?_ ?z9c2 ?z9c3 ?z9c4; (case z9kH => assumption); (case z9F => assumption); (case z9N => assumption); (case z9k4 => k_asm); (case z9k5 => k_asm); (case z9k6 => k_is); (case z9k7 => k_is); (case z9k8 => (simp only [recursionLimit]; omega)); (case z9k9 => exact BindsTo.of_eq rfl); (case z9kB => exact rfl); (case z9kD => decide +kernel); (case z9c2 => exact rfl); (case z9c3 => exact rfl); (case z9c4 => exact rfl); k_whole))
  k_with "m_in" => first
    | with_reducible apply in_hd
    | (with_reducible apply in_l; walk_at "m_in")
    | (with_reducible apply in_r; walk_at "m_in")
    | (with_reducible apply in_tl; walk_at "m_in")
    | apply in_hd
    | assumption
  k_with "m_sub3" => first
    | with_reducible apply sub_id
    | (with_reducible apply sub_l; walk_at "m_sub3")
    | (with_reducible apply sub_r; walk_at "m_sub3")
    | (with_reducible apply sub_tl; walk_at "m_sub3")
  k_with "m_perm2" => ((repeat' (first | with_reducible apply sub_nil | with_reducible apply sub_app | with_reducible apply sub_cons)); all_goals (first | walk_at "m_in" | walk_at "m_sub3"))
  k_with "m_perm" => (intro p hp; simp only [List.cons_append, List.nil_append, List.append_assoc, List.append_nil, List.mem_cons, List.mem_append, List.not_mem_nil, or_false, or_assoc] at hp ⊢; (repeat' (first | (cases hp with | inl hp => ?_ | inr hp => ?_) | fail)); all_goals (repeat (first | apply hp | apply Or.inl hp | apply Or.inr)))
  k_with "m_notin" => first | exact notIn_of2 (by assumption) | (refine notIn_of ?_ ?_ ?_ ?_ ?_ <;> first | omega | assumption)
  k_with "m_off" => (refine Ap.all ?_; simp only [Ap, and_true]; omega)
  k_with "m_front" => first
    | assumption
    | exact rot2 (by assumption)
    | exact rot3 (by assumption)
    | exact rot4 (by assumption)
    | exact rot5 (by assumption)
    | exact rot6 (by assumption)
    | exact rot7 (by assumption)
    | exact rot8 (by assumption)
    | exact rot9 (by assumption)
  k_with "call builtin:list.append" => (k_dflt (refine' append_L ?zaF ?zaN ?zao ?zaz ?_; (case zaF => k_asm); (case zaN => walk_at "m_front"); (case zao => first | k_all | walk_at "m_off"); (case zaz => omega); k_whole; intro h9 F9 N9))
  k_with "compareOp NotIn int ref" => (k_dflt (refine' notin_L ?zbN ?zbm ?zbI ?_; (case zbN => k_asm); (case zbm => k_mem); (case zbI => assumption); k_whole))
  k_with "call builtin:len" => (k_dflt (refine' len_listK ?z7N ?z7l ?z7z ?_; (case z7N => k_asm); (case z7l => k_mem); (case z7z => omega); k_whole))
  trivial
theorem ite01 (c : Prop) [Decidable c] : (0 : Int) ≤ if c then 1 else 0 := by split <;> decide
theorem tailFront {h₀ h : Heap} {L : Addr} {news : List (Addr × Obj)} {x : Addr × Obj} (N : News h₀ L h ([] ++ (news ++ [x]))) : News h₀ L h (x :: news) := subN N fun p hp => by
  rcases List.mem_cons.mp hp with rfl | hp
  · exact List.mem_append_right _ (List.mem_append_right _ (.head _))
  · exact List.mem_append_right _ (List.mem_append_left _ hp)
theorem pool_ok {w : World} {mean : ExcName → Option Value} {mg mb : Str → Option Value} {H : Heap} (RT : Root w mean mg mb H) {dp un : Nat} {fr : Option (List Env)} {gd : Option (List Code)} (hdp : dp + 5 < 900) (hun : un + 100 < 9000)
    {h₀ : Heap} {L : Addr} {m : Str → Option Value} {s : Shared} {ls : Addr} {vs : List Value} {ns : List Int} {news : List (Addr × Obj)} (hH : H.StaysIn h₀) (F : Fr h₀ L s.heap m) (N : News h₀ L s.heap news) (hL : s.heap.IsList ls vs.toArray) (hI : IntsAre vs ns) (hz : ns.length ≤ 63) {Q E : Value → Shared → Prop}
    (hret : ∀ a o h' tk', SrcSt o → Fr h₀ L h' m → News h₀ L h' ((a, o) :: news) → (∀ p ∈ news, p.1 ≠ a) → Q (.ref a) { s with heap := h', toks := tk' }) :
    wpAny (model PySem.Challenge.rw_nu0043_01.row.prog w) (AA dp fr gd un) (call (.ref 140) [.ref ls]) Q E s := by
  obtain ⟨X, T⟩ := RT
  have N0 : News h₀ L s.heap [] := News.nil
  walk_at "m_enterE"
  intro L1 h1 tk1 g fr1 gd1 hg hHg F1 N1 hlt X1 T1
  clear X T N0
  have hgs : g = s.heap := hg
  have hLg : g.IsList ls vs.toArray := by rw [hgs]; exact hL
  have hvl := hI.length
  k_steps
  all_goals (
    rename Fr g _ _ _ => FF
    rename News g _ _ _ => NN
    obtain ⟨F2, N2, ne2, -⟩ := backE (ps := []) (ps' := []) (news := news) hg F N (fun _ _ h => by cases h) FF NN rfl (fun _ _ h => by cases h)
    have N3 := tailFront N2
    refine hret _ _ _ _ ?_ F2 N3 fun p hp => Ne.symm (ne2 p hp _ (.head _))
    refine ⟨_, _, _, _, 0, rfl, Int.mul_nonneg ?_ ?_, Int.fmod_nonneg_of_pos _ (by decide), Int.fmod_lt_of_pos _ (by decide)⟩
    · split <;> omega
    · exact ite01 _)
noncomputable def lawF (np : Pt (Nm × Nat)) (b : Nm × Nat) : List (Nm × Nat) := (np.pairs.filter fun q => decide (q.1 = b)).map fun q => q.2
noncomputable def lawC (np : Pt (Nm × Nat)) (i : Nat) : List (Nm × Nat × Nat) := clashes (np.edge true) ++ (np.pairs.take i).flatMap fun q => clashes (lawF np q.1)
theorem lawC_zero (np : Pt (Nm × Nat)) : lawC np 0 = clashes (np.edge true) := by simp [lawC]
theorem lawC_succ (np : Pt (Nm × Nat)) {i : Nat} {q : (Nm × Nat) × (Nm × Nat)} (h : np.pairs[i]? = some q) : lawC np (i + 1) = lawC np i ++ clashes (lawF np q.1) := by
  simp [lawC, List.take_add_one, h]
theorem mem_clashes {all : List (Nm × Nat)} {n : Nm} {j k : Nat} : (n, j, k) ∈ clashes all ↔ (n, j) ∈ all ∧ (n, k) ∈ all ∧ j < k := by
  simp only [clashes, clashes1, clfilter, List.mem_flatMap, List.mem_map, List.mem_filter, Bool.and_eq_true, decide_eq_true_eq, Prod.mk.injEq]
  constructor
  · rintro ⟨⟨n1, j1⟩, h1, ⟨n2, k2⟩, ⟨h2, e1, h3⟩, e2, e3, e4⟩
    dsimp only at *
    subst e2 e3 e4 e1
    exact ⟨h1, h2, h3⟩
  · rintro ⟨h1, h2, h3⟩
    exact ⟨(n, j), h1, (n, k), ⟨h2, rfl, h3⟩, rfl, rfl, rfl⟩
theorem mem_lawF {np : Pt (Nm × Nat)} {b q : Nm × Nat} : q ∈ lawF np b ↔ (b, q) ∈ np.pairs := by
  simp only [lawF, List.mem_map, List.mem_filter, decide_eq_true_eq]
  constructor
  · rintro ⟨⟨a, c⟩, ⟨h, e⟩, rfl⟩
    dsimp only at e
    rw [← e]; exact h
  · intro h
    exact ⟨(b, q), ⟨h, rfl⟩, rfl⟩
theorem mem_lawC {np : Pt (Nm × Nat)} {x : Nm × Nat × Nat} : x ∈ lawC np np.pairs.length ↔ x ∈ clashes (np.edge true) ∨ ∃ ab ∈ np.pairs, x ∈ clashes (lawF np ab.1) := by
  rw [lawC, List.take_length, List.mem_append, List.mem_flatMap]
theorem inv0 : Inv ⟨[], []⟩ := ⟨rfl, fun _ h => (by cases h)⟩
theorem G_mem {fs : List (List Int)} {l : List Int} (h : l ∈ fs) : ∃ i, fs[i]? = some l ∧ ∀ x, x ∈ l ↔ G fs i x := by
  obtain ⟨i, hi⟩ := List.mem_iff_getElem?.mp h
  refine ⟨i, hi, fun x => ⟨fun hx => ⟨l, hi, hx⟩, ?_⟩⟩
  rintro ⟨l', h1, h2⟩
  rw [hi] at h1
  cases h1
  exact h2
theorem G_nil {i : Nat} {x : Int} : G [] i x ↔ False := by simp [G]
theorem plain_none (p : Pt Nm) (_hok : p.ok) (h : clashAll (nmOf (readF p ⟨[], []⟩).2.names) ((readF p ⟨[], []⟩).1.2.1 :: (readF p ⟨[], []⟩).2.fol) = none) : lawC (p.number 1).1 (p.number 1).1.pairs.length = [] := by
  have sp := readF_spec p ⟨[], []⟩ inv0
  have ok := readF_ok p ⟨[], []⟩ inv0
  have hn := clashAll_noneI h
  rw [List.eq_nil_iff_forall_not_mem]
  rintro ⟨n, j, k⟩ hm
  have se : (⟨[], []⟩ : St).names.length + 1 = 1 := rfl
  rw [se] at sp
  rcases mem_lawC.mp hm with hm | ⟨ab, hab, hm⟩
  · obtain ⟨h1, h2, h3⟩ := mem_clashes.mp hm
    have k1 := (nm_of_place p (edge_places true _ _ (Nat.lt_succ_self _) _ h1)).2
    have k2 := (nm_of_place p (edge_places true _ _ (Nat.lt_succ_self _) _ h2)).2
    have z := (clashRow_none _ _ _ ok.2.2.1.1 (hn _ (by simp))).1 (j : Int) ((sp.fst _).mpr ⟨_, h1, rfl⟩) (k : Int) ((sp.fst _).mpr ⟨_, h2, rfl⟩) (by omega)
    exact z (k1.trans k2.symm)
  · obtain ⟨h1, h2, h3⟩ := mem_clashes.mp hm
    rw [mem_lawF] at h1 h2
    obtain ⟨q1, q2⟩ := pairs_places _ _ (Nat.lt_succ_self _) _ h1
    obtain ⟨-, q3⟩ := pairs_places _ _ (Nat.lt_succ_self _) _ h2
    have k0 := (nm_of_place p q1).1
    have k1 := (nm_of_place p q2).2
    have k2 := (nm_of_place p q3).2
    dsimp only at k0 k1 k2
    have g1 : G (readF p ⟨[], []⟩).2.fol (ab.1.2 - 1) (j : Int) := (sp.fol _ _).mpr (.inr ⟨_, h1, by dsimp only; omega, rfl⟩)
    have g2 : G (readF p ⟨[], []⟩).2.fol (ab.1.2 - 1) (k : Int) := (sp.fol _ _).mpr (.inr ⟨_, h2, by dsimp only; omega, rfl⟩)
    obtain ⟨l, hl, hj⟩ := g1
    obtain ⟨l', hl', hk⟩ := g2
    rw [hl] at hl'
    cases hl'
    have hlm := List.mem_of_getElem? hl
    have z := (clashRow_none _ _ _ (ok.2.1.2 l hlm).1 (hn _ (by simp [hlm]))).1 (j : Int) hj (k : Int) hk (by omega)
    exact z (k1.trans k2.symm)
theorem plain_some (p : Pt Nm) (_hok : p.ok) {nm : Nm} {x y : Int} (h : clashAll (nmOf (readF p ⟨[], []⟩).2.names) ((readF p ⟨[], []⟩).1.2.1 :: (readF p ⟨[], []⟩).2.fol) = some (nm, x, y)) : ∃ j k : Nat, x = (j : Int) ∧ y = (k : Int) ∧ (nm, j, k) ∈ lawC (p.number 1).1 (p.number 1).1.pairs.length := by
  have sp := readF_spec p ⟨[], []⟩ inv0
  have ok := readF_ok p ⟨[], []⟩ inv0
  have se : (⟨[], []⟩ : St).names.length + 1 = 1 := rfl
  rw [se] at sp
  obtain ⟨l, hl, hr⟩ := clashAll_someI h
  rcases List.mem_cons.mp hl with rfl | hl
  · obtain ⟨e1, e2, e3, e4, e5⟩ := clashRow_some _ _ [] (fun _ h => (by cases h)) ok.2.2.1.1 (fun _ h => (by cases h)) hr
    have e5 := e5.resolve_right (by simp)
    obtain ⟨⟨n1, j⟩, h1, rfl⟩ := (sp.fst _).mp e5
    obtain ⟨⟨n2, k⟩, h2, rfl⟩ := (sp.fst _).mp e4
    have k1 := (nm_of_place p (edge_places true _ _ (Nat.lt_succ_self _) _ h1)).2
    have k2 := (nm_of_place p (edge_places true _ _ (Nat.lt_succ_self _) _ h2)).2
    dsimp only at *
    have z1 : n1 = nm := (e1.trans k1).symm
    have z2 : n2 = nm := (e2.trans k2).symm
    subst z1
    subst z2
    exact ⟨j, k, rfl, rfl, mem_lawC.mpr (.inl (mem_clashes.mpr ⟨h1, h2, by omega⟩))⟩
  · obtain ⟨e1, e2, e3, e4, e5⟩ := clashRow_some _ _ [] (fun _ h => (by cases h)) (ok.2.1.2 l hl).1 (fun _ h => (by cases h)) hr
    have e5 := e5.resolve_right (by simp)
    obtain ⟨i, hi, hG⟩ := G_mem hl
    obtain ⟨⟨⟨na, a⟩, ⟨n1, j⟩⟩, h1, ha, rfl⟩ := ((sp.fol _ _).mp ((hG _).mp e5)).resolve_left (fun h => G_nil.mp h)
    obtain ⟨⟨⟨nb, b⟩, ⟨n2, k⟩⟩, h2, hb, rfl⟩ := ((sp.fol _ _).mp ((hG _).mp e4)).resolve_left (fun h => G_nil.mp h)
    obtain ⟨q1, q2⟩ := pairs_places _ _ (Nat.lt_succ_self _) _ h1
    obtain ⟨q3, q4⟩ := pairs_places _ _ (Nat.lt_succ_self _) _ h2
    have k1 := (nm_of_place p q2).2
    have k2 := (nm_of_place p q4).2
    have k3 := (nm_of_place p q1).2
    have k4 := (nm_of_place p q3).2
    dsimp only at *
    have hab : b = a := hb.trans ha.symm
    subst hab
    have z0 : na = nb := k3.symm.trans k4
    subst z0
    have z1 : n1 = nm := (e1.trans k1).symm
    have z2 : n2 = nm := (e2.trans k2).symm
    subst z1
    subst z2
    exact ⟨j, k, rfl, rfl, mem_lawC.mpr (.inr ⟨_, h1, mem_clashes.mpr ⟨mem_lawF.mpr h1, mem_lawF.mpr h2, by omega⟩⟩)⟩
theorem words_law : True := by
  w_top off
  k_with_none
  k_with "m_enter" => (
      refine wpAny_call ?_;
      k_dflt (refine' enterP0 ?q0k4 ?q0k5 ?q0kH ?q0k6 ?q0k7 ?q0k8 ?q0k9 ?q0kB ?_ ?q0c2 ?q0c3 ?q0c4 ?q0c5; (case q0kH => assumption); (case q0k4 => k_asm); (case q0k5 => k_asm); (case q0k6 => k_is); (case q0k7 => k_is); (case q0k8 => (simp only [recursionLimit]; omega)); (case q0k9 => exact BindsTo.of_eq rfl); (case q0c5 => decide); (case q0kB => exact locs rfl); (case q0c2 => exact rfl); (case q0c3 => exact rfl); (case q0c4 => exact rfl); k_whole);
      rename Frag.In _ _ => xX; rename Top _ _ _ _ _ _ => xT; clear xX xT;
      intro L' h' tk' F' N' X' T'; (try dsimp only); (try k_fold))
  k_with "m_enter0" => (
      refine wpAny_call ?_;
      k_dflt (refine' enterP0 ?q1k4 ?q1k5 ?q1kH ?q1k6 ?q1k7 ?q1k8 ?q1k9 ?q1kB ?_ ?q1c2 ?q1c3 ?q1c4 ?q1c5; (case q1kH => assumption); (case q1k4 => k_asm); (case q1k5 => k_asm); (case q1k6 => k_is); (case q1k7 => k_is); (case q1k8 => (simp only [recursionLimit]; omega)); (case q1k9 => exact BindsTo.of_eq rfl); (case q1c5 => decide); (case q1kB => exact locs rfl); (case q1c2 => exact rfl); (case q1c3 => exact rfl); (case q1c4 => exact rfl); k_whole);
      rename Frag.In _ _ => xX; rename Top _ _ _ _ _ _ => xT; clear xX xT)
  k_with "m_enterC" => (
      refine wpAny_call ?_;
      k_dflt (refine' enterC0 ?q2k4 ?q2k5 ?q2kH ?q2k6 ?q2k7 ?q2k8 ?q2k9 ?q2kB ?q2kD ?_ ?q2c2 ?q2c3 ?q2c4; (case q2kH => assumption); (case q2k4 => k_asm); (case q2k5 => k_asm); (case q2k6 => k_is); (case q2k7 => k_is); (case q2k8 => (simp only [recursionLimit]; omega)); (case q2k9 => exact BindsTo.of_eq rfl); (case q2kB => exact rfl); (case q2kD => decide +kernel); (case q2c2 => exact rfl); (case q2c3 => exact rfl); (case q2c4 => exact rfl); k_whole);
      rename Frag.In _ _ => xX; rename Top _ _ _ _ _ _ => xT; clear xX xT;
      intro L' h' tk' cells' F' N' Y' X' T'; k_cells Y'; (try simp only [List.cons_append, List.nil_append] at N'); (try dsimp only); (try k_fold))
  k_with "m_enterC0" => (
      refine wpAny_call ?_;
      k_dflt (refine' enterC0 ?q3k4 ?q3k5 ?q3kH ?q3k6 ?q3k7 ?q3k8 ?q3k9 ?q3kB ?q3kD ?_ ?q3c2 ?q3c3 ?q3c4; (case q3kH => assumption); (case q3k4 => k_asm); (case q3k5 => k_asm); (case q3k6 => k_is); (case q3k7 => k_is); (case q3k8 => (simp only [recursionLimit]; omega)); (case q3k9 => exact BindsTo.of_eq rfl); (case q3kB => exact rfl); (case q3kD => decide +kernel); (case q3c2 => exact rfl); (case q3c3 => exact rfl); (case q3c4 => exact rfl); k_whole);
      rename Frag.In _ _ => xX; rename Top _ _ _ _ _ _ => xT; clear xX xT)
  k_with "call ref" => k_dflt (k_extra "m_call")
  k_with "exec Assign cons ListComp" => (k_dflt (refine' comp_assign ?q5kF (emitOne _) ?q5k0 ?q5k1 ?q5k2 ?q5k3 ?q5k4 ?q5k5 ?q5k6 ?q5k7 ?q5k8 ?_; (case q5kF => k_asm); (case q5k0 => exact rfl); (case q5k1 => (intros; rfl)); (case q5k2 => exact rfl); (case q5k3 => with_unfolding_all rfl); (case q5k4 => decide); (case q5k5 => exact rfl); (case q5k6 => decide); (case q5k7 => exact rfl); (case q5k8 => exact rfl); k_whole))
  k_with "eval ListComp" => (k_dflt (refine' comp_eval ?q6kF (emitOne _) ?q6k1 ?q6k3 ?q6k4 ?q6k5 ?q6k6 ?_; (case q6kF => k_asm); (case q6k1 => (intros; rfl)); (case q6k3 => with_unfolding_all rfl); (case q6k4 => decide); (case q6k5 => exact rfl); (case q6k6 => decide); k_whole))
  k_with "exec For Name Subscript cons nil" => (k_dflt (refine' for_rule ?q7kF ?_; (case q7kF => k_asm); k_whole))
  k_with "exec For Name Name cons nil" => (k_dflt (refine' for_rule ?q8kF ?_; (case q8kF => k_asm); k_whole))
  k_with "exec For Name IfExp cons nil" => (k_dflt (refine' for_rule ?q9kF ?_; (case q9kF => k_asm); k_whole))
  k_with "exec For Name Call cons nil" => (k_dflt (refine' for_rule ?q10kF ?_; (case q10kF => k_asm); k_whole))
  k_with "exec For Name ListComp cons nil" => (k_dflt (refine' for_rule ?q11kF ?_; (case q11kF => k_asm); k_whole))
  k_with "exec For Tuple Name cons nil" => (k_dflt (refine' for_rule ?q12kF ?_; (case q12kF => k_asm); k_whole))
  k_with "FSrc" => k_dflt (k_extra "m_fsrc")
  k_with "FRest" => k_dflt (k_extra "m_frest")
  k_with "FEnd" => k_dflt (k_extra "m_fend")
  k_with "CSrc" => k_dflt (k_extra "m_src")
  k_with "CRest" => k_dflt (k_extra "m_rest")
  k_with "CEnd" => k_dflt (k_extra "m_cend")
  k_with "FinA" => (unfold FinA; intro h9 tk9 F9 N9 ne9; (try rw [lst_eq] at N9))
  k_with "FinE" => (unfold FinE; intro h9 tk9 F9 N9 ne9; (try rw [lst_eq] at N9))
  k_with "execs cons Assign cons" => refine wpAny_execs_cons ?_
  k_with "execs cons Assign nil" => refine wpAny_execs_cons ?_
  k_with "execs cons If cons" => refine wpAny_execs_cons ?_
  k_with "execs cons If nil" => refine wpAny_execs_cons ?_
  k_with "execs cons For cons" => refine wpAny_execs_cons ?_
  k_with "execs cons For nil" => refine wpAny_execs_cons ?_
  k_with "execs cons Return cons" => refine wpAny_execs_cons ?_
  k_with "execs cons Return nil" => refine wpAny_execs_cons ?_
  k_with "execs cons Expr cons" => refine wpAny_execs_cons ?_
  k_with "execs cons Expr nil" => refine wpAny_execs_cons ?_
  k_with "ite" => first | (rw [if_neg (by decide +kernel)]) | (rw [if_pos (by decide +kernel)])
  k_with "subscriptTail Name Constant ref int" => (k_dflt (refine' item_tupleT ?q32k1 ?q32k2 ?q32k3 ?q32k4 ?q32k5 ?_; (case q32k1 => exact Fr.tup (by k_asm) (by assumption)); (case q32k2 => decide); (case q32k3 => decide); (case q32k4 => rfl); (case q32k5 => rfl); k_whole))
  k_with "eval Name" => (k_dflt (refine' nameX_L ?q33k1 ?q33k2 ?_; (case q33k1 => k_asm); (case q33k2 => first | exact rfl | assumption); k_whole))
  k_with "binaryOp Add ref ref" => (k_dflt (refine' my_add ?q34F ?q34N ?q34a ?q34b ?q34z ?_; (case q34F => k_asm); (case q34N => k_asm); (case q34a => k_mem); (case q34b => k_mem); (case q34z => (rw [sizeLine_eq]; (try simp only [List.length_append, List.length_nil, List.length_cons]); omega)); k_whole; intro r9 h9 F9 N9 l9; (try k_lt l9)))
  k_with "subscriptTail Subscript" => (k_dflt (refine kba_turn (value' := PySem.Expr.Name (PySem.Str.ofString "_") ⟨0, 0, 0, 0⟩) (fun _ => rfl) ?_))
  k_with "subscriptTail Name Slice ref ref" => (k_dflt (refine' slice_tuple ?q36F ?q36N ?q36t ?q36pa ?q36pb ?q36pc ?q36h0 ?q36hno ?q36hz ?q36hsz ?_ ?q36hs ?q36hg; (case q36F => k_asm); (case q36N => k_asm); (case q36t => exact Fr.tup (by k_asm) (by assumption)); (case q36pa => first | exact IsPart.none | exact IsPart.int _ _); (case q36pb => first | exact IsPart.none | exact IsPart.int _ _); (case q36pc => first | exact IsPart.none | exact IsPart.int _ _); (case q36h0 => rfl); (case q36hno => rfl); (case q36hz => with_unfolding_all first | exact (rfl : _ = []) | exact (rfl : _ = [_]) | exact (rfl : _ = [_, _]) | exact (rfl : _ = [_, _, _])); (case q36hsz => (rw [sizeLine_eq]; exact Nat.le_of_ble_eq_true rfl)); (case q36hs => with_unfolding_all rfl); (case q36hg => (intro _; with_unfolding_all rfl)); k_whole; intro r9 h9 F9 N9 l9; (try k_lt l9)))
  k_with "m_sub" => (intro q9 h9; simp only [List.mem_cons, List.mem_append, h9, true_or, or_true])
  k_with "m_rdsub" => (intro b o h; first | exact h | exact Or.inl h | (refine Or.elim h Or.inl (fun h => Or.inr ?_); simp only [List.mem_cons, List.mem_append, h, true_or, or_true]))
  k_with "m_rd" => first
      | exact Rd.int _ _ | exact Rd.str _ _ | exact Rd.bool _ | assumption
      | (refine' Rd.mono ?q39hs ?q39hv; (case q39hv => assumption); (case q39hs => walk_at "m_rdsub"))
      | (refine Rd.tuple (Or.inr (by k_mem)) ?_; walk_at "m_rds")
  k_with "m_rds" => first
      | exact RdAll.nil
      | ((refine RdAll.cons ?_ ?_); (walk_at "m_rd"); (walk_at "m_rds"))
  k_with "call builtin:len" => (k_dflt (refine' len_tupK ?q41k1 ?q41k2 ?q41k3 ?_; (case q41k1 => exact Fr.tup (by k_asm) (by assumption)); (case q41k2 => assumption); (case q41k3 => omega); k_whole))
  k_with "call type:range" => (k_dflt (first | (refine' range1_rows ?q42k1 ?q42k2 ?_; (case q42k1 => k_asm); (case q42k2 => k_asm); k_whole; intro h9 tk9 t9 u9 v9 hr9 F9 N9 hk9) | (refine' range2_rows ?q42k1 ?q42k2 ?_; (case q42k1 => k_asm); (case q42k2 => k_asm); k_whole; intro h9 tk9 t9 u9 v9 hr9 F9 N9 hk9)))
  k_with "subscriptTail Name Name ref int" => (k_dflt (refine' item_sym ?q43k1 ?q43k2 ?q43k3 ?q43k4 ?_; (case q43k1 => exact Fr.tup (by k_asm) (by assumption)); (case q43k4 => assumption); (case q43k2 => omega); (case q43k3 => omega); k_whole))
  k_with "compareOp Eq ref ref" => (k_dflt (refine' list_eq_nil ?y1N ?y1a ?y1b ?y1u ?_; (case y1N => k_asm); (case y1a => k_mem); (case y1b => k_mem); (case y1u => (show _ < 9900; (try dsimp only); omega)); k_whole))
  k_with "m_enterD" => (
      k_dflt (refine' enterC1 ?z3k4 ?z3k5 ?z3kH ?z3k6 ?z3k7 ?z3k8 ?z3k9 ?z3kB ?z3kD ?_ ?z3c2 ?z3c3 ?z3c4; (case z3kH => assumption); (case z3k4 => k_asm); (case z3k5 => k_asm); (case z3k6 => k_is); (case z3k7 => k_is); (case z3k8 => (simp only [recursionLimit]; omega)); (case z3k9 => exact BindsTo.of_eq rfl); (case z3kB => exact rfl); (case z3kD => decide +kernel); (case z3c2 => exact rfl); (case z3c3 => exact rfl); (case z3c4 => exact rfl); k_whole);
      rename Frag.In _ _ => xX; rename Top _ _ _ _ _ _ => xT; clear xX xT)
  k_with "m_enterB" => (
      k_dflt (refine' enterP1 ?z4k4 ?z4k5 ?z4kH ?z4k6 ?z4k7 ?z4k8 ?z4k9 ?z4kB ?_ ?z4c2 ?z4c3 ?z4c4 ?z4c5; (case z4kH => assumption); (case z4k4 => k_asm); (case z4k5 => k_asm); (case z4k6 => k_is); (case z4k7 => k_is); (case z4k8 => (simp only [recursionLimit]; omega)); (case z4k9 => exact BindsTo.of_eq rfl); (case z4c5 => decide); (case z4kB => exact locs rfl); (case z4c2 => exact rfl); (case z4c3 => exact rfl); (case z4c4 => exact rfl); k_whole);
      rename Frag.In _ _ => xX; rename Top _ _ _ _ _ _ => xT; clear xX xT)
  k_with "m_enterG" => (
      k_dflt (refine' enterG ?z5k4 ?z5k5 ?z5kH ?z5F ?z5N ?z5k6 ?z5k7 ?z5k8 ?z5k9 ?z5kB ?_ ?z5c2 ?z5c3 ?z5c4 ?z5c5; (case z5kH => assumption); (case z5F => assumption); (case z5N => assumption); (case z5k4 => k_asm); (case z5k5 => k_asm); (case z5k6 => k_is); (case z5k7 => k_is); (case z5k8 => (simp only [recursionLimit]; omega)); (case z5k9 => exact BindsTo.of_eq rfl); (case z5c5 => decide); (case z5kB => exact locs rfl); (case z5c2 => exact rfl); (case z5c3 => exact rfl); (case z5c4 => exact rfl); k_whole))
  k_with "m_enterGC" => (
      k_dflt (refine' enterGC ?z6k4 ?z6k5 ?z6kH ?z6F ?z6N ?z6k6 ?z6k7 ?z6k8 ?z6k9 ?z6kB ?z6kD ?_ ?z6c2 ?z6c3 ?z6c4; (case z6kH => assumption); (case z6F => assumption); (case z6N => assumption); (case z6k4 => k_asm); (case z6k5 => k_asm); (case z6k6 => k_is); (case z6k7 => k_is); (case z6k8 => (simp only [recursionLimit]; omega)); (case z6k9 => exact BindsTo.of_eq rfl); (case z6kB => exact rfl); (case z6kD => decide +kernel); (case z6c2 => exact rfl); (case z6c3 => exact rfl); (case z6c4 => exact rfl); k_whole))
  k_with "m_enterE" => (
      k_dflt (refine' enterE ?z8k4 ?z8k5 ?z8kH ?z8F ?z8N ?z8k6 ?z8k7 ?z8k8 ?z8k9 ?z8kB ?_ ?z8c2 ?z8c3 ?z8c4 ?z8c5; (case z8kH => assumption); (case z8F => assumption); (case z8N => assumption); (case z8k4 => k_asm); (case z8k5 => k_asm); (case z8k6 => k_is); (case z8k7 => k_is); (case z8k8 => (simp only [recursionLimit]; omega)); (case z8k9 => exact BindsTo.of_eq rfl); (case z8c5 => decide); (case z8kB => exact locs rfl); (case z8c2 => exact rfl); (case z8c3 => exact rfl); (case z8c4 => exact rfl); k_whole))
  k_with "m_enterEC" => (
      k_dflt (refine' enterEC ?z9k4 ?z9k5 ?z9kH ?z9F ?z9N ?z9k6 ?z9k7 ?z9k8 ?z9k9 ?z9kB ?z9kD ?_ ?z9c2 ?z9c3 ?z9c4; (case z9kH => assumption); (case z9F => assumption); (case z9N => assumption); (case z9k4 => k_asm); (case z9k5 => k_asm); (case z9k6 => k_is); (case z9k7 => k_is); (case z9k8 => (simp only [recursionLimit]; omega)); (case z9k9 => exact BindsTo.of_eq rfl); (case z9kB => exact rfl); (case z9kD => decide +kernel); (case z9c2 => exact rfl); (case z9c3 => exact rfl); (case z9c4 => exact rfl); k_whole))
  k_with "m_in" => first
    | with_reducible apply in_hd
    | (with_reducible apply in_l; walk_at "m_in")
    | (with_reducible apply in_r; walk_at "m_in")
    | (with_reducible apply in_tl; walk_at "m_in")
    | apply in_hd
    | assumption
  k_with "m_sub3" => first
    | with_reducible apply sub_id
    | (with_reducible apply sub_l; walk_at "m_sub3")
    | (with_reducible apply sub_r; walk_at "m_sub3")
    | (with_reducible apply sub_tl; walk_at "m_sub3")
  k_with "m_perm2" => ((repeat' (first | with_reducible apply sub_nil | with_reducible apply sub_app | with_reducible apply sub_cons)); all_goals (first | walk_at "m_in" | walk_at "m_sub3"))
  k_with "m_perm" => (intro p hp; simp only [List.cons_append, List.nil_append, List.append_assoc, List.append_nil, List.mem_cons, List.mem_append, List.not_mem_nil, or_false, or_assoc] at hp ⊢; (repeat' (first | (cases hp with | inl hp => ?_ | inr hp => ?_) | fail)); all_goals (repeat (first | apply hp | apply Or.inl hp | apply Or.inr)))
  k_with "m_notin" => first | exact notIn_of2 (by assumption) | (refine notIn_of ?_ ?_ ?_ ?_ ?_ <;> first | omega | assumption)
  k_with "m_off" => (refine Ap.all ?_; simp only [Ap, and_true]; omega)
  k_with "m_front" => first
    | assumption
    | exact rot2 (by assumption)
    | exact rot3 (by assumption)
    | exact rot4 (by assumption)
    | exact rot5 (by assumption)
    | exact rot6 (by assumption)
    | exact rot7 (by assumption)
    | exact rot8 (by assumption)
    | exact rot9 (by assumption)
  k_with "call builtin:list.append" => (k_dflt (refine' append_L ?zaF ?zaN ?zao ?zaz ?_; (case zaF => k_asm); (case zaN => walk_at "m_front"); (case zao => first | k_all | walk_at "m_off"); (case zaz => omega); k_whole; intro h9 F9 N9))
  k_with "compareOp NotIn int ref" => (k_dflt (refine' notin_L ?zbN ?zbm ?zbI ?_; (case zbN => k_asm); (case zbm => k_mem); (case zbI => assumption); k_whole))
  k_with "call builtin:len" => (k_dflt (refine' len_listK ?z7N ?z7l ?z7z ?_; (case z7N => k_asm); (case z7l => k_mem); (case z7z => omega); k_whole))
  trivial
noncomputable abbrev B193 : List Stmt := fnBody (.mk : IsFn (stmtAt 15) _ _ _)
noncomputable abbrev S193 : Scope := fnScope (.mk : IsFn (stmtAt 15) _ _ _)
theorem stays_refl {h : Heap} : h.StaysIn h := fun _ _ e => e
theorem clashes_len (l : List (Nm × Nat)) : (clashes l).length ≤ l.length * l.length := by
  have h : ∀ (xs : List (Nm × Nat)), (xs.flatMap (clashes1 l)).length ≤ xs.length * l.length := by
    intro xs
    induction xs with
    | nil => simp
    | cons x xs ih =>
      have h1 : (clashes1 l x).length ≤ l.length := by
        rw [clashes1, clfilter, List.length_map]; exact List.length_filter_le ..
      rw [List.flatMap_cons, List.length_append, List.length_cons, Nat.add_mul]
      omega
  exact h l
theorem lawF_len (np : Pt (Nm × Nat)) (b : Nm × Nat) : (lawF np b).length ≤ np.pairs.length := by
  rw [lawF, List.length_map]; exact List.length_filter_le ..
theorem lawC_len (np : Pt (Nm × Nat)) (h1 : np.pairs.length ≤ 225) (h2 : (np.edge true).length ≤ 9) : ∀ i, i ≤ np.pairs.length → (lawC np i).length ≤ 81 + i * 50625 := by
  intro i
  induction i with
  | zero =>
    intro _
    rw [lawC_zero]
    have := clashes_len (np.edge true)
    have := Nat.mul_le_mul h2 h2
    omega
  | succ i ih =>
    intro hi
    have hq : np.pairs[i]? = some np.pairs[i] := List.getElem?_eq_getElem (by omega)
    rw [lawC_succ np hq, List.length_append]
    have h3 := clashes_len (lawF np np.pairs[i].1)
    have h4 := lawF_len np np.pairs[i].1
    have h5 : (lawF np np.pairs[i].1).length ≤ 225 := by omega
    have := Nat.mul_le_mul h5 h5
    have := ih (by omega)
    omega
inductive LawJ (L : Addr) (np : Pt (Nm × Nat)) (T : List (Addr × Obj)) (D9 : Addr) (ys : List Value) (v : Value) (ap : Addr) : Nat → (Str → Option Value) → List (Addr × Obj) → Prop
  | mk {i : Nat} {m : Str → Option Value} (oB' : Obj) (x : Option Value) (lc : Addr) (vc : List Value) (nc : Nat) (T' : List (Addr × Obj)) : oB'.data = .cell x → (∀ q ∈ T, q ∈ T') → (D9, lstO ys ys.length) ∈ T' → (lc, lstO vc nc) ∈ T' → RdAll (fun b o => (b, o) ∈ T') vc ((lawC np i).map enc3) → (∀ q ∈ T', q.1 ≠ L + 1) →
      m "particle" = some v → m "pairs" = some (.ref ap) → m "clashes" = some (.ref lc) → LawJ L np T D9 ys v ap i m ((L + 1, oB') :: T')
theorem law_walk {w : World} {mean : ExcName → Option Value} {mg mb : Str → Option Value} {H : Heap} (RT : Root w mean mg mb H) {dp un : Nat} {fr : Option (List Env)} {gd : Option (List Code)} (hdp : dp ≤ 310) (hun : un ≤ 100) {fa : Addr} {cd : Value} {L : Addr} {s : Shared} {m : Str → Option Value} {oB : Obj} {ls : Addr} {vs : List Value} {ns : List Int}
    (F : Fr H L s.heap m) (N : News H L s.heap [(L + 1, oB)]) (dB : oB.data = .cell none) (hm : m "script" = some (.ref ls)) (hL : H.IsList ls vs.toArray) (hI : IntsAre vs ns) (hz : ns.length ≤ 63) {Q : Flow → Shared → Prop}
    (hret : ∀ h tk m', Fr H L h m' → Q (.ret (.bool true)) { s with heap := h, toks := tk }) :
    wpAny (model PySem.Challenge.rw_nu0043_01.row.prog w) (AA dp fr gd un) (execs B193 (envOfC "law" S193 L fa cd)) Q NoE s := by
  have RT0 := RT
  obtain ⟨X, T⟩ := RT
  dsimp only [B193, fnBody, S193, fnScope]
  k_steps
  refine pool_ok RT0 (by omega) (by omega) (news := [(L + 1, oB)]) stays_refl (by k_asm) (by k_asm) (Fr.lst (by k_asm) hL) hI hz ?_
  intro a2 o2 h2 tk2 S2 F2 N2 ne2
  k_steps
  rename Fr H _ _ _ => F3
  rename News H _ _ _ => N3
  refine particle_ok RT0 2 (Nat.le_refl _) _ _ _ _ _ _ _ _ _ _ _ _ _ _ _ (by omega) (by omega) stays_refl F3 N3 S2 ne2 rfl ?_
  intro v p tl o4 h4 tk4 hok hht hrd F4 N4 ne4 S4
  replace N4 : News H L h4 ((L + 1, oB) :: tl) := subN N4 fun q hq => .tail _ hq
  replace ne4 : ∀ q ∈ tl, q.1 ≠ L + 1 := fun q hq => ne4 (L + 1, oB) (.tail _ (.head _)) q hq
  clear N3 F3 S4 S2 o4
  k_steps
  rename Fr H _ _ _ => F5
  rename News H _ _ _ => N5
  refine Pure.use (numbered_pure RT0 _ p (Nat.lt_succ_self _) hok 1) (D := fun b o => (b, o) ∈ tl) (RdAll.cons hrd (RdAll.one' (Rd.int _ _))) (by omega) (by omega) stays_refl F5 N5 (fun b o h => (N5 _ (.tail _ h)).1) ?_
  intro r6 tl6 h6 tk6 F6 N6 ne6 st6 ho6
  obtain ⟨a6, vs6, n6, rfl, hm6, hvs6⟩ := ho6.list_inv
  obtain ⟨v6, t6, rfl, hv6⟩ := hvs6.two_int
  have hx6 : [v6, Value.int ((p.number 1).2 : Nat) t6][(0 : Int).toNat]? = some v6 := rfl
  k_steps
  rename News H _ _ _ => N6'
  refine' item_symL N6' ?hm6 (by decide) (by decide) hx6 ?_ ?hs6
  case hm6 => exact List.mem_append_right _ hm6
  case hs6 => with_unfolding_all rfl
  have npok := number_ok p 1 hok
  have nph := number_height p 1
  have npl := number_leaves p 1
  have hl9 : p.leaves ≤ 9 := leaves_le 2 p hht hok
  have ne6' : ∀ q ∈ tl6, q.1 ≠ L + 1 := fun q hq => ne6 (L + 1, oB) (.head _) q hq
  have hm6' : ∀ q ∈ tl ++ tl6, q.1 ≠ L + 1 := List.forall_mem_append.mpr ⟨ne4, ne6'⟩
  have hrd6 : Rd (fun b o => (b, o) ∈ tl ++ tl6) v (p.data enc1) := hrd.mono fun _ _ h => List.mem_append_left _ h
  have hv6' : Rd (fun b o => (b, o) ∈ tl ++ tl6) v6 ((p.number 1).1.data enc2) := hv6.mono fun _ _ h => h.elim (List.mem_append_left _) (List.mem_append_right _)
  rw [List.cons_append] at N6'
  generalize hnp : (p.number 1).1 = np at *
  generalize tl ++ tl6 = T6 at *
  clear hx6 hvs6 hv6 hm6 ho6 hrd ne6 ne6' ne4
  k_steps
  rename Fr H _ _ _ => F7
  rename News H _ _ _ => N7
  refine Pure.use (edge_pure RT0 enc2 _ np (Nat.lt_succ_self _) npok (by omega) true) (D := fun b o => (b, o) ∈ T6) (RdAll.cons hv6' (RdAll.one' (Rd.bool true))) (by omega) (by omega) stays_refl F7 N7 (fun b o h => (N7 _ (.tail _ h)).1) ?_
  intro r8 tl8 h8 tk8 F8 N8 ne8 st8 ho8
  obtain ⟨a8, vs8, n8, rfl, hm8, hvs8⟩ := ho8.list_inv
  have hEl := Pt.edge_len true _ np (Nat.lt_succ_self _)
  k_steps
  rename Fr H _ _ _ => F9
  rename News H _ _ _ => N9
  refine Pure.use (clashes_pure RT0 (np.edge true) (by omega)) (D := fun b o => (b, o) ∈ T6 ++ tl8) (RdAll.one' (Rd.list (List.mem_append_right _ hm8) (toT hvs8))) (by omega) (by omega) stays_refl F9 N9 (fun b o h => (N9 _ (.tail _ h)).1) ?_
  intro r10 tl10 h10 tk10 F10 N10 ne10 st10 ho10
  obtain ⟨lc, vc, nc, rfl, hmc, hvc⟩ := ho10.list_inv
  k_steps
  rename Fr H _ _ _ => F11
  rename News H _ _ _ => N11
  have ne8' : ∀ q ∈ tl8, q.1 ≠ L + 1 := fun q hq => ne8 (L + 1, oB) (.head _) q hq
  have ne10' : ∀ q ∈ tl10, q.1 ≠ L + 1 := fun q hq => ne10 (L + 1, oB) (.head _) q hq
  refine Pure.use (pairs_pure RT0 enc2 _ np (Nat.lt_succ_self _) npok (by omega) (by omega)) (D := fun b o => (b, o) ∈ T6) (RdAll.one' hv6') (by omega) (by omega) stays_refl F11 N11 (fun b o h => (N11 _ (List.mem_append_left _ (List.mem_append_left _ (.tail _ h)))).1) ?_
  intro r12 tl12 h12 tk12 F12 N12 ne12 st12 ho12
  obtain ⟨ap, vp, npn, rfl, hmp, hvp⟩ := ho12.list_inv
  have ne12' : ∀ q ∈ tl12, q.1 ≠ L + 1 := fun q hq => ne12 (L + 1, oB) (.head _) q hq
  obtain ⟨T, hT, hTne⟩ : ∃ T, T = T6 ++ tl8 ++ tl10 ++ tl12 ∧ ∀ q ∈ T, q.1 ≠ L + 1 := ⟨_, rfl, List.forall_mem_append.mpr ⟨List.forall_mem_append.mpr ⟨List.forall_mem_append.mpr ⟨hm6', ne8'⟩, ne10'⟩, ne12'⟩⟩
  have NT : News H L h12 ((L + 1, oB) :: T) := by rw [hT]; exact N12
  have hmpT : (ap, lstO vp npn) ∈ T := by rw [hT]; exact List.mem_append_right _ hmp
  have hmcT : (lc, lstO vc nc) ∈ T := by rw [hT]; exact List.mem_append_left _ (List.mem_append_right _ hmc)
  have hrdT : Rd (fun b o => (b, o) ∈ T) v (p.data enc1) := by rw [hT]; exact hrd6.mono fun _ _ h => List.mem_append_left _ (List.mem_append_left _ (List.mem_append_left _ h))
  have hvcT : RdAll (fun b o => (b, o) ∈ T) vc ((clashes (np.edge true)).map enc3) := by rw [hT]; exact (toT hvc).mono fun _ _ h => List.mem_append_left _ h
  have hvpT : RdAll (fun b o => (b, o) ∈ T) vp (np.pairs.map (encP enc2)) := by
    rw [hT]
    exact (toT hvp).mono fun _ _ h => (List.mem_append.mp h).elim (fun h => List.mem_append_left _ (List.mem_append_left _ (List.mem_append_left _ h))) (List.mem_append_right _)
  have hpl := hvpT.length
  rw [List.length_map] at hpl
  have hp225 : np.pairs.length ≤ 225 := pairs_225 np npok (by omega) (by omega)
  clear hT N12 hmp hmc hrd6 hvc hvp ne12 ne12' ne10 ne10' ne8 ne8' ho12 ho10 ho8 hvs8 hm8 hv6' hm6' N11 F11
  k_steps
  have hqp : ∀ {j : Nat} {v : Value}, vp[j]? = some v → ∃ q t v1 v2 n, np.pairs[j]? = some q ∧ q ∈ np.pairs ∧ v = .ref t ∧ (t, tupO [v1, v2] n) ∈ T ∧ Rd (fun b o => (b, o) ∈ T) v1 (enc2 q.1) ∧ Rd (fun b o => (b, o) ∈ T) v2 (enc2 q.2) := by
    intro j v hv
    obtain ⟨q, hq, hqm, hr, -⟩ := hvpT.get_map hv
    obtain ⟨t, v1, v2, n, e, h1, h2, h3⟩ := hr.encP_inv
    exact ⟨q, t, v1, v2, n, hq, hqm, e, h1, h2, h3⟩
  refine' CSrc.name (tup := false) (its := vp) (n := npn) rfl ?hF ?hN (.inr (.tail _ hmpT)) ?h2 ?h3 ?_
  case hF => k_asm
  case hN => k_asm
  case h2 => exact rfl
  case h3 => exact rfl
  rintro I C D9 s₂ ⟨hh, tt, rfl⟩ hIC hID hCD off
  dsimp only
  refine CRest.ind hID hCD (fun j ys nw => nw = (L + 1, oB) :: T ∧ ys.length ≤ j ∧ RdAll (fun b o => (b, o) ∈ T) ys ((np.pairs.take j).map fun q => enc2 q.1)) ?hsz ?step ?done ?hS₀ ?start
  case hsz =>
    rintro j ys nw hj ⟨-, hl, -⟩
    rw [sizeLine_eq]
    omega
  case hS₀ => exact .inr (.tail _ hmpT)
  case start => exact ⟨rfl, Nat.le_refl _, RdAll.nil⟩
  case step =>
    rintro j ys nw v oI oC mC h4 tk4 E4 hj - ⟨rfl, hl, hys⟩ hv4 hns hB F4 N4 off4
    obtain ⟨q, t, v1, v2, nt, hq, hqm, rfl, hmt, hr1, hr2⟩ := hqp hv4
    have hIT : IsTup h4 t #[v1, v2] := tuple_at (N4 _ (.tail _ (.tail _ (.tail _ (.tail _ hmt))))).1
    refine wpAny_tests_nil ?_
    rw [if_pos rfl]
    k_steps
    rename Fr H _ _ _ => F5
    rename News H _ _ _ => N5
    refine CEnd.intro F5 hns N5 ((L + 1, oB) :: T) (fun _ h => h) off4 (.inr (.tail _ hmpT)) ⟨rfl, by rw [List.length_append, List.length_singleton]; omega, ?_⟩
    rw [List.take_add_one, hq, List.map_append]
    exact RdAll.append hys (RdAll.one' hr1)
  case done =>
    rintro ys nw - ⟨rfl, hl, hys⟩
    k_steps
    have hzp : np.pairs.take vp.length = np.pairs := by rw [hpl]; exact List.take_length ..
    rw [hzp] at hys
    have hyl := hys.length
    rw [List.length_map] at hyl
    have hTL : ∀ q ∈ (D9, lstO ys ys.length) :: T, q.1 ≠ L + 1 := List.forall_mem_cons.mpr ⟨fun e => ne9 (L + 1, oB) (.head _) e.symm, hTne⟩
    refine' FSrc.seq (tup := false) (its := ys) (n := ys.length) (news := (L + 1, oB) :: (D9, lstO ys ys.length) :: T) rfl ?hF ?hN (.inr (.tail _ (.head _))) ?_
    case hF => k_asm
    case hN => walk_at "m_front"
    intro I9 off9
    refine FRest.ind (LawJ L np T D9 ys v ap) ?step ?done ?hS₀ ?start
    case hS₀ => exact .inr (.tail _ (.head _))
    case start => exact ⟨oB, _, lc, vc, nc, (D9, lstO ys ys.length) :: T, dB, fun _ h => .tail _ h, .head _, .tail _ hmcT, by rw [lawC_zero]; exact hvcT.mono fun _ _ h => .tail _ h, hTL, rfl, rfl, rfl⟩
    case done =>
      rintro m9 nw h9 tk9 - ⟨oB', x, lc, vc, nc, T', hd', hTT, hm9, hmc, hvc, hTne', hm1, hm2, hm3⟩ F9 N9 off9
      k_steps
      rename Fr H _ _ _ => F20
      rename News H _ _ _ => N20
      refine call_cls (fI := 42) F20 X N20 (by k_is) (by k_is) (by k_is) ?_
      intro sa sd h21 F21 N21 l21 l22
      have hne1 : @Ne Nat sa sd := Ne.symm (Nat.ne_of_lt l22)
      have hne2 : ∀ q ∈ (L + 1, oB') :: T', q.1 ∉ adrs [(sa, instObj 129 sd), (sd, emptyDict)] := by
        intro q hq hm
        have h1 : @LT.lt Nat _ q.1 sd := l21 q hq
        have h2 : @LT.lt Nat _ sd sa := l22
        simp only [adrs, List.map_cons, List.map_nil, List.mem_cons, List.not_mem_nil, or_false] at hm
        rcases hm with h | h
        · have : @Eq Nat q.1 sa := h
          omega
        · have : @Eq Nat q.1 sd := h
          omega
      have hrdT' : Rd (fun b o => (b, o) ∈ T') v (p.data enc1) := hrdT.mono fun _ _ h => hTT _ h
      refine init_ok RT0 (D := fun b o => (b, o) ∈ T') (news := (L + 1, oB') :: T') (p := p) ?_ ?_ stays_refl F21 N21 hne2 hne1 (fun b o h => ⟨(N21 (b, o) (.tail _ (.tail _ (.tail _ h)))).1, hne2 (b, o) (.tail _ h)⟩) hrdT' hok hht hl9 ?_
      · have hw : (Code.builtin "type.__call__" { pos := [Value.ref 129, v] }).weight ≤ 50 := Nat.le_of_ble_eq_true (by kernel_rfl)
        show dp + _ + 400 < 900
        omega
      · have hw : (Code.builtin "type.__call__" { pos := [Value.ref 129, v] }).cUnits ≤ 50 := Nat.le_of_ble_eq_true (by kernel_rfl)
        show un + _ + 6000 < 9000
        omega
      intro ln df t1 t2 t3 t4 t5 b a1' a2' nvs nn dfO v1 n1 fl h22 tk22 S22 hi1 F22 N22 off22
      refine ⟨rfl, ?_⟩
      show wpAny _ _ _ _ _ _
      have hRK := readF_ok p ⟨[], []⟩ ⟨rfl, fun _ h => by cases h⟩
      have hk9 : (readF p ⟨[], []⟩).2.names.length ≤ 9 := by
        have e := hRK.1
        simp only [List.length_nil, Nat.zero_add] at e
        omega
      have hzn : ys.length = np.pairs.length := hyl
      rw [hzn] at hvc
      k_steps
      show wpAny _ _ (call (.ref 98) [.ref sa]) _ _ _
      refine clash_ok RT0 (by omega) (by omega) (news := (L + 1, oB') :: T') stays_refl F22 N22 off22 S22 hi1 (hRK.1.symm ▸ hRK.2.2.1) hk9 ?_ ?_
      · intro hcl h23 tk23 F23 N23
        have hz := plain_none p hok hcl
        rw [hnp] at hz
        rw [hz] at hvc
        obtain rfl := RdAll.nil_inv hvc
        k_steps
        rename Fr H _ _ _ => FE
        exact hret _ _ _ FE
      · intro nm x y hcl rt u1 u2 u3 nt h23 tk23 F23 N23 ne23
        obtain ⟨j, k, rfl, rfl, hz⟩ := plain_some p hok hcl
        rw [hnp] at hz
        k_steps
        rename Fr H _ _ _ => FE
        rename News H _ _ _ => NE
        refine in_trips (D := fun b o => (b, o) ∈ T') (cs := lawC np np.pairs.length) hvc (fun b o h => (NE (b, o) (.tail _ (List.mem_append_right _ (.tail _ h)))).1) (NE (lc, lstO vc nc) (.tail _ (List.mem_append_right _ (.tail _ hmc)))).1 (NE _ (.head _)).1 (fun b o h => ne23 (b, o) (List.mem_append_right _ (.tail _ h))) hz (by show un + 1 < 9900; omega) ?_
        exact hret _ _ _ FE
    case step =>
      rintro i m9 nw v9 oI9 h9 tk9 E9 hi - ⟨oB', x, lc, vc, nc, T', hd', hTT, hm9, hmc, hvc, hTne', hm1, hm2, hm3⟩ hP F9 N9 off9
      have hI1 : @Ne Nat I9 (L + 1) := Ne.symm (off9 (L + 1, oB') (.head _))
      obtain ⟨db, hdb, hrb⟩ := hys.get hP
      rw [List.getElem?_map] at hdb
      obtain ⟨qb, hqb, rfl⟩ := Option.map_eq_some_iff.mp hdb
      obtain ⟨tb, ub1, ub2, nb, rfl, hmtb⟩ := hrb.enc2_inv
      k_steps
      rename_i hx8 oN FN NN dN
      have hq2 : ∀ {j : Nat} {v : Value}, vp[j]? = some v → ∃ q t v1 v2 n, np.pairs[j]? = some q ∧ v = .ref t ∧ (t, tupO [v1, v2] n) ∈ T' ∧ Rd (fun b o => (b, o) ∈ T') v1 (enc2 q.1) ∧ Rd (fun b o => (b, o) ∈ T') v2 (enc2 q.2) := by
        intro j v hv
        obtain ⟨q, t, v1, v2, n, hq, -, e, hm, h1, h2⟩ := hqp hv
        exact ⟨q, t, v1, v2, n, hq, e, hTT _ hm, h1.mono fun _ _ h => hTT _ h, h2.mono fun _ _ h => hTT _ h⟩
      refine' CSrc.name (tup := false) (its := vp) (n := npn) (news := (I9, oI9) :: (L + 1, oN) :: T') rfl ?hF ?hN (.inr (.tail _ (.tail _ (hTT _ hmpT)))) ?h2 ?h3 ?_
      case hF => exact FN
      case hN => exact NN
      case h2 => exact rfl
      case h3 => exact rfl
      rintro I2 C2 D2 s₂ ⟨hh, tt, rfl⟩ hIC2 hID2 hCD2 off2
      dsimp only
      refine CRest.ind hID2 hCD2 (fun j ys2 nw => nw = (I9, oI9) :: (L + 1, oN) :: T' ∧ ys2.length ≤ j ∧ RdAll (fun b o => (b, o) ∈ T') ys2 ((((np.pairs.take j).filter fun q => decide (q.1 = qb.1)).map fun q => q.2).map enc2)) ?hsz ?step ?done ?hS₀ ?start
      case hsz =>
        rintro j ys2 nw hj ⟨-, hl, -⟩
        rw [sizeLine_eq]
        omega
      case hS₀ => exact .inr (.tail _ (.tail _ (hTT _ hmpT)))
      case start => exact ⟨rfl, Nat.le_refl _, RdAll.nil⟩
      case step =>
        rintro j ys2 nw v8 oI oC mC h4 tk4 E4 hj - ⟨rfl, hl, hys2⟩ hv4 hns hB F4 N4 off4
        obtain ⟨q, t, v1, v2, nt, hq, rfl, hmt, hr1, hr2⟩ := hq2 hv4
        have hIT : IsTup h4 t #[v1, v2] := tuple_at (N4 _ (.tail _ (.tail _ (.tail _ (.tail _ (.tail _ hmt)))))).1
        obtain ⟨ta, ua1, ua2, na, rfl, hmta⟩ := hr1.enc2_inv
        have hmtb' := hTT _ hmtb
        by_cases hqe : q.1 = qb.1
        · have hc : ((q.1.1.str == qb.1.1.str) && ((q.1.2 : Int) == (qb.1.2 : Int))) = true := by rw [hqe]; simp
          k_with "compareOp Eq ref ref" => (k_dflt (refine' eq_pairC ?e1 ?e2 ?e3 hc ?_; (case e1 => exact News.get (by k_asm) (by k_mem)); (case e2 => exact News.get (by k_asm) (by k_mem)); (case e3 => (show _ < 9900; (try dsimp only); omega)); k_whole))
          k_steps
          rename Fr H _ _ _ => F5
          rename News H _ _ _ => N5
          have hf : ((((np.pairs.take (j + 1)).filter fun q => decide (q.1 = qb.1)).map fun q => q.2).map enc2) = ((((np.pairs.take j).filter fun q => decide (q.1 = qb.1)).map fun q => q.2).map enc2) ++ [enc2 q.2] := by
            rw [List.take_add_one, hq]; simp [List.filter_append, hqe]
          refine CEnd.intro F5 hns N5 ((I9, oI9) :: (L + 1, oN) :: T') (fun _ h => h) off4 (.inr (.tail _ (.tail _ (hTT _ hmpT)))) ⟨rfl, by rw [List.length_append, List.length_singleton]; omega, ?_⟩
          rw [hf]
          exact RdAll.append hys2 (RdAll.one' hr2)
        · have hc : ((q.1.1.str == qb.1.1.str) && ((q.1.2 : Int) == (qb.1.2 : Int))) = false := by
            cases e1 : (q.1.1.str == qb.1.1.str) with
            | false => rfl
            | true =>
              cases e2 : ((q.1.2 : Int) == (qb.1.2 : Int)) with
              | false => rfl
              | true => exact absurd (Prod.ext (nm_inj (eq_of_beq e1)) (by have := eq_of_beq e2; omega)) hqe
          k_with "compareOp Eq ref ref" => (k_dflt (refine' eq_pairC ?e1 ?e2 ?e3 hc ?_; (case e1 => exact News.get (by k_asm) (by k_mem)); (case e2 => exact News.get (by k_asm) (by k_mem)); (case e3 => (show _ < 9900; (try dsimp only); omega)); k_whole))
          k_steps
          rename Fr H _ _ _ => F5
          rename News H _ _ _ => N5
          have hf : ((((np.pairs.take (j + 1)).filter fun q => decide (q.1 = qb.1)).map fun q => q.2).map enc2) = ((((np.pairs.take j).filter fun q => decide (q.1 = qb.1)).map fun q => q.2).map enc2) := by
            rw [List.take_add_one, hq]; simp [List.filter_append, hqe]
          refine CEnd.intro F5 hns N5 ((I9, oI9) :: (L + 1, oN) :: T') (fun _ h => h) off4 (.inr (.tail _ (.tail _ (hTT _ hmpT)))) ⟨rfl, by omega, ?_⟩
          rw [hf]
          exact hys2
      case done =>
        rintro ys2 nw - ⟨rfl, hl, hys2⟩
        rw [hzp] at hys2
        k_steps
        rename Fr H _ _ _ => F13
        rename News H _ _ _ => N13
        have hFl := lawF_len np qb.1
        have hi2 : i < np.pairs.length := by omega
        refine Pure.use (clashes_pure RT0 (lawF np qb.1) (by omega)) (D := fun b o => (b, o) ∈ (D2, lstO ys2 ys2.length) :: T') (RdAll.one' (Rd.list (.head _) (hys2.mono fun _ _ h => .tail _ h))) (by omega) (by omega) stays_refl F13 N13 (fun b o h => (N13 (b, o) ((List.mem_cons.mp h).elim (fun h => h ▸ .head _) fun h => .tail _ (.tail _ (.tail _ h)))).1) ?_
        intro r14 tl14 h14 tk14 F14 N14 ne14 st14 ho14
        obtain ⟨l14, vs14, n14, rfl, hm14, hvs14⟩ := ho14.list_inv
        have hv14 := hvs14.length
        rw [List.length_map] at hv14
        have hv15 := clashes_len (lawF np qb.1)
        have hv16 : (lawF np qb.1).length * (lawF np qb.1).length ≤ 225 * 225 := Nat.mul_le_mul (by omega) (by omega)
        have hvcl := hvc.length
        rw [List.length_map] at hvcl
        have hvc2 := lawC_len np hp225 (by omega) i (by omega)
        have hvc3 : i * 50625 ≤ 224 * 50625 := Nat.mul_le_mul_right _ (by omega)
        k_steps
        rename Fr H _ _ _ => FZ
        rename News H _ _ _ => NZ
        have q1 : @LT.lt Nat _ (L + 1) r9 := l9 (L + 1, oN) (.tail _ (.tail _ (.head _)))
        have q2 : @LT.lt Nat _ I9 r9 := l9 (I9, oI9) (.tail _ (.head _))
        have q3 : L + 1 ≠ D2 := ne9 (L + 1, oN) (.tail _ (.head _))
        have q4 : I9 ≠ D2 := ne9 (I9, oI9) (.head _)
        have k1 := ne14 (I9, oI9) (.tail _ (.head _))
        have k2 := ne14 (L + 1, oN) (.tail _ (.tail _ (.head _)))
        refine FEnd.next FZ NZ ((L + 1, oN) :: (r9, lstO (vc ++ vs14) 0) :: (D2, lstO ys2 ys2.length) :: (T' ++ tl14)) (by walk_at "m_perm") ?_ (.inr (.tail _ (.tail _ (.tail _ (List.mem_append_left _ hm9))))) ⟨oN, _, r9, vc ++ vs14, 0, (r9, lstO (vc ++ vs14) 0) :: (D2, lstO ys2 ys2.length) :: (T' ++ tl14), dN, fun q hq => .tail _ (.tail _ (List.mem_append_left _ (hTT q hq))), .tail _ (.tail _ (List.mem_append_left _ hm9)), .head _, ?_, ?_, hm1, hm2, rfl⟩
        · simp only [List.forall_mem_cons]
          exact ⟨Ne.symm hI1, Ne.symm (Nat.ne_of_lt q2), Ne.symm q4, List.forall_mem_append.mpr ⟨fun q hq => off9 q (.tail _ hq), k1⟩⟩
        · rw [lawC_succ np hqb, List.map_append]
          refine RdAll.append (hvc.mono fun _ _ h => .tail _ (.tail _ (List.mem_append_left _ h))) (hvs14.mono fun _ _ h => ?_)
          rcases h with h | h
          · rcases List.mem_cons.mp h with h | h
            · exact h ▸ .tail _ (.head _)
            · exact .tail _ (.tail _ (List.mem_append_left _ h))
          · exact .tail _ (.tail _ (List.mem_append_right _ h))
        · simp only [List.forall_mem_cons]
          exact ⟨Ne.symm (Nat.ne_of_lt q1), Ne.symm q3, List.forall_mem_append.mpr ⟨hTne', k2⟩⟩
end Mine
open Mine
set_option maxRecDepth 100000 in
set_option maxHeartbeats 8000000 in
theorem PySem.Challenge.cw_nu0043_01_holds : PySem.Challenge.rw_nu0043_01.Holds := by
  w_on
  refine holds_law (by decide +kernel) fun said => ?_
  refine holds_open (q := VV) (loose := []) (Xt := fun s => xlAt VV [] s && recOk (RowW.records PySem.Challenge.rw_nu0043_01.row.toRowW) s) (XP := XL VV []) (Yf := Hook.obs HK) (Ya := Hook.val HK) (YP := Hook.says HK) (N := 2146) lf (Hook.of HK) (Hook.keeps HK) (fun s e => xl_of s (Bool.and_eq_true_iff.mp e).1) XL.keeps (by rfl) (by rfl) (by rfl) (fun s e => recFacts_of (Bool.and_eq_true_iff.mp e).2) (by rfl) (by first | assumption | decide +kernel) (by decide +kernel) ⟨rfl, rfl, rfl, rfl, rfl, by decide +kernel⟩ ?hw ?hc
  case hw => w_witness2
  k_go0
  rename Frag.In _ _ => KX
  rename Top _ _ _ _ _ _ => T9
  rename Fr _ _ _ _ => F9
  rename News _ _ _ _ => N9
  rename IntsAre _ _ => hI9
  rename Heap.IsList _ _ _ => hL9
  rename (_ = #[]) => hg9
  rename (_ = Data.cell _) => right9
  have RT : Root _ _ _ _ _ := ⟨KX, T9⟩
  have hcm : claimMargin = 300 := by decide +kernel
  rename Shared => s1
  refine cutF (P := fun f s' => f = .ret (.bool true) ∧ s'.gens = #[] ∧ s'.os = s1.os ∧ ∃ m', Fr s1.heap s1.heap.objs.size s'.heap m') ?hwalk ?hend
  case hend =>
    rintro f s' ⟨rfl, hg, ho, m', F'⟩
    refine goodW_bool F' hg ?hn ?hp ho
    case hn => exact fun _ => rfl
    case hp => first | wrow_post | kc_post
  case hwalk =>
    refine law_walk (dp := _) (un := _) (fr := _) (gd := _) RT ?h1 ?h2 F9 N9 ?h3 ?h4 hL9 hI9 ?h5 ?h6
    case h1 => (show 1 + claimMargin + 1 ≤ 310; omega)
    case h2 => (show 4 + 3 ≤ 100; decide)
    case h3 => exact right9
    case h4 => exact rfl
    case h5 => omega
    case h6 => exact fun h tk m' F' => ⟨rfl, hg9, rfl, m', F'⟩
