import PyProof.Rows.All
import Wide.All
import OpenK.AllK
import Wide.FinOn
import Lean
import PySem.Challenge.RW_pq1313_01
open PySem PySem.W PyProof.Rows
set_option Elab.async false
set_option maxRecDepth 100000
namespace Mine
local macro_rules | `(tactic| walk_at $s:str) => `(tactic| k_extra $(Lean.Syntax.mkStrLit ("x " ++ s.getString)))
local macro_rules | `(tactic| k_all) => `(tactic| k_extra "x m k_all")
local macro_rules | `(tactic| k_upd) => `(tactic| k_extra "x m k_upd")
local macro_rules | `(tactic| k_mem) => `(tactic| k_extra "x m k_mem")
local macro_rules | `(tactic| k_ne) => `(tactic| k_extra "x m k_ne")
local macro_rules | `(tactic| k_room) => `(tactic| k_extra "x m k_room")
/-- the i-th statement of the text; the j-th of its class -/
def stAt (i : Nat) : Stmt := PySem.Challenge.pw_pq1313_01.main.body.getD i (.Pass ⟨0, 0, 0, 0⟩)
noncomputable def inAt (i j : Nat) : Stmt := match stAt i with
  | .ClassDef _ _ _ b _ _ _ _ _ _ _ => b.getD j (.Pass ⟨0, 0, 0, 0⟩)
  | s => s
/-- a def's object, read off its statement -/
noncomputable def fnOb (st : Stmt) (qual : Str) (dflt kwd doc md code : Value) : Obj := match st with
  | .FunctionDef n a b _ _ _ sc _ _ _ => Obj.mk (.type "function") none (.func (FuncData.mk n qual a (.stmts b) sc 3 [] dflt kwd doc md none code .none 0)) (List.toArray [])
  | _ => Obj.mk .none none (.dict (List.toArray []) 0) (List.toArray [])
def nameOf : Stmt → Str
  | .FunctionDef n _ _ _ _ _ _ _ _ _ => n
  | .ClassDef n _ _ _ _ _ _ _ _ _ _ => n
  | _ => Str.ofString ""
noncomputable def fileS : Str := Str.ofString "/claim/cut.py"
noncomputable def fnA (i : Nat) (md : Value) (code : Addr) : Obj := fnOb (stAt i) (nameOf (stAt i)) .none .none .none md (.ref code)
/-- a code object without cells, with cells -/
noncomputable def coA (nm q : Str) (t0 : Tok) (line argc : Int) (r : Addr) (t1 : Nat) : Obj := Obj.mk (.type "code") none (.fields (List.toArray [.str nm t0, .str q (t0 + 1), .str fileS (t0 + 2), .int line 0, .int argc 0, .int 0 0, .int 0 0, .int 3 0, .ref r, .bool true, .int 181 0, .ref (r + 1), .none, .ref (r + 2), .ref (r + 3), .ref (r + 4), .int t1 0, .int line 0, .str fileS (t1 + 1)])) (List.toArray [])
noncomputable def coB (nm q : Str) (t0 : Tok) (line argc : Int) (r : Addr) (t1 : Nat) : Obj := Obj.mk (.type "code") none (.fields (List.toArray [.str nm t0, .str q (t0 + 1), .str fileS (t0 + 2), .int line 0, .int argc 0, .int 0 0, .int 0 0, .int 3 0, .ref r, .bool true, .int 181 0, .ref (r + 1), .none, .none, .none, .ref (r + 2), .int t1 0, .int line 0, .str fileS (t1 + 1)])) (List.toArray [])
noncomputable def en (P : Params) (k : Str) (t : Tok) (v : Value) : DictEntry := DictEntry.mk (PyData.keyHash P k) (.str k t) v
noncomputable def md1 : Value := .str (Str.ofString "__main__") 164
noncomputable def md2 : Value := .str (Str.ofString "vectorcove.arith") 194
noncomputable def md3 : Value := .str (Str.ofString "vectorcove.errors") 204
noncomputable def md4 : Value := .str (Str.ofString "vectorcove.rational") 251
noncomputable def md5 : Value := .str (Str.ofString "vectorcove.values") 332
noncomputable def md6 : Value := .str (Str.ofString "vectorcove.mathfun") 376
noncomputable def md7 : Value := .str (Str.ofString "law_pq1313_01") 403
noncomputable def f55 : Obj := fnOb (inAt 5 0) (Str.ofString "Refusal.__init__") Value.none .none .none md3 (.ref 54)
noncomputable def f139 : Obj := fnOb (inAt 18 0) (Str.ofString "Vector.__init__") (Value.ref 132) .none .none md5 (.ref 138)
noncomputable def ns3 (P : Params) : Obj := Obj.mk (Value.type "dict") none (Data.dict (List.toArray [en P (Str.ofString "__name__") 165 (Value.str (Str.ofString "law_pq1313_01") 403), en P (Str.ofString "__doc__") 166 Value.none, en P (Str.ofString "__package__") 167 Value.none, en P (Str.ofString "__loader__") 168 (Value.builtin "__main__.__loader__#opaque"), en P (Str.ofString "__spec__") 169 Value.none, en P (Str.ofString "__annotations__") 170 (Value.ref 6), en P (Str.ofString "__builtins__") 171 (Value.ref 4), en P (Str.ofString "__file__") 173 (Value.str (Str.ofString "/claim/cut.py") 172), en P (Str.ofString "__cached__") 174 Value.none, en P (nameOf (stAt 0)) 193 (Value.ref 21), en P (nameOf (stAt 2)) 203 (Value.ref 28), en P (nameOf (stAt 4)) 225 (Value.ref 38), en P (nameOf (stAt 5)) 250 (Value.ref 58), en P (Str.ofString "NAN") 255 (Value.ref 61), en P (nameOf (stAt 8)) 263 (Value.ref 68), en P (nameOf (stAt 9)) 272 (Value.ref 75), en P (nameOf (stAt 10)) 279 (Value.ref 82), en P (nameOf (stAt 11)) 286 (Value.ref 89), en P (nameOf (stAt 12)) 296 (Value.ref 96), en P (nameOf (stAt 13)) 305 (Value.ref 103), en P (nameOf (stAt 14)) 313 (Value.ref 110), en P (nameOf (stAt 15)) 323 (Value.ref 117), en P (nameOf (stAt 16)) 331 (Value.ref 124), en P (nameOf (stAt 18)) 375 (Value.ref 149), en P (nameOf (stAt 20)) 384 (Value.ref 160), en P (nameOf (stAt 21)) 390 (Value.ref 165), en P (nameOf (stAt 22)) 396 (Value.ref 170), en P (nameOf (stAt 23)) 402 (Value.ref 175), en P (nameOf (stAt 25)) 415 (Value.ref 182), en P (nameOf (stAt 26)) 423 (Value.ref 189), en P (nameOf (stAt 27)) 433 (Value.ref 196), en P (nameOf (stAt 28)) 443 (Value.ref 203), en P (nameOf (stAt 29)) 455 (Value.ref 210), en P (nameOf (stAt 30)) 463 (Value.ref 217), en P (nameOf (stAt 31)) 469 (Value.ref 222)]) 35) (List.toArray [])
noncomputable def f37 (P : Params) : Obj := (Obj.mk (Value.type "dict") none (Data.dict (List.toArray [(DictEntry.mk (PyData.keyHash P (Str.ofString "__module__")) (Value.str (Str.ofString "__module__") 213) (Value.str (Str.ofString "vectorcove.errors") 204)), (DictEntry.mk (PyData.keyHash P (Str.ofString "__firstlineno__")) (Value.str (Str.ofString "__firstlineno__") 217) (Value.int 10 216)), (DictEntry.mk (PyData.keyHash P (Str.ofString "__static_attributes__")) (Value.str (Str.ofString "__static_attributes__") 218) (Value.ref 36)), (DictEntry.mk (PyData.keyHash P (Str.ofString "__weakref__")) (Value.str (Str.ofString "__weakref__") 220) (Value.ref 39)), (DictEntry.mk (PyData.keyHash P (Str.ofString "__doc__")) (Value.str (Str.ofString "__doc__") 221) Value.none)]) 3) (List.toArray []))
noncomputable def f38 : Obj := (Obj.mk (Value.type "type") none (Data.cls (ClassData.mk (Str.ofString "CoveError") [(Value.type "Exception")] [(Value.ref 38), (Value.type "Exception"), (Value.type "BaseException"), (Value.type "object")] 37 (Str.ofString "CoveError") Bool.true [] [(Value.ref 58)] Bool.false none Bool.false)) (List.toArray [(some (Value.ref 29)), none, (some (Value.str (Str.ofString "CoveError") 206)), (some (Value.str (Str.ofString "CoveError") 214)), (some (Value.builtin "Exception.__new__")), (some (Value.bool Bool.true))]))
noncomputable def f54 : Obj := coA (Str.ofString "__init__") (Str.ofString "Refusal.__init__") 238 14 2 49 243
noncomputable def f57 (P : Params) : Obj := (Obj.mk (Value.type "dict") none (Data.dict (List.toArray [(DictEntry.mk (PyData.keyHash P (Str.ofString "__module__")) (Value.str (Str.ofString "__module__") 233) (Value.str (Str.ofString "vectorcove.errors") 204)), (DictEntry.mk (PyData.keyHash P (Str.ofString "__firstlineno__")) (Value.str (Str.ofString "__firstlineno__") 237) (Value.int 12 236)), (DictEntry.mk (PyData.keyHash P (Str.ofString "__init__")) (Value.str (Str.ofString "__init__") 245) (Value.ref 55)), (DictEntry.mk (PyData.keyHash P (Str.ofString "__static_attributes__")) (Value.str (Str.ofString "__static_attributes__") 247) (Value.ref 56)), (DictEntry.mk (PyData.keyHash P (Str.ofString "__doc__")) (Value.str (Str.ofString "__doc__") 248) Value.none)]) 2) (List.toArray []))
noncomputable def f58 : Obj := (Obj.mk (Value.type "type") none (Data.cls (ClassData.mk (Str.ofString "Refusal") [(Value.ref 38)] [(Value.ref 58), (Value.ref 38), (Value.type "Exception"), (Value.type "BaseException"), (Value.type "object")] 57 (Str.ofString "Refusal") Bool.true [] [] Bool.false none Bool.false)) (List.toArray [(some (Value.ref 42)), none, (some (Value.str (Str.ofString "Refusal") 226)), (some (Value.str (Str.ofString "Refusal") 234)), (some (Value.builtin "Exception.__new__")), (some (Value.bool Bool.true))]))
noncomputable def f132 : Obj := (Obj.mk (Value.type "tuple") none (Data.seq (List.toArray [Value.none]) 0) (List.toArray []))
noncomputable def f138 : Obj := coA (Str.ofString "__init__") (Str.ofString "Vector.__init__") 346 72 4 133 353
noncomputable def f148 (P : Params) : Obj := (Obj.mk (Value.type "dict") none (Data.dict (List.toArray [(DictEntry.mk (PyData.keyHash P (Str.ofString "__module__")) (Value.str (Str.ofString "__module__") 341) (Value.str (Str.ofString "vectorcove.values") 332)), (DictEntry.mk (PyData.keyHash P (Str.ofString "__firstlineno__")) (Value.str (Str.ofString "__firstlineno__") 345) (Value.int 70 344)), (DictEntry.mk (PyData.keyHash P (Str.ofString "__init__")) (Value.str (Str.ofString "__init__") 355) (Value.ref 139)), (DictEntry.mk (PyData.keyHash P (Str.ofString "copy")) (Value.str (Str.ofString "copy") 362) (Value.ref 146)), (DictEntry.mk (PyData.keyHash P (Str.ofString "__static_attributes__")) (Value.str (Str.ofString "__static_attributes__") 368) (Value.ref 147)), (DictEntry.mk (PyData.keyHash P (Str.ofString "__dict__")) (Value.str (Str.ofString "__dict__") 370) (Value.ref 150)), (DictEntry.mk (PyData.keyHash P (Str.ofString "__weakref__")) (Value.str (Str.ofString "__weakref__") 372) (Value.ref 151)), (DictEntry.mk (PyData.keyHash P (Str.ofString "__doc__")) (Value.str (Str.ofString "__doc__") 373) Value.none)]) 4) (List.toArray []))
noncomputable def f149 : Obj := (Obj.mk (Value.type "type") none (Data.cls (ClassData.mk (Str.ofString "Vector") [(Value.type "object")] [(Value.ref 149), (Value.type "object")] 148 (Str.ofString "Vector") Bool.true [] [] Bool.false none Bool.false)) (List.toArray [none, none, (some (Value.str (Str.ofString "Vector") 334)), (some (Value.str (Str.ofString "Vector") 342)), (some (Value.builtin "object.__new__")), (some (Value.bool Bool.true))]))
/-- the part of the state that the walk knows whole (addresses as the top lays them) -/
noncomputable def K39 (P : Params) : Frag :=
  (nat_lit 3, ns3 P) ::
  (nat_lit 27, coA (nameOf (stAt 2)) (nameOf (stAt 2)) 196 5 2 22 201) ::
  (nat_lit 28, fnA 2 md2 27) ::
  (nat_lit 37, f37 P) ::
  (nat_lit 38, f38) ::
  (nat_lit 54, f54) ::
  (nat_lit 55, f55) ::
  (nat_lit 57, f57 P) ::
  (nat_lit 58, f58) ::
  (nat_lit 67, coA (nameOf (stAt 8)) (nameOf (stAt 8)) 256 18 2 62 261) ::
  (nat_lit 68, fnA 8 md4 67) ::
  (nat_lit 74, coA (nameOf (stAt 9)) (nameOf (stAt 9)) 264 22 2 69 270) ::
  (nat_lit 75, fnA 9 md4 74) ::
  (nat_lit 81, coA (nameOf (stAt 10)) (nameOf (stAt 10)) 273 32 1 76 277) ::
  (nat_lit 82, fnA 10 md4 81) ::
  (nat_lit 88, coA (nameOf (stAt 11)) (nameOf (stAt 11)) 280 36 1 83 284) ::
  (nat_lit 89, fnA 11 md4 88) ::
  (nat_lit 95, coA (nameOf (stAt 12)) (nameOf (stAt 12)) 287 38 2 90 294) ::
  (nat_lit 96, fnA 12 md4 95) ::
  (nat_lit 102, coA (nameOf (stAt 13)) (nameOf (stAt 13)) 297 44 2 97 303) ::
  (nat_lit 103, fnA 13 md4 102) ::
  (nat_lit 109, coA (nameOf (stAt 14)) (nameOf (stAt 14)) 306 50 2 104 311) ::
  (nat_lit 110, fnA 14 md4 109) ::
  (nat_lit 116, coA (nameOf (stAt 15)) (nameOf (stAt 15)) 314 54 1 111 321) ::
  (nat_lit 117, fnA 15 md4 116) ::
  (nat_lit 123, coA (nameOf (stAt 16)) (nameOf (stAt 16)) 324 65 2 118 329) ::
  (nat_lit 124, fnA 16 md4 123) ::
  (nat_lit 132, f132) ::
  (nat_lit 138, f138) ::
  (nat_lit 139, f139) ::
  (nat_lit 148, f148 P) ::
  (nat_lit 149, f149) ::
  (nat_lit 159, coA (nameOf (stAt 20)) (nameOf (stAt 20)) 378 82 1 154 382) ::
  (nat_lit 160, fnA 20 md6 159) ::
  (nat_lit 164, coB (nameOf (stAt 21)) (nameOf (stAt 21)) 385 85 1 161 388) ::
  (nat_lit 165, fnA 21 md6 164) ::
  (nat_lit 169, coB (nameOf (stAt 22)) (nameOf (stAt 22)) 391 89 2 166 394) ::
  (nat_lit 170, fnA 22 md6 169) ::
  (nat_lit 174, coB (nameOf (stAt 23)) (nameOf (stAt 23)) 397 94 2 171 400) ::
  (nat_lit 175, fnA 23 md6 174) ::
  (nat_lit 181, coA (nameOf (stAt 25)) (nameOf (stAt 25)) 405 100 1 176 413) ::
  (nat_lit 182, fnA 25 md7 181) ::
  (nat_lit 188, coA (nameOf (stAt 26)) (nameOf (stAt 26)) 416 110 2 183 421) ::
  (nat_lit 189, fnA 26 md7 188) ::
  (nat_lit 195, coA (nameOf (stAt 27)) (nameOf (stAt 27)) 424 112 2 190 431) ::
  (nat_lit 196, fnA 27 md7 195) ::
  (nat_lit 202, coA (nameOf (stAt 28)) (nameOf (stAt 28)) 434 118 2 197 441) ::
  (nat_lit 203, fnA 28 md7 202) ::
  (nat_lit 209, coA (nameOf (stAt 29)) (nameOf (stAt 29)) 444 130 2 204 453) ::
  (nat_lit 210, fnA 29 md7 209) ::
  (nat_lit 216, coA (nameOf (stAt 30)) (nameOf (stAt 30)) 456 142 1 211 461) ::
  (nat_lit 217, fnA 30 md7 216) :: []
/-- the statements that the head keeps -/
noncomputable def view : Program := { PySem.Challenge.pw_pq1313_01 with main := { PySem.Challenge.pw_pq1313_01.main with body := [stAt 0, stAt 2, stAt 4, stAt 5, stAt 7, stAt 8, stAt 9, stAt 10, stAt 11, stAt 12, stAt 13, stAt 14, stAt 15, stAt 16, stAt 18, stAt 20, stAt 21, stAt 22, stAt 23, stAt 25, stAt 26, stAt 27, stAt 28, stAt 29, stAt 30, stAt 31] } }
theorem fill_up : (fun (_ : OpenLaw) (_ : Params → Frag) => True) Challenge.rw_pq1313_01 K39 := by
  k_fill
  trivial


/-- an address fact that is at hand is taken as it lies: no arithmetic in the term -/
theorem lt_tr {a b c : Nat} (h : b < c) (g : a < b) : a < c := Nat.lt_trans g h
theorem ln_1 : True := by
  k_with "x m rt" => (first | assumption | (apply And.right; (first | assumption | (apply And.right; (first | assumption | (apply And.right; (first | assumption | (apply And.right; (first | assumption | (apply And.right; (first | assumption | (apply And.right; (first | assumption | (apply And.right; (first | assumption | (apply And.right; (first | assumption | (apply And.right; (first | assumption | (apply And.right; (first | assumption | (apply And.right; (first | assumption | (apply And.right; (first | assumption | (apply And.right; (first | assumption | (apply And.right; (first | assumption | (apply And.right; (first | assumption | (apply And.right; (first | assumption | (apply And.right; (first | assumption | (apply And.right; assumption))))))))))))))))))))))))))))))))))))
  k_with "x m cj" => (with_reducible first | assumption | (apply And.left; k_extra "x m rt") | (apply And.right; k_extra "x m rt"))
  k_with "x m sz" => (with_reducible first | exact Nat.lt_add_one _ | (apply Nat.lt_add_one_of_lt; (first | exact Nat.lt_add_one _ | (apply Nat.lt_add_one_of_lt; (first | exact Nat.lt_add_one _ | (apply Nat.lt_add_one_of_lt; (first | exact Nat.lt_add_one _ | (apply Nat.lt_add_one_of_lt; (first | exact Nat.lt_add_one _ | (apply Nat.lt_add_one_of_lt; (first | exact Nat.lt_add_one _ | (apply Nat.lt_add_one_of_lt; (first | exact Nat.lt_add_one _ | (apply Nat.lt_add_one_of_lt; (exact Nat.lt_add_one _)))))))))))))))
  k_with "x m ne" => (first | exact Nat.ne_of_gt (by k_extra "x m cj") | exact Nat.ne_of_lt (by k_extra "x m cj") | exact Nat.ne_of_lt (by k_extra "x m sz") | exact Nat.ne_of_gt (by k_extra "x m sz") | k_extra "x m cj" | exact Ne.symm (by k_extra "x m cj") | exact Nat.ne_of_gt (lt_tr (by with_reducible assumption) (by k_extra "x m cj")) | exact Nat.ne_of_lt (lt_tr (by with_reducible assumption) (by k_extra "x m cj")))
  k_with "x m k_ne" => ((refine neN ?_; (try dsimp only); (fail_if_success (fail_if_success omega)); first | k_extra "x m ne" | omega))
  trivial
/-- room and units: one lemma in place of arithmetic -/
theorem room0 {a c R : Nat} (h : a + c < R) : a < R := Nat.lt_of_le_of_lt (Nat.le_add_right _ _) h
theorem room2 {a b c R : Nat} (h : a + c < R) (e : b ≤ c) : a + b < R := Nat.lt_of_le_of_lt (Nat.add_le_add_left e a) h
theorem room3 {a b b' c R : Nat} (h : a + c < R) (e : b + b' ≤ c) : a + b + b' < R := by rw [Nat.add_assoc]; exact room2 h e
theorem ln_2 : True := by
  k_with "x m room" => (first | exact room3 (by assumption) (by decide) | exact room2 (by assumption) (by decide) | exact room0 (by assumption) | exact Nat.le_of_ble_eq_true rfl | ktr_room)
  k_with "x m units" => (first | exact room3 (by assumption) (by decide) | exact room2 (by assumption) (by decide) | exact Nat.le_of_ble_eq_true rfl | ktr_units)
  k_with "x m size" => (first | exact Nat.le_trans (by assumption) (by decide) | omega)
  k_with "x m atIf" => (repeat' (first | (k_unfold; (try dsimp only)) | (k_end; wrow_close) | ((fail_if_success (with_reducible show LCg.CompSrc _ _ _ _ _ _ _ _ _ _ _ _ _ _)); (fail_if_success (with_reducible show wpAny _ _ (exec (Stmt.If _ _ _ _) _) _ _ _)); first | walk1 | (dsimp only; walk1) | (leave1; (try dsimp only)))))
  k_with "x m atTest" => (repeat' (first | (k_unfold; (try dsimp only)) | (k_end; wrow_close) | ((fail_if_success (with_reducible show LCg.CompSrc _ _ _ _ _ _ _ _ _ _ _ _ _ _)); (fail_if_success (with_reducible show wpAny _ _ (isTrue (Expr.BoolOp _ _ _) _ _) _ _ _)); first | walk1 | (dsimp only; walk1) | (leave1; (try dsimp only)))))
  k_with "x m atAsg" => (repeat' (first | (k_unfold; (try dsimp only)) | (k_end; wrow_close) | ((fail_if_success (with_reducible show LCg.CompSrc _ _ _ _ _ _ _ _ _ _ _ _ _ _)); (fail_if_success (with_reducible show wpAny _ _ (exec (Stmt.Assign _ _ _) _) _ _ _)); first | walk1 | (dsimp only; walk1) | (leave1; (try dsimp only)))))
  k_with "x m toIf" => (repeat' (first | (k_unfold; (try dsimp only)) | (k_end; wrow_close) | ((fail_if_success (with_reducible show LCg.CompSrc _ _ _ _ _ _ _ _ _ _ _ _ _ _)); (fail_if_success (with_reducible show wpAny _ _ (execs (Stmt.If _ _ _ _ :: _) _) _ _ _)); first | walk1 | (dsimp only; walk1) | (leave1; (try dsimp only)))))
  trivial
/-- the post as a letter while the statement is walked -/
theorem with_post {α : Type} {M : Model} {A : Around} {t : Sem α} {Q : α → Shared → Prop} {E : Value → Shared → Prop} {s : Shared} (h : ∀ Q' : α → Shared → Prop, (∀ f s', Q f s' → Q' f s') → wpAny M A t Q' E s) : wpAny M A t Q E s := h Q fun _ _ x => x
theorem with_post2 {α β : Type} {M : Model} {A : Around} {t : Sem α} {u : Sem β} {Q : β → Shared → Prop} {E : Value → Shared → Prop} {s : Shared} (h : ∀ Q' : β → Shared → Prop, (∀ f s', Q f s' → Q' f s') → wpAny M A t (fun _ s₂ => wpAny M A u Q' E s₂) E s) :
    wpAny M A t (fun _ s₂ => wpAny M A u Q E s₂) E s := h Q fun _ _ x => x
section
variable {prog : Program} {w : World} {A : Around} {E : Value → Shared → Prop} {s : Shared} {x y : Str} {t u : Tok} {Q : Value → Shared → Prop}
theorem str_ne (hK : x ≠ y) (h : Q (.bool true) s) : wpAny (model prog w) A (compareOp .NotEq (.str x t) (.str y u)) Q E s :=
  PyProof.Rows.ne_str (by rw [show (x != y) = true from bne_iff_ne.mpr hK]; exact h)
theorem str_eq (hK : x ≠ y) (h : Q (.bool false) s) : wpAny (model prog w) A (compareOp .Eq (.str x t) (.str y u)) Q E s :=
  PyProof.Rows.eq_str (by rw [show (x == y) = false from beq_eq_false_iff_ne.mpr hK]; exact h)
end
theorem ln_3 : True := by
  k_with "x compareOp NotEq str str" => ((with_reducible refine str_ne (by assumption) ?_))
  k_with "x compareOp Eq str str" => ((with_reducible refine str_eq (by assumption) ?_))
  trivial
/-- a test that only takes tokens, its value known -/
theorem cut_test {M : Model} {A : Around} {t : Sem Bool} {Q : Bool → Shared → Prop} {E : Value → Shared → Prop} {s : Shared} (b : Bool) (h1 : wpAny M A t (fun c s' => c = b ∧ ∃ tk', s' = { s with toks := tk' }) E s)
    (h2 : ∀ tk', Q b { s with toks := tk' }) : wpAny M A t Q E s :=
  wpAny_mono h1 (fun c s' h => by obtain ⟨rfl, tk', rfl⟩ := h; exact h2 tk') fun _ _ e => e


/-- the int has at most k bits -/
structure Bt (k : Nat) (x : Int) : Prop where
  out : x.natAbs < 2 ^ k
theorem Bt.rng {k : Nat} {x : Int} (h1 : -(2 ^ k) < x) (h2 : x < 2 ^ k) : Bt k x := by
  refine ⟨?_⟩
  have : (x.natAbs : Int) < ((2 ^ k : Nat) : Int) := by
    rw [Int.natCast_pow]
    show (x.natAbs : Int) < 2 ^ k
    omega
  exact Int.ofNat_lt.mp this
theorem Bt.mono {j k : Nat} {x : Int} (h : Bt j x) (e : j ≤ k) : Bt k x := ⟨Nat.lt_of_lt_of_le h.out (Nat.pow_le_pow_right (by decide) e)⟩
theorem Bt.mul {j k : Nat} {x y : Int} (h : Bt j x) (g : Bt k y) : Bt (j + k) (x * y) := by
  replace h := h.out; replace g := g.out; refine ⟨?_⟩
  rw [Int.natAbs_mul, Nat.pow_add]
  rcases Nat.eq_zero_or_pos y.natAbs with e | e
  · rw [e, Nat.mul_zero]; exact Nat.mul_pos (Nat.pow_pos (by decide)) (Nat.pow_pos (by decide))
  · exact Nat.lt_of_lt_of_le (Nat.mul_lt_mul_of_pos_right h e) (Nat.mul_le_mul_left _ (Nat.le_of_lt g))
theorem Bt.neg {k : Nat} {x : Int} (h : Bt k x) : Bt k (-x) := ⟨by rw [Int.natAbs_neg]; exact h.out⟩
theorem Bt.add {j k : Nat} {x y : Int} (h : Bt j x) (g : Bt k y) : Bt (j + k + 1) (x + y) := by
  replace h := h.out; replace g := g.out; refine ⟨?_⟩
  have h1 : 2 ^ j ≤ 2 ^ (j + k) := Nat.pow_le_pow_right (by decide) (Nat.le_add_right _ _)
  have h2 : 2 ^ k ≤ 2 ^ (j + k) := Nat.pow_le_pow_right (by decide) (Nat.le_add_left _ _)
  have h3 := Int.natAbs_add_le x y
  rw [Nat.pow_succ]
  omega
theorem Bt.sub {j k : Nat} {x y : Int} (h : Bt j x) (g : Bt k y) : Bt (j + k + 1) (x - y) := by
  rw [Int.sub_eq_add_neg]; exact h.add g.neg
theorem Bt.fdiv {k : Nat} {x y : Int} (h : Bt k x) (_ : 0 < y) : Bt k (x.fdiv y) := ⟨Nat.lt_of_le_of_lt (Int.natAbs_fdiv_le_natAbs _ _) h.out⟩
theorem Bt.fmod {k : Nat} {x y : Int} (h : Bt k y) (hy : 0 < y) : Bt k (x.fmod y) := by
  rw [Int.fmod_eq_emod_of_nonneg x (Int.le_of_lt hy)]
  have h2 := Int.emod_nonneg x (Int.ne_of_gt hy)
  have h3 := Int.emod_lt_of_pos x hy
  replace h := h.out; refine ⟨?_⟩
  omega
theorem Bt.abs {k : Nat} {x : Int} (h : Bt k x) : Bt k (x.natAbs : Int) := ⟨by simpa using h.out⟩
theorem Bt.ok {j k : Nat} {x y : Int} (h : Bt j x) (g : Bt k y) (e : j + k ≤ 134217728) : IntMulOk x y := by
  refine IntMulOk.of_le (m := j) (n := k) ?_ ?_ e
  · exact (PyProof.Rows.intBits_le h.out)
  · exact (PyProof.Rows.intBits_le g.out)
theorem Bt.log {k : Nat} {x : Int} (h : Bt k x) (e : k ≤ 9000) (p : 0 < k) : x.natAbs.log2 < 9000 := by
  rcases Nat.eq_zero_or_pos x.natAbs with q | q
  · rw [q]; decide
  · have := (Nat.log2_lt (Nat.ne_of_gt q)).mpr h.out
    omega


theorem ln_4 : True := by
  k_with "x m k_room" => (k_extra "x m room")
  trivial
theorem pow10_pos (k : Nat) : (0 : Int) < 10 ^ k := Int.pow_pos (by decide)
theorem Bt.pow10 {j k : Nat} (h : k ≤ j) : Bt (4 * j + 1) ((10 : Int) ^ k) := by
  refine ⟨?_⟩
  rw [Int.natAbs_pow]
  have h1 : (10 : Int).natAbs ^ k ≤ 10 ^ j := Nat.pow_le_pow_right (by decide) h
  have h2 : 10 ^ j ≤ 16 ^ j := Nat.pow_le_pow_left (by decide) j
  have h3 : 16 ^ j = 2 ^ (4 * j) := by rw [Nat.pow_mul]
  have h4 : 0 < 2 ^ (4 * j) := Nat.pow_pos (by decide)
  rw [Nat.pow_succ]
  omega
theorem Bt.sm {x c : Int} (h0 : 0 ≤ x) (h1 : x < c) (e : c ≤ 2 ^ 70) : Bt 70 x := Bt.rng (by omega) (by omega)


theorem ln_5 : True := by
  k_with "x m pos" => (first | with_reducible assumption | decide | exact pow10_pos _ | omega | (refine Int.mul_pos ?_ ?_ <;> k_extra "x m pos") | (dsimp only; omega))
  k_with "x m bt" => (first
  | with_reducible assumption
  | (with_reducible apply Bt.pow10 (j := 80); omega)
  | (with_reducible apply Bt.mul <;> k_extra "x m bt")
  | (with_reducible apply Bt.add <;> k_extra "x m bt")
  | (with_reducible apply Bt.sub <;> k_extra "x m bt")
  | (with_reducible apply Bt.fdiv; (k_extra "x m bt"); (k_extra "x m pos"))
  | (with_reducible apply Bt.fmod; (k_extra "x m bt"); (k_extra "x m pos"))
  | (with_reducible apply Bt.neg; k_extra "x m bt")
  | (with_reducible apply Bt.abs; k_extra "x m bt")
  | exact Bt.rng (k := 70) (by decide) (by decide)
  | exact Bt.sm (by with_reducible assumption) (by with_reducible assumption) (by decide)
  | exact Bt.rng (k := 70) (by omega) (by omega))
  k_with "x m bts" => ((with_reducible apply Bt.mono; (k_extra "x m bt"); decide))
  k_with "x binaryOp Mult int int" => ((refine' PyProof.Rows.mul_int ?_ (Bt.ok (by k_extra "x m bt") (by k_extra "x m bt") (by decide))))
  k_with "x binaryOp FloorDiv int int" => ((refine' PyProof.Rows.floordiv_int (by first | decide | exact Int.ne_of_gt (by k_extra "x m pos") | omega) ?_ (Or.inl (PyProof.noPylong_of_log2 (Bt.log (by k_extra "x m bt") (by decide) (by decide))))))
  k_with "x binaryOp Mod int int" => ((refine' PyProof.Rows.mod_int' (by first | decide | exact Int.ne_of_gt (by k_extra "x m pos") | omega) ?_))
  k_with "x binaryOp Pow int int" => ((refine' PyProof.Rows.pow_int_small (by omega) (by omega) (by decide) ?_))
  trivial

noncomputable def nw (n d : Int) : Int := if 2 * (n - n.fdiv d * d) > d ∨ (2 * (n - n.fdiv d * d) = d ∧ (n.fdiv d).fmod 2 = 1) then n.fdiv d + 1 else n.fdiv d
theorem Bt.nw {k : Nat} {n d : Int} (hd : 0 < d) (hn : Bt k n) : Bt (k + 2) (nw n d) := by
  have h1 : Bt k (n.fdiv d) := hn.fdiv hd
  unfold Mine.nw
  split
  · exact (h1.add (Bt.rng (k := 1) (by decide) (by decide))).mono (by omega)
  · exact h1.mono (by omega)

set_option maxHeartbeats 8000000 in
theorem c_nearest_whole {w : World} {mean : ExcName → Option Value} {mg mb : Str → Option Value} {dp un : Nat} {gd : Option (List Code)} {cn : Str} {cs : Scope} {a : Addr} {ccd : Value} {cl : List (Str × Addr)} {outer : List Env} {A₀ : Around} {base h₀ : Heap} {L : Addr} {m : Str → Option Value} {s : Shared} {Q E : Value → Shared → Prop} {news : List (Addr × Obj)}
    {n d : Int} {tn td : Tok} (B : Below A₀ base outer h₀) (F : Fr h₀ L s.heap m) (X : (K39 w.params).In h₀) (N : News h₀ L s.heap news) (T : Top view (looseW view []) mean mg mb h₀) (hk : cs.kind = .function) (_hdp : dp + 1 < recursionLimit) (_hun : un + 100 < cLine)
    (hd0 : 0 < d) (hn1 : Bt 1000 n) (hd1 : Bt 1000 d)
    (h : ∀ v t h' tk', v = nw n d → Bt 1002 v → Fr h₀ L h' m → News h₀ L h' news → Q (.int v t) { s with heap := h', toks := tk' }) :
    wpAny (model Challenge.rw_pq1313_01.row.prog w) (ktrTop dp un gd cn cs L a ccd cl outer) (call (.ref 96) [.int n tn, .int d td]) Q E s := by
  refine wpAny_call ?_
  k_dflt cell_enter
  k_steps
  all_goals (refine cb_retI (fun t h' tk' => h (nw n d) t h' tk' rfl (Bt.nw hd0 hn1)) ?_ (by k_asm) (by k_asm))
  all_goals (unfold nw; split <;> first | rfl | (exfalso; omega))

theorem ln_6 : True := by
  k_with "x call ref" => ((k_here; k_dflt (refine' c_nearest_whole (by k_asm) (by k_asm) (by k_asm) (by k_asm) (by k_asm) (by first | exact rfl | assumption) (by k_extra "x m room") (by k_extra "x m units") (by k_extra "x m pos") (by k_extra "x m bts") (by k_extra "x m bts") ?_; k_whole; intro v9 t9 h9 tk9 ev9 bv9 F9 N9); (try k_sweep); (try dsimp only); (try k_fold)))
  trivial

theorem gcd_step {a b : Int} (ha : 0 ≤ a) (hb : 0 < b) : Int.gcd b (a.fmod b) = Int.gcd a b := by
  rw [Int.fmod_eq_emod_of_nonneg a (Int.le_of_lt hb)]
  obtain ⟨m, rfl⟩ := Int.eq_ofNat_of_zero_le ha
  obtain ⟨n, rfl⟩ := Int.eq_ofNat_of_zero_le (Int.le_of_lt hb)
  show Nat.gcd n (((m : Int) % (n : Int)).natAbs) = Nat.gcd m n
  rw [← Int.natCast_emod, Int.natAbs_natCast, Nat.gcd_comm m n, Nat.gcd_comm n (m % n), ← Nat.gcd_rec]

theorem gcd_inv {a b x y : Int} (ha : 0 ≤ a) (hb : 0 < b) (h : Int.gcd a b = Int.gcd x y) : 0 ≤ b ∧ 0 ≤ a.fmod b ∧ Int.gcd b (a.fmod b) = Int.gcd x y :=
  ⟨Int.le_of_lt hb, by rw [Int.fmod_eq_emod_of_nonneg a (Int.le_of_lt hb)]; exact Int.emod_nonneg a (Int.ne_of_gt hb), (gcd_step ha hb).trans h⟩
theorem gcd_meas {a b : Int} (hb : 0 < b) : (a.fmod b).toNat < b.toNat := by
  rw [Int.fmod_eq_emod_of_nonneg a (Int.le_of_lt hb)]
  have h2 := Int.emod_nonneg a (Int.ne_of_gt hb)
  have h3 := Int.emod_lt_of_pos a hb
  omega
theorem gcd_last {a b x y : Int} (ha : 0 ≤ a) (hb : 0 ≤ b) (hb' : ¬ 0 < b) (h : Int.gcd a b = Int.gcd x y) : a = (Int.gcd x y : Nat) := by
  have e : b = 0 := by omega
  subst e
  rw [← h, Int.gcd_zero_right]
  omega

theorem gcd_pos {x y : Int} (hy : 0 < y) : (0 : Int) < (Int.gcd x y : Nat) := by
  have : 0 < Int.gcd x y := Int.gcd_pos_of_ne_zero_right x (Int.ne_of_gt hy)
  omega
theorem Bt.gcd {k : Nat} {x y : Int} (hy : 0 < y) (h : Bt k y) : Bt k (Int.gcd x y : Nat) := by
  have : Int.gcd x y ≤ y.natAbs := Int.gcd_le_natAbs_right x (Int.ne_of_gt hy)
  replace h := h.out; refine ⟨?_⟩
  rw [Int.natAbs_natCast]
  omega

set_option maxHeartbeats 8000000 in
theorem c_gcd {w : World} {mean : ExcName → Option Value} {mg mb : Str → Option Value} {dp un : Nat} {gd : Option (List Code)} {cn : Str} {cs : Scope} {a : Addr} {ccd : Value} {cl : List (Str × Addr)} {outer : List Env} {A₀ : Around} {base h₀ : Heap} {L : Addr} {m : Str → Option Value} {s : Shared} {Q E : Value → Shared → Prop} {news : List (Addr × Obj)}
    {x y : Int} {tx ty : Tok} (B : Below A₀ base outer h₀) (F : Fr h₀ L s.heap m) (X : (K39 w.params).In h₀) (N : News h₀ L s.heap news) (T : Top view (looseW view []) mean mg mb h₀) (hk : cs.kind = .function) (_hdp : dp + 1 < recursionLimit) (_hun : un + 100 < cLine)
    (hx0 : 0 ≤ x) (hy0 : 0 < y) (hy1 : Bt 3000 y)
    (h : ∀ g t h' tk', g = ((Int.gcd x y : Nat) : Int) → 0 < g → Bt 3000 g → Fr h₀ L h' m → News h₀ L h' news → Q (.int g t) { s with heap := h', toks := tk' }) :
    wpAny (model Challenge.rw_pq1313_01.row.prog w) (ktrTop dp un gd cn cs L a ccd cl outer) (call (.ref 68) [.int x tx, .int y ty]) Q E s := by
  refine wpAny_call ?_
  k_dflt cell_enter
  have hy0' := Int.le_of_lt hy0
  k_with "exec While Compare cons nil" => k_while (fun _ a b => 0 ≤ a ∧ 0 ≤ b ∧ Int.gcd a b = Int.gcd x y) (fun _ a b => b.toNat) "a" "b"
  k_with "state" => exact gcd_inv (by assumption) (by assumption) (by assumption)
  k_with "measure" => exact gcd_meas (by assumption)
  k_steps
  k_with_none
  all_goals (refine cb_retI (fun t h' tk' => h _ t h' tk' rfl (gcd_pos hy0) (Bt.gcd hy0 hy1)) ?_ (by k_asm) (by k_asm))
  exact gcd_last (by assumption) (by assumption) (by assumption) (by assumption)


noncomputable abbrev tupo (n d : Int) (t u : Tok) (c : Nat) : Obj := { cls := .type "tuple", data := .seq #[.int n t, .int d u] c }
noncomputable def mkN (n d : Int) : Int := n.fdiv (Int.gcd n d : Nat)
noncomputable def mkD (n d : Int) : Int := d.fdiv (Int.gcd n d : Nat)

theorem ln_7 : True := by
  k_with "x m rt" => (first | assumption | (apply And.right; (first | assumption | (apply And.right; (first | assumption | (apply And.right; (first | assumption | (apply And.right; (first | assumption | (apply And.right; (first | assumption | (apply And.right; (first | assumption | (apply And.right; (first | assumption | (apply And.right; (first | assumption | (apply And.right; (first | assumption | (apply And.right; (first | assumption | (apply And.right; (first | assumption | (apply And.right; (first | assumption | (apply And.right; (first | assumption | (apply And.right; (first | assumption | (apply And.right; (first | assumption | (apply And.right; (first | assumption | (apply And.right; (first | assumption | (apply And.right; assumption))))))))))))))))))))))))))))))))))))
  k_with "x m cj" => (with_reducible first | assumption | (apply And.left; k_extra "x m rt") | (apply And.right; k_extra "x m rt"))
  k_with "x m sz" => (with_reducible first | exact Nat.lt_add_one _ | (apply Nat.lt_add_one_of_lt; (first | exact Nat.lt_add_one _ | (apply Nat.lt_add_one_of_lt; (first | exact Nat.lt_add_one _ | (apply Nat.lt_add_one_of_lt; (first | exact Nat.lt_add_one _ | (apply Nat.lt_add_one_of_lt; (first | exact Nat.lt_add_one _ | (apply Nat.lt_add_one_of_lt; (first | exact Nat.lt_add_one _ | (apply Nat.lt_add_one_of_lt; (first | exact Nat.lt_add_one _ | (apply Nat.lt_add_one_of_lt; (exact Nat.lt_add_one _)))))))))))))))
  k_with "x m ne" => (first | exact Nat.ne_of_gt (by k_extra "x m cj") | exact Nat.ne_of_lt (by k_extra "x m cj") | exact Nat.ne_of_lt (by k_extra "x m sz") | exact Nat.ne_of_gt (by k_extra "x m sz") | k_extra "x m cj" | exact Ne.symm (by k_extra "x m cj") | exact Nat.ne_of_gt (lt_tr (by with_reducible assumption) (by k_extra "x m cj")) | exact Nat.ne_of_lt (lt_tr (by with_reducible assumption) (by k_extra "x m cj")))
  k_with "x m k_ne" => ((refine neN ?_; (try dsimp only); (fail_if_success (fail_if_success omega)); first | k_extra "x m ne" | omega))
  k_with "x m room" => (first | exact room3 (by assumption) (by decide) | exact room2 (by assumption) (by decide) | exact room0 (by assumption) | exact Nat.le_of_ble_eq_true rfl | ktr_room)
  k_with "x m units" => (first | exact room3 (by assumption) (by decide) | exact room2 (by assumption) (by decide) | exact Nat.le_of_ble_eq_true rfl | ktr_units)
  k_with "x m size" => (first | exact Nat.le_trans (by assumption) (by decide) | omega)
  k_with "x m atIf" => (repeat' (first | (k_unfold; (try dsimp only)) | (k_end; wrow_close) | ((fail_if_success (with_reducible show LCg.CompSrc _ _ _ _ _ _ _ _ _ _ _ _ _ _)); (fail_if_success (with_reducible show wpAny _ _ (exec (Stmt.If _ _ _ _) _) _ _ _)); first | walk1 | (dsimp only; walk1) | (leave1; (try dsimp only)))))
  k_with "x m atTest" => (repeat' (first | (k_unfold; (try dsimp only)) | (k_end; wrow_close) | ((fail_if_success (with_reducible show LCg.CompSrc _ _ _ _ _ _ _ _ _ _ _ _ _ _)); (fail_if_success (with_reducible show wpAny _ _ (isTrue (Expr.BoolOp _ _ _) _ _) _ _ _)); first | walk1 | (dsimp only; walk1) | (leave1; (try dsimp only)))))
  k_with "x m atAsg" => (repeat' (first | (k_unfold; (try dsimp only)) | (k_end; wrow_close) | ((fail_if_success (with_reducible show LCg.CompSrc _ _ _ _ _ _ _ _ _ _ _ _ _ _)); (fail_if_success (with_reducible show wpAny _ _ (exec (Stmt.Assign _ _ _) _) _ _ _)); first | walk1 | (dsimp only; walk1) | (leave1; (try dsimp only)))))
  k_with "x m toIf" => (repeat' (first | (k_unfold; (try dsimp only)) | (k_end; wrow_close) | ((fail_if_success (with_reducible show LCg.CompSrc _ _ _ _ _ _ _ _ _ _ _ _ _ _)); (fail_if_success (with_reducible show wpAny _ _ (execs (Stmt.If _ _ _ _ :: _) _) _ _ _)); first | walk1 | (dsimp only; walk1) | (leave1; (try dsimp only)))))
  k_with "x compareOp NotEq str str" => ((with_reducible refine str_ne (by assumption) ?_))
  k_with "x compareOp Eq str str" => ((with_reducible refine str_eq (by assumption) ?_))
  k_with "x m k_room" => (k_extra "x m room")
  k_with "x m pos" => (first | with_reducible assumption | decide | exact pow10_pos _ | omega | (refine Int.mul_pos ?_ ?_ <;> k_extra "x m pos") | (dsimp only; omega))
  k_with "x m bt" => (first
  | with_reducible assumption
  | (with_reducible apply Bt.pow10 (j := 80); omega)
  | (with_reducible apply Bt.mul <;> k_extra "x m bt")
  | (with_reducible apply Bt.add <;> k_extra "x m bt")
  | (with_reducible apply Bt.sub <;> k_extra "x m bt")
  | (with_reducible apply Bt.fdiv; (k_extra "x m bt"); (k_extra "x m pos"))
  | (with_reducible apply Bt.fmod; (k_extra "x m bt"); (k_extra "x m pos"))
  | (with_reducible apply Bt.neg; k_extra "x m bt")
  | (with_reducible apply Bt.abs; k_extra "x m bt")
  | exact Bt.rng (k := 70) (by decide) (by decide)
  | exact Bt.sm (by with_reducible assumption) (by with_reducible assumption) (by decide)
  | exact Bt.rng (k := 70) (by omega) (by omega))
  k_with "x m bts" => ((with_reducible apply Bt.mono; (k_extra "x m bt"); decide))
  k_with "x binaryOp Mult int int" => ((refine' PyProof.Rows.mul_int ?_ (Bt.ok (by k_extra "x m bt") (by k_extra "x m bt") (by decide))))
  k_with "x binaryOp FloorDiv int int" => ((refine' PyProof.Rows.floordiv_int (by first | decide | exact Int.ne_of_gt (by k_extra "x m pos") | omega) ?_ (Or.inl (PyProof.noPylong_of_log2 (Bt.log (by k_extra "x m bt") (by decide) (by decide))))))
  k_with "x binaryOp Mod int int" => ((refine' PyProof.Rows.mod_int' (by first | decide | exact Int.ne_of_gt (by k_extra "x m pos") | omega) ?_))
  k_with "x binaryOp Pow int int" => ((refine' PyProof.Rows.pow_int_small (by omega) (by omega) (by decide) ?_))
  k_with "x call ref" => ((k_here; k_dflt (refine' c_nearest_whole (by k_asm) (by k_asm) (by k_asm) (by k_asm) (by k_asm) (by first | exact rfl | assumption) (by k_extra "x m room") (by k_extra "x m units") (by k_extra "x m pos") (by k_extra "x m bts") (by k_extra "x m bts") ?_; k_whole; intro v9 t9 h9 tk9 ev9 bv9 F9 N9); (try k_sweep); (try dsimp only); (try k_fold)))
  k_with "x call ref" => ((k_here; k_dflt (refine' c_gcd (by k_asm) (by k_asm) (by k_asm) (by k_asm) (by k_asm) (by first | exact rfl | assumption) (by k_extra "x m room") (by k_extra "x m units") (by (first | omega | exact Int.natCast_nonneg _)) (by k_extra "x m pos") (by k_extra "x m bts") ?_; k_whole; intro g9 t9 h9 tk9 eg9 pg9 bg9 F9 N9); (try k_sweep); (try dsimp only); (try k_fold)))
  trivial
theorem gcd_abs (n d : Int) : Int.gcd (if n < 0 then -n else n) d = Int.gcd n d := by
  split
  · exact Int.neg_gcd
  · rfl
theorem make_end {h₀ h' : Heap} {L : Addr} {m : Str → Option Value} {news : List (Addr × Obj)} {s : Shared} {Q : Value → Shared → Prop} {n d g : Int} {D : Addr} {t u : Tok} {c tk' : Nat}
    (h : ∀ D t u c h' tk', Fr h₀ L h' m → News h₀ L h' ((D, tupo (mkN n d) (mkD n d) t u c) :: news) → (∀ p ∈ news, p.1 < D) → Q (.ref D) { s with heap := h', toks := tk' })
    (eg : g = ((Int.gcd (if n < 0 then -n else n) d : Nat) : Int)) (F : Fr h₀ L h' m) (N : News h₀ L h' ((D, tupo (n.fdiv g) (d.fdiv g) t u c) :: news)) (l : ∀ p ∈ news, p.1 < D) : Q (.ref D) { s with heap := h', toks := tk' } := by
  rw [gcd_abs] at eg
  subst eg
  exact h D t u c h' tk' F N l

set_option maxHeartbeats 8000000 in
theorem c_make {w : World} {mean : ExcName → Option Value} {mg mb : Str → Option Value} {dp un : Nat} {gd : Option (List Code)} {cn : Str} {cs : Scope} {a : Addr} {ccd : Value} {cl : List (Str × Addr)} {outer : List Env} {A₀ : Around} {base h₀ : Heap} {L : Addr} {m : Str → Option Value} {s : Shared} {Q E : Value → Shared → Prop} {news : List (Addr × Obj)}
    {n d : Int} {tn td : Tok} (B : Below A₀ base outer h₀) (F : Fr h₀ L s.heap m) (X : (K39 w.params).In h₀) (N : News h₀ L s.heap news) (T : Top view (looseW view []) mean mg mb h₀) (hk : cs.kind = .function) (_hdp : dp + 2 < recursionLimit) (_hun : un + 200 < cLine)
    (hd0 : 0 < d) (hn1 : Bt 3000 n) (hd1 : Bt 3000 d)
    (h : ∀ D t u c h' tk', Fr h₀ L h' m → News h₀ L h' ((D, tupo (mkN n d) (mkD n d) t u c) :: news) → (∀ p ∈ news, p.1 < D) → Q (.ref D) { s with heap := h', toks := tk' }) :
    wpAny (model Challenge.rw_pq1313_01.row.prog w) (ktrTop dp un gd cn cs L a ccd cl outer) (call (.ref 75) [.int n tn, .int d td]) Q E s := by
  refine wpAny_call ?_
  k_dflt cell_enter
  k_steps
  any_goals (exfalso; omega)
  exact make_end h (by assumption) (by k_asm) (by k_asm) (by assumption)

theorem ln_8 : True := by
  k_with "x call ref" => ((k_here; k_dflt (refine' c_make (by k_asm) (by k_asm) (by k_asm) (by k_asm) (by k_asm) (by first | exact rfl | assumption) (by k_extra "x m room") (by k_extra "x m units") (by k_extra "x m pos") (by k_extra "x m bts") (by k_extra "x m bts") ?_; k_whole; intro D9 t9 u9 c9 h9 tk9 F9 N9 l9); (try k_sweep); (try dsimp only); (try k_fold)))
  trivial

noncomputable def rnd (n d p : Int) : Int × Int :=
  if 0 ≤ p then (mkN (nw (n * 10 ^ p.toNat) d) (10 ^ p.toNat), mkD (nw (n * 10 ^ p.toNat) d) (10 ^ p.toNat)) else (nw n (d * 10 ^ (0 - p).toNat) * 10 ^ (0 - p).toNat, 1)
theorem rnd_end {h₀ h' : Heap} {L : Addr} {m : Str → Option Value} {news : List (Addr × Obj)} {s : Shared} {Q : Value → Shared → Prop} {n d p x y : Int} {D : Addr} {t u : Tok} {c tk' : Nat}
    (h : ∀ D t u c h' tk', Fr h₀ L h' m → News h₀ L h' ((D, tupo (rnd n d p).1 (rnd n d p).2 t u c) :: news) → (∀ p ∈ news, p.1 < D) → Q (.ref D) { s with heap := h', toks := tk' })
    (F : Fr h₀ L h' m) (N : News h₀ L h' ((D, tupo x y t u c) :: news)) (l : ∀ p ∈ news, p.1 < D) (e : (x, y) = rnd n d p) : Q (.ref D) { s with heap := h', toks := tk' } := by
  rw [← e] at h
  exact h D t u c h' tk' F N l

set_option maxHeartbeats 8000000 in
theorem c_rounded {w : World} {mean : ExcName → Option Value} {mg mb : Str → Option Value} {dp un : Nat} {gd : Option (List Code)} {cn : Str} {cs : Scope} {a : Addr} {ccd : Value} {cl : List (Str × Addr)} {outer : List Env} {A₀ : Around} {base h₀ : Heap} {L : Addr} {m : Str → Option Value} {s : Shared} {Q E : Value → Shared → Prop} {news : List (Addr × Obj)}
    {n d p : Int} {x : Addr} {tn td tp : Tok} {cx : Nat} (B : Below A₀ base outer h₀) (F : Fr h₀ L s.heap m) (X : (K39 w.params).In h₀) (N : News h₀ L s.heap news) (T : Top view (looseW view []) mean mg mb h₀) (hk : cs.kind = .function) (_hdp : dp + 3 < recursionLimit) (_hun : un + 300 < cLine)
    (hx : (x, tupo n d tn td cx) ∈ news) (hd0 : 0 < d) (hn1 : Bt 300 n) (hd1 : Bt 300 d) (hp1 : -60 ≤ p) (hp2 : p ≤ 60)
    (h : ∀ D t u c h' tk', Fr h₀ L h' m → News h₀ L h' ((D, tupo (rnd n d p).1 (rnd n d p).2 t u c) :: news) → (∀ p ∈ news, p.1 < D) → Q (.ref D) { s with heap := h', toks := tk' }) :
    wpAny (model Challenge.rw_pq1313_01.row.prog w) (ktrTop dp un gd cn cs L a ccd cl outer) (call (.ref 103) [.ref x, .int p tp]) Q E s := by
  refine wpAny_call ?_
  k_dflt cell_enter
  k_steps
  all_goals exact rnd_end h (by k_asm) (by k_asm) (by assumption) (by subst_vars; unfold rnd; first | (rw [if_pos (by assumption)]; done) | (rw [if_neg (by assumption)]; done))

theorem ln_9 : True := by
  k_with "x call ref" => ((k_here; k_dflt (refine' c_rounded (by k_asm) (by k_asm) (by k_asm) (by k_asm) (by k_asm) (by first | exact rfl | assumption) (by k_extra "x m room") (by k_extra "x m units") (by k_mem) (by k_extra "x m pos") (by k_extra "x m bts") (by k_extra "x m bts") (by omega) (by omega) ?_; k_whole; intro D9 t9 u9 c9 h9 tk9 F9 N9 l9); (try k_sweep); (try dsimp only); (try k_fold)))
  trivial

/-- an entry of a vector: NA, a whole number, a fraction (numerator, denominator; denominator 0: NaN or an infinity) -/
inductive Ent where
  | na
  | whole (i : Int)
  | frac (n d : Int)
noncomputable def Ent.dat : Ent → Dat
  | .na => .none
  | .whole i => .int i
  | .frac n d => .tuple [.int n, .int d]
noncomputable def Ent.Ok : Ent → Prop
  | .na => True
  | .whole i => Bt 40 i
  | .frac n d => Bt 40 n ∧ Bt 40 d ∧ 0 ≤ d
noncomputable def Ent.Dbl : Ent → Prop
  | .whole _ => False
  | _ => True
theorem datAll_two {news : List (Addr × Obj)} {vs : List Value} {n d : Int} (h : DatAll news vs [.int n, .int d]) : ∃ t u, vs = [.int n t, .int d u] := by
  cases h with
  | cons h1 h2 => cases h2 with
    | cons h3 h4 => cases h4; cases h1; cases h3; exact ⟨_, _, rfl⟩
theorem ent_frac {news : List (Addr × Obj)} {v : Value} {n d : Int} (h : DatIn news v (Ent.frac n d).dat) : ∃ x t u c, v = .ref x ∧ (x, tupo n d t u c) ∈ news := by
  unfold Ent.dat at h
  cases h with
  | tuple hm r =>
    obtain ⟨t, u, rfl⟩ := datAll_two r
    exact ⟨_, t, u, _, rfl, hm⟩
theorem ent_na {news : List (Addr × Obj)} {v : Value} (h : DatIn news v Ent.na.dat) : v = .none := by
  unfold Ent.dat at h; cases h; rfl
theorem ent_whole {news : List (Addr × Obj)} {v : Value} {i : Int} (h : DatIn news v (Ent.whole i).dat) : ∃ t, v = .int i t := by
  unfold Ent.dat at h; cases h; exact ⟨_, rfl⟩
theorem ent_of_frac {news : List (Addr × Obj)} {x : Addr} {n d : Int} {t u : Tok} {c : Nat} (h : (x, tupo n d t u c) ∈ news) : DatIn news (.ref x) (Ent.frac n d).dat :=
  .tuple (vs := [.int n t, .int d u]) h (.cons (.int n t) (.cons (.int d u) .nil))

/-- what a call leaves behind: the value handed in, or a new one that bears e; new objects above the old ledger -/
noncomputable abbrev EntRet (h₀ : Heap) (L : Addr) (m : Str → Option Value) (news : List (Addr × Obj)) (s : Shared) (Q : Value → Shared → Prop) (v₀ : Value) (e₀ e : Ent) : Prop :=
  ∀ v add h' tk', Fr h₀ L h' m → News h₀ L h' (add ++ news) → (∀ q ∈ news, ∀ p ∈ add, q.1 < p.1) → (v = v₀ ∧ e = e₀ ∨ DatIn add v e.dat) → Q v { s with heap := h', toks := tk' }
section
variable {h₀ h' : Heap} {L : Addr} {m : Str → Option Value} {news : List (Addr × Obj)} {s : Shared} {Q : Value → Shared → Prop} {v₀ : Value} {e₀ e : Ent} {tk' : Nat}
theorem EntRet.same (h : EntRet h₀ L m news s Q v₀ e e) (F : Fr h₀ L h' m) (N : News h₀ L h' news) : Q v₀ { s with heap := h', toks := tk' } :=
  h v₀ [] h' tk' F N (fun _ _ _ hp => nomatch hp) (.inl ⟨rfl, rfl⟩)
theorem EntRet.one {D : Addr} {n d : Int} {t u : Tok} {c : Nat} (h : EntRet h₀ L m news s Q v₀ e₀ (.frac n d)) (F : Fr h₀ L h' m) (N : News h₀ L h' ((D, tupo n d t u c) :: news)) (l : ∀ p ∈ news, p.1 < D) :
    Q (.ref D) { s with heap := h', toks := tk' } :=
  h (.ref D) [(D, tupo n d t u c)] h' tk' F N (fun q hq p hp => by rw [List.mem_singleton.mp hp]; exact l q hq) (.inr (ent_of_frac (.head _)))
end

noncomputable def rhe (p : Int) : Ent → Ent
  | .frac n d => if 0 < d then .frac (rnd n d p).1 (rnd n d p).2 else .frac n d
  | e => e


set_option maxHeartbeats 8000000 in
theorem c_rhe_na {w : World} {mean : ExcName → Option Value} {mg mb : Str → Option Value} {dp un : Nat} {gd : Option (List Code)} {cn : Str} {cs : Scope} {a : Addr} {ccd : Value} {cl : List (Str × Addr)} {outer : List Env} {A₀ : Around} {base h₀ : Heap} {L : Addr} {m : Str → Option Value} {s : Shared} {Q E : Value → Shared → Prop} {news : List (Addr × Obj)}
    {p : Int} {tp : Tok} (B : Below A₀ base outer h₀) (F : Fr h₀ L s.heap m) (X : (K39 w.params).In h₀) (N : News h₀ L s.heap news) (T : Top view (looseW view []) mean mg mb h₀) (hk : cs.kind = .function) (_hdp : dp + 5 < recursionLimit) (_hun : un + 500 < cLine)
    (hret : ∀ h' tk', Fr h₀ L h' m → News h₀ L h' news → Q .none { s with heap := h', toks := tk' }) :
    wpAny (model Challenge.rw_pq1313_01.row.prog w) (ktrTop dp un gd cn cs L a ccd cl outer) (call (.ref 110) [.none, .int p tp]) Q E s := by
  refine wpAny_call ?_
  k_dflt cell_enter
  k_steps
  all_goals exact hret _ _ (by k_asm) (by k_asm)
set_option maxHeartbeats 8000000 in
theorem c_rhe_0 {w : World} {mean : ExcName → Option Value} {mg mb : Str → Option Value} {dp un : Nat} {gd : Option (List Code)} {cn : Str} {cs : Scope} {a : Addr} {ccd : Value} {cl : List (Str × Addr)} {outer : List Env} {A₀ : Around} {base h₀ : Heap} {L : Addr} {m : Str → Option Value} {s : Shared} {Q E : Value → Shared → Prop} {news : List (Addr × Obj)}
    {n p : Int} {x : Addr} {tn td tp : Tok} {cx : Nat} (B : Below A₀ base outer h₀) (F : Fr h₀ L s.heap m) (X : (K39 w.params).In h₀) (N : News h₀ L s.heap news) (T : Top view (looseW view []) mean mg mb h₀) (hk : cs.kind = .function) (_hdp : dp + 5 < recursionLimit) (_hun : un + 500 < cLine)
    (hx : (x, tupo n 0 tn td cx) ∈ news)
    (hret : ∀ h' tk', Fr h₀ L h' m → News h₀ L h' news → Q (.ref x) { s with heap := h', toks := tk' }) :
    wpAny (model Challenge.rw_pq1313_01.row.prog w) (ktrTop dp un gd cn cs L a ccd cl outer) (call (.ref 110) [.ref x, .int p tp]) Q E s := by
  refine wpAny_call ?_
  k_dflt cell_enter
  k_steps
  all_goals exact hret _ _ (by k_asm) (by k_asm)
set_option maxHeartbeats 8000000 in
theorem c_rhe_1 {w : World} {mean : ExcName → Option Value} {mg mb : Str → Option Value} {dp un : Nat} {gd : Option (List Code)} {cn : Str} {cs : Scope} {a : Addr} {ccd : Value} {cl : List (Str × Addr)} {outer : List Env} {A₀ : Around} {base h₀ : Heap} {L : Addr} {m : Str → Option Value} {s : Shared} {Q E : Value → Shared → Prop} {news : List (Addr × Obj)}
    {n d p : Int} {x : Addr} {tn td tp : Tok} {cx : Nat} (B : Below A₀ base outer h₀) (F : Fr h₀ L s.heap m) (X : (K39 w.params).In h₀) (N : News h₀ L s.heap news) (T : Top view (looseW view []) mean mg mb h₀) (hk : cs.kind = .function) (_hdp : dp + 5 < recursionLimit) (_hun : un + 500 < cLine)
    (hx : (x, tupo n d tn td cx) ∈ news) (hd0 : 0 < d) (hn1 : Bt 40 n) (hd1 : Bt 40 d) (hp1 : -60 ≤ p) (hp2 : p ≤ 60)
    (hret : ∀ D t u c h' tk', Fr h₀ L h' m → News h₀ L h' ((D, tupo (rnd n d p).1 (rnd n d p).2 t u c) :: news) → (∀ p ∈ news, p.1 < D) → Q (.ref D) { s with heap := h', toks := tk' }) :
    wpAny (model Challenge.rw_pq1313_01.row.prog w) (ktrTop dp un gd cn cs L a ccd cl outer) (call (.ref 110) [.ref x, .int p tp]) Q E s := by
  refine wpAny_call ?_
  k_dflt cell_enter
  k_steps
  all_goals (rename News h₀ L _ _ => kN9; simp only [if_neg (show ¬ (-400 > p) by omega)] at kN9; exact hret _ _ _ _ _ _ (by k_asm) kN9 (by assumption))
theorem c_rhe {w : World} {mean : ExcName → Option Value} {mg mb : Str → Option Value} {dp un : Nat} {gd : Option (List Code)} {cn : Str} {cs : Scope} {a : Addr} {ccd : Value} {cl : List (Str × Addr)} {outer : List Env} {A₀ : Around} {base h₀ : Heap} {L : Addr} {m : Str → Option Value} {s : Shared} {Q E : Value → Shared → Prop} {news : List (Addr × Obj)}
    {p : Int} {v : Value} {e : Ent} {tp : Tok} (B : Below A₀ base outer h₀) (F : Fr h₀ L s.heap m) (X : (K39 w.params).In h₀) (N : News h₀ L s.heap news) (T : Top view (looseW view []) mean mg mb h₀) (hk : cs.kind = .function) (_hdp : dp + 5 < recursionLimit) (_hun : un + 500 < cLine)
    (hv : DatIn news v e.dat) (he : e.Ok) (hb : e.Dbl) (hp1 : -60 ≤ p) (hp2 : p ≤ 60) (hret : EntRet h₀ L m news s Q v e (rhe p e)) :
    wpAny (model Challenge.rw_pq1313_01.row.prog w) (ktrTop dp un gd cn cs L a ccd cl outer) (call (.ref 110) [v, .int p tp]) Q E s := by
  cases e with
  | na =>
    obtain rfl := ent_na hv
    exact c_rhe_na B F X N T hk _hdp _hun fun h' tk' F' N' => EntRet.same hret F' N'
  | whole i => exact hb.elim
  | frac n d =>
    obtain ⟨x, t, u, c, rfl, hx⟩ := ent_frac hv
    obtain ⟨h1, h2, h3⟩ := he
    by_cases hd : 0 < d
    · refine c_rhe_1 B F X N T hk _hdp _hun hx hd h1 h2 hp1 hp2 fun D t u c h' tk' F' N' l => EntRet.one (v₀ := .ref x) (e₀ := .frac n d) ?_ F' N' l
      simpa only [rhe, if_pos hd] using hret
    · have : d = 0 := by omega
      subst this
      refine c_rhe_0 B F X N T hk _hdp _hun hx fun h' tk' F' N' => EntRet.same (e := .frac n 0) ?_ F' N'
      simpa only [rhe, if_neg hd] using hret


/-- the place of the first figure of n over d -/
structure PlaceIs (n d e : Int) : Prop where
  lo : -20 ≤ e
  hi : e ≤ 20
  le : d * 10 ^ (20 + e).toNat ≤ n * 10 ^ 20
  lt : n * 10 ^ 20 < d * 10 ^ (21 + e).toNat

theorem pow_toNat_add {a b : Int} (ha : 0 ≤ a) (hb : 0 ≤ b) : (10 : Int) ^ (a + b).toNat = 10 ^ a.toNat * 10 ^ b.toNat := by
  rw [Int.toNat_add ha hb, Int.pow_add]
theorem pow_toNat_succ {a : Int} (ha : 0 ≤ a) : (10 : Int) ^ (a + 1).toNat = 10 ^ a.toNat * 10 := by
  rw [pow_toNat_add ha (by decide)]; rfl
theorem pow10_le_of {k : Nat} {b : Nat} (h : (10 : Int) ^ k ≤ 10 ^ b) : k ≤ b := by
  rcases Nat.lt_or_ge b k with q | q
  · exfalso
    have : 10 ^ b < 10 ^ k := Nat.pow_lt_pow_right (by decide) q
    have h' : ((10 ^ k : Nat) : Int) ≤ ((10 ^ b : Nat) : Int) := by simpa using h
    omega
  · exact q

/-- the first loop: d grows -/
noncomputable def Ex1 (N D d e : Int) : Prop := 0 ≤ e ∧ e ≤ 13 ∧ d = D * 10 ^ e.toNat ∧ (e = 0 ∨ d ≤ N) ∧ 0 < d ∧ Bt 50 d
/-- the second loop: n grows -/
noncomputable def Ex2 (N D d e₁ n e : Int) : Prop := Ex1 N D d e₁ ∧ e ≤ e₁ ∧ n = N * 10 ^ (e₁ - e).toNat ∧ n < 10 * d ∧ 0 < n ∧ Bt 60 n

theorem ex1_start {N D : Int} (hD : 0 < D) (bD : Bt 40 D) : Ex1 N D D 0 := ⟨by decide, by decide, by simp, .inl rfl, hD, bD.mono (by decide)⟩
theorem ex1_step {N D d e : Int} (hD : 0 < D) (bN : Bt 40 N) (h : Ex1 N D d e) (hn : 10 * d ≤ N) : Ex1 N D (d * 10) (e + 1) := by
  obtain ⟨h0, h1, h2, h3, h4, h5⟩ := h
  have hN : N < 2 ^ 40 := by
    have := bN.out
    omega
  have hp := pow10_pos e.toNat
  have h6 : d * 10 = D * 10 ^ (e + 1).toNat := by rw [pow_toNat_succ h0, h2, Int.mul_assoc]
  have h7 : (10 : Int) ^ (e + 1).toNat ≤ D * 10 ^ (e + 1).toNat := by
    have := Int.mul_le_mul_of_nonneg_right (show (1 : Int) ≤ D by omega) (Int.le_of_lt (pow10_pos (e + 1).toNat))
    simpa using this
  have h8 : (e + 1).toNat ≤ 13 := pow10_le_of (by
    have : (2 : Int) ^ 40 ≤ 10 ^ 13 := by decide
    omega)
  refine ⟨by omega, by omega, h6, .inr (by omega), by omega, ?_⟩
  exact Bt.rng (by omega) (by omega)
theorem ex1_meas {N d : Int} (h4 : 0 < d) (hn : 10 * d ≤ N) : (N - d * 10).toNat < (N - d).toNat := by omega
theorem ex2_start {N D d e : Int} (hN : 0 < N) (bN : Bt 40 N) (h : Ex1 N D d e) (hn : ¬ 10 * d ≤ N) : Ex2 N D d e N e :=
  ⟨h, Int.le_refl e, by simp, by omega, hN, bN.mono (by decide)⟩
theorem ex2_step {N D d e₁ n e : Int} (h : Ex2 N D d e₁ n e) (hn : n < d) : Ex2 N D d e₁ (n * 10) (e - 1) := by
  obtain ⟨hx, h1, h3, h4, h5, h6⟩ := h
  have hd : d < 2 ^ 50 := by
    have := hx.2.2.2.2.2.out
    omega
  have h8 : n * 10 = N * 10 ^ (e₁ - (e - 1)).toNat := by
    rw [show e₁ - (e - 1) = (e₁ - e) + 1 by omega, pow_toNat_succ (by omega), h3, Int.mul_assoc]
  exact ⟨hx, by omega, h8, by omega, by omega, Bt.rng (by omega) (by omega)⟩
theorem ex2_meas {d n : Int} (h5 : 0 < n) (hn : n < d) : (d - n * 10).toNat < (d - n).toNat := by omega
theorem ex2_last {N D d e₁ n e : Int} (hN : 0 < N) (h : Ex2 N D d e₁ n e) (hn : ¬ n < d) : PlaceIs N D e := by
  obtain ⟨hx, h1, h3, h4, h5, h6⟩ := h
  obtain ⟨x0, x1, x2, x3, x4, x5⟩ := hx
  have hd : d < 2 ^ 50 := by
    have := x5.out
    omega
  have h9 : (10 : Int) ^ (e₁ - e).toNat ≤ n := by
    have := Int.mul_le_mul_of_nonneg_right (show (1 : Int) ≤ N by omega) (Int.le_of_lt (pow10_pos (e₁ - e).toNat))
    rw [h3]; simpa using this
  have h10 : (e₁ - e).toNat ≤ 17 := pow10_le_of (by
    have : 10 * (2 : Int) ^ 50 ≤ 10 ^ 17 := by decide
    omega)
  have hp := pow10_pos (20 + e - e₁).toNat
  have a1 : D * 10 ^ (20 + e).toNat = d * 10 ^ (20 + e - e₁).toNat := by
    rw [show 20 + e = e₁ + (20 + e - e₁) by omega, pow_toNat_add x0 (by omega), x2, show e₁ + (20 + e - e₁) - e₁ = 20 + e - e₁ by omega, Int.mul_assoc]
  have a2 : N * 10 ^ 20 = n * 10 ^ (20 + e - e₁).toNat := by
    have : (10 : Int) ^ 20 = 10 ^ ((e₁ - e) + (20 + e - e₁)).toNat := by rw [show (e₁ - e) + (20 + e - e₁) = 20 by omega]; rfl
    rw [this, pow_toNat_add (by omega) (by omega), h3, Int.mul_assoc]
  have a3 : D * 10 ^ (21 + e).toNat = 10 * d * 10 ^ (20 + e - e₁).toNat := by
    rw [show 21 + e = (20 + e) + 1 by omega, pow_toNat_succ (by omega), ← Int.mul_assoc, a1, Int.mul_comm, Int.mul_assoc]
  refine ⟨by omega, by omega, ?_, ?_⟩
  · rw [a1, a2]; exact Int.mul_le_mul_of_nonneg_right (by omega) (Int.le_of_lt hp)
  · rw [a2, a3]; exact Int.mul_lt_mul_of_pos_right h4 hp
theorem place_unique {n d e f : Int} (hd : 0 < d) (h : PlaceIs n d e) (g : PlaceIs n d f) : e = f := by
  have key : ∀ {e f : Int}, PlaceIs n d e → PlaceIs n d f → e ≤ f := by
    intro e f h g
    rcases Int.lt_or_le f e with q | q
    · exfalso
      have h1 := h.le
      have h2 := g.lt
      have h3 := h.lo
      have h4 := g.lo
      have h5 : (10 : Int) ^ (21 + f).toNat ≤ 10 ^ (20 + e).toNat := by
        have h6 := Int.mul_le_mul_of_nonneg_left (show (1 : Int) ≤ 10 ^ (e - 1 - f).toNat from pow10_pos _) (Int.le_of_lt (pow10_pos (21 + f).toNat))
        rw [Int.mul_one, ← pow_toNat_add (by omega) (by omega), show (21 + f) + (e - 1 - f) = 20 + e by omega] at h6
        exact h6
      have h7 := Int.mul_le_mul_of_nonneg_left h5 (Int.le_of_lt hd)
      omega
    · exact q
  exact Int.le_antisymm (key h g) (key g h)

set_option maxHeartbeats 8000000 in
theorem c_exponent {w : World} {mean : ExcName → Option Value} {mg mb : Str → Option Value} {dp un : Nat} {gd : Option (List Code)} {cn : Str} {cs : Scope} {a : Addr} {ccd : Value} {cl : List (Str × Addr)} {outer : List Env} {A₀ : Around} {base h₀ : Heap} {L : Addr} {m : Str → Option Value} {s : Shared} {Q E : Value → Shared → Prop} {news : List (Addr × Obj)}
    {n d : Int} {x : Addr} {tn td : Tok} {cx : Nat} (B : Below A₀ base outer h₀) (F : Fr h₀ L s.heap m) (X : (K39 w.params).In h₀) (N : News h₀ L s.heap news) (T : Top view (looseW view []) mean mg mb h₀) (hk : cs.kind = .function) (_hdp : dp + 2 < recursionLimit) (_hun : un + 200 < cLine)
    (hx : (x, tupo n d tn td cx) ∈ news) (hn0 : n ≠ 0) (hd0 : 0 < d) (hn1 : Bt 40 n) (hd1 : Bt 40 d)
    (hret : ∀ e t h' tk', PlaceIs (if n < 0 then -n else n) d e → Fr h₀ L h' m → News h₀ L h' news → Q (.int e t) { s with heap := h', toks := tk' }) :
    wpAny (model Challenge.rw_pq1313_01.row.prog w) (ktrTop dp un gd cn cs L a ccd cl outer) (call (.ref 117) [.ref x]) Q E s := by
  have hN0 : 0 < (if n < 0 then -n else n) := by split <;> omega
  have hN1 : Bt 40 (if n < 0 then -n else n) := by split; exact hn1.neg; exact hn1
  refine wpAny_call ?_
  k_dflt cell_enter
  k_with "exec While Compare cons nil" => ((with_reducible show wpAny _ _ (exec (Stmt.While (Expr.Compare _ [CmpOp.GtE] _ _) _ _ _) _) _ _ _); k_while (fun _ d' e => Ex1 (if n < 0 then -n else n) d d' e) (fun _ d' _ => ((if n < 0 then -n else n) - d').toNat) "d" "e")
  k_with "exec While Compare cons nil" => ((with_reducible show wpAny _ _ (exec (Stmt.While (Expr.Compare _ [CmpOp.Lt] _ _) _ _ _) _) _ _ _); k_while_given ["d", "e!"] (fun dd e1 _ n' e' => Ex2 (if n < 0 then -n else n) d dd e1 n' e') (fun dd _ _ n' _ => (dd - n').toNat) "n" "e")
  k_with "state" => first | exact ex1_start hd0 hd1 | exact ex1_step hd0 hN1 (by assumption) (by assumption) | exact ex2_start hN0 hN1 (by assumption) (by assumption) | exact ex2_step (by assumption) (by assumption)
  k_with "measure" => first | exact ex1_meas (by (rename Ex1 _ _ _ _ => hx9; exact hx9.2.2.2.2.1)) (by assumption) | exact ex2_meas (by (rename Ex2 _ _ _ _ _ _ => hx9; exact hx9.2.2.2.2.1)) (by assumption)
  k_steps
  k_with_none
  all_goals (refine cb_retI (fun t h' tk' => hret _ t h' tk' (ex2_last hN0 (by assumption) (by assumption))) rfl (by k_asm) (by k_asm))


noncomputable def place (n d : Int) : Int := Classical.epsilon (PlaceIs (if n < 0 then -n else n) d)
theorem ln_10 : True := by
  k_with "x m rt" => (first | assumption | (apply And.right; (first | assumption | (apply And.right; (first | assumption | (apply And.right; (first | assumption | (apply And.right; (first | assumption | (apply And.right; (first | assumption | (apply And.right; (first | assumption | (apply And.right; (first | assumption | (apply And.right; (first | assumption | (apply And.right; (first | assumption | (apply And.right; (first | assumption | (apply And.right; (first | assumption | (apply And.right; (first | assumption | (apply And.right; (first | assumption | (apply And.right; (first | assumption | (apply And.right; (first | assumption | (apply And.right; (first | assumption | (apply And.right; (first | assumption | (apply And.right; assumption))))))))))))))))))))))))))))))))))))
  k_with "x m cj" => (with_reducible first | assumption | (apply And.left; k_extra "x m rt") | (apply And.right; k_extra "x m rt"))
  k_with "x m sz" => (with_reducible first | exact Nat.lt_add_one _ | (apply Nat.lt_add_one_of_lt; (first | exact Nat.lt_add_one _ | (apply Nat.lt_add_one_of_lt; (first | exact Nat.lt_add_one _ | (apply Nat.lt_add_one_of_lt; (first | exact Nat.lt_add_one _ | (apply Nat.lt_add_one_of_lt; (first | exact Nat.lt_add_one _ | (apply Nat.lt_add_one_of_lt; (first | exact Nat.lt_add_one _ | (apply Nat.lt_add_one_of_lt; (first | exact Nat.lt_add_one _ | (apply Nat.lt_add_one_of_lt; (exact Nat.lt_add_one _)))))))))))))))
  k_with "x m ne" => (first | exact Nat.ne_of_gt (by k_extra "x m cj") | exact Nat.ne_of_lt (by k_extra "x m cj") | exact Nat.ne_of_lt (by k_extra "x m sz") | exact Nat.ne_of_gt (by k_extra "x m sz") | k_extra "x m cj" | exact Ne.symm (by k_extra "x m cj") | exact Nat.ne_of_gt (lt_tr (by with_reducible assumption) (by k_extra "x m cj")) | exact Nat.ne_of_lt (lt_tr (by with_reducible assumption) (by k_extra "x m cj")))
  k_with "x m k_ne" => ((refine neN ?_; (try dsimp only); (fail_if_success (fail_if_success omega)); first | k_extra "x m ne" | omega))
  k_with "x m room" => (first | exact room3 (by assumption) (by decide) | exact room2 (by assumption) (by decide) | exact room0 (by assumption) | exact Nat.le_of_ble_eq_true rfl | ktr_room)
  k_with "x m units" => (first | exact room3 (by assumption) (by decide) | exact room2 (by assumption) (by decide) | exact Nat.le_of_ble_eq_true rfl | ktr_units)
  k_with "x m size" => (first | exact Nat.le_trans (by assumption) (by decide) | omega)
  k_with "x m atIf" => (repeat' (first | (k_unfold; (try dsimp only)) | (k_end; wrow_close) | ((fail_if_success (with_reducible show LCg.CompSrc _ _ _ _ _ _ _ _ _ _ _ _ _ _)); (fail_if_success (with_reducible show wpAny _ _ (exec (Stmt.If _ _ _ _) _) _ _ _)); first | walk1 | (dsimp only; walk1) | (leave1; (try dsimp only)))))
  k_with "x m atTest" => (repeat' (first | (k_unfold; (try dsimp only)) | (k_end; wrow_close) | ((fail_if_success (with_reducible show LCg.CompSrc _ _ _ _ _ _ _ _ _ _ _ _ _ _)); (fail_if_success (with_reducible show wpAny _ _ (isTrue (Expr.BoolOp _ _ _) _ _) _ _ _)); first | walk1 | (dsimp only; walk1) | (leave1; (try dsimp only)))))
  k_with "x m atAsg" => (repeat' (first | (k_unfold; (try dsimp only)) | (k_end; wrow_close) | ((fail_if_success (with_reducible show LCg.CompSrc _ _ _ _ _ _ _ _ _ _ _ _ _ _)); (fail_if_success (with_reducible show wpAny _ _ (exec (Stmt.Assign _ _ _) _) _ _ _)); first | walk1 | (dsimp only; walk1) | (leave1; (try dsimp only)))))
  k_with "x m toIf" => (repeat' (first | (k_unfold; (try dsimp only)) | (k_end; wrow_close) | ((fail_if_success (with_reducible show LCg.CompSrc _ _ _ _ _ _ _ _ _ _ _ _ _ _)); (fail_if_success (with_reducible show wpAny _ _ (execs (Stmt.If _ _ _ _ :: _) _) _ _ _)); first | walk1 | (dsimp only; walk1) | (leave1; (try dsimp only)))))
  k_with "x compareOp NotEq str str" => ((with_reducible refine str_ne (by assumption) ?_))
  k_with "x compareOp Eq str str" => ((with_reducible refine str_eq (by assumption) ?_))
  k_with "x m k_room" => (k_extra "x m room")
  k_with "x m pos" => (first | with_reducible assumption | decide | exact pow10_pos _ | omega | (refine Int.mul_pos ?_ ?_ <;> k_extra "x m pos") | (dsimp only; omega))
  k_with "x m bt" => (first
  | with_reducible assumption
  | (with_reducible apply Bt.pow10 (j := 80); omega)
  | (with_reducible apply Bt.mul <;> k_extra "x m bt")
  | (with_reducible apply Bt.add <;> k_extra "x m bt")
  | (with_reducible apply Bt.sub <;> k_extra "x m bt")
  | (with_reducible apply Bt.fdiv; (k_extra "x m bt"); (k_extra "x m pos"))
  | (with_reducible apply Bt.fmod; (k_extra "x m bt"); (k_extra "x m pos"))
  | (with_reducible apply Bt.neg; k_extra "x m bt")
  | (with_reducible apply Bt.abs; k_extra "x m bt")
  | exact Bt.rng (k := 70) (by decide) (by decide)
  | exact Bt.sm (by with_reducible assumption) (by with_reducible assumption) (by decide)
  | exact Bt.rng (k := 70) (by omega) (by omega))
  k_with "x m bts" => ((with_reducible apply Bt.mono; (k_extra "x m bt"); decide))
  k_with "x binaryOp Mult int int" => ((refine' PyProof.Rows.mul_int ?_ (Bt.ok (by k_extra "x m bt") (by k_extra "x m bt") (by decide))))
  k_with "x binaryOp FloorDiv int int" => ((refine' PyProof.Rows.floordiv_int (by first | decide | exact Int.ne_of_gt (by k_extra "x m pos") | omega) ?_ (Or.inl (PyProof.noPylong_of_log2 (Bt.log (by k_extra "x m bt") (by decide) (by decide))))))
  k_with "x binaryOp Mod int int" => ((refine' PyProof.Rows.mod_int' (by first | decide | exact Int.ne_of_gt (by k_extra "x m pos") | omega) ?_))
  k_with "x binaryOp Pow int int" => ((refine' PyProof.Rows.pow_int_small (by omega) (by omega) (by decide) ?_))
  k_with "x call ref" => ((k_here; k_dflt (refine' c_nearest_whole (by k_asm) (by k_asm) (by k_asm) (by k_asm) (by k_asm) (by first | exact rfl | assumption) (by k_extra "x m room") (by k_extra "x m units") (by k_extra "x m pos") (by k_extra "x m bts") (by k_extra "x m bts") ?_; k_whole; intro v9 t9 h9 tk9 ev9 bv9 F9 N9); (try k_sweep); (try dsimp only); (try k_fold)))
  k_with "x call ref" => ((k_here; k_dflt (refine' c_gcd (by k_asm) (by k_asm) (by k_asm) (by k_asm) (by k_asm) (by first | exact rfl | assumption) (by k_extra "x m room") (by k_extra "x m units") (by (first | omega | exact Int.natCast_nonneg _)) (by k_extra "x m pos") (by k_extra "x m bts") ?_; k_whole; intro g9 t9 h9 tk9 eg9 pg9 bg9 F9 N9); (try k_sweep); (try dsimp only); (try k_fold)))
  k_with "x call ref" => ((k_here; k_dflt (refine' c_make (by k_asm) (by k_asm) (by k_asm) (by k_asm) (by k_asm) (by first | exact rfl | assumption) (by k_extra "x m room") (by k_extra "x m units") (by k_extra "x m pos") (by k_extra "x m bts") (by k_extra "x m bts") ?_; k_whole; intro D9 t9 u9 c9 h9 tk9 F9 N9 l9); (try k_sweep); (try dsimp only); (try k_fold)))
  k_with "x call ref" => ((k_here; k_dflt (refine' c_rounded (by k_asm) (by k_asm) (by k_asm) (by k_asm) (by k_asm) (by first | exact rfl | assumption) (by k_extra "x m room") (by k_extra "x m units") (by k_mem) (by k_extra "x m pos") (by k_extra "x m bts") (by k_extra "x m bts") (by omega) (by omega) ?_; k_whole; intro D9 t9 u9 c9 h9 tk9 F9 N9 l9); (try k_sweep); (try dsimp only); (try k_fold)))
  k_with "x call ref" => ((k_here; k_dflt (refine' c_exponent (by k_asm) (by k_asm) (by k_asm) (by k_asm) (by k_asm) (by first | exact rfl | assumption) (by k_extra "x m room") (by k_extra "x m units") (by k_mem) (by assumption) (by assumption) (by assumption) (by assumption) ?_; k_whole; intro e9 t9 h9 tk9 pl9 F9 N9); (have lo9 := PlaceIs.lo pl9); (have hi9 := PlaceIs.hi pl9);(try k_sweep); (try dsimp only); (try k_fold)))
  trivial
theorem place_is {n d e : Int} (hd : 0 < d) (h : PlaceIs (if n < 0 then -n else n) d e) : e = place n d :=
  place_unique hd h (Classical.epsilon_spec ⟨e, h⟩)
open Classical in
noncomputable def sgf (k : Int) : Ent → Ent
  | .frac n d => if 0 < d ∧ n ≠ 0 then .frac (rnd n d (k - 1 - place n d)).1 (rnd n d (k - 1 - place n d)).2 else .frac n d
  | e => e

set_option maxHeartbeats 8000000 in
theorem c_sgf_na {w : World} {mean : ExcName → Option Value} {mg mb : Str → Option Value} {dp un : Nat} {gd : Option (List Code)} {cn : Str} {cs : Scope} {a : Addr} {ccd : Value} {cl : List (Str × Addr)} {outer : List Env} {A₀ : Around} {base h₀ : Heap} {L : Addr} {m : Str → Option Value} {s : Shared} {Q E : Value → Shared → Prop} {news : List (Addr × Obj)}
    {p : Int} {tp : Tok} (B : Below A₀ base outer h₀) (F : Fr h₀ L s.heap m) (X : (K39 w.params).In h₀) (N : News h₀ L s.heap news) (T : Top view (looseW view []) mean mg mb h₀) (hk : cs.kind = .function) (_hdp : dp + 5 < recursionLimit) (_hun : un + 500 < cLine)
    (hret : ∀ h' tk', Fr h₀ L h' m → News h₀ L h' news → Q .none { s with heap := h', toks := tk' }) :
    wpAny (model Challenge.rw_pq1313_01.row.prog w) (ktrTop dp un gd cn cs L a ccd cl outer) (call (.ref 124) [.none, .int p tp]) Q E s := by
  refine wpAny_call ?_
  k_dflt cell_enter
  k_steps
  all_goals exact hret _ _ (by k_asm) (by k_asm)
set_option maxHeartbeats 8000000 in
theorem c_sgf_0 {w : World} {mean : ExcName → Option Value} {mg mb : Str → Option Value} {dp un : Nat} {gd : Option (List Code)} {cn : Str} {cs : Scope} {a : Addr} {ccd : Value} {cl : List (Str × Addr)} {outer : List Env} {A₀ : Around} {base h₀ : Heap} {L : Addr} {m : Str → Option Value} {s : Shared} {Q E : Value → Shared → Prop} {news : List (Addr × Obj)}
    {n d p : Int} {x : Addr} {tn td tp : Tok} {cx : Nat} (B : Below A₀ base outer h₀) (F : Fr h₀ L s.heap m) (X : (K39 w.params).In h₀) (N : News h₀ L s.heap news) (T : Top view (looseW view []) mean mg mb h₀) (hk : cs.kind = .function) (_hdp : dp + 5 < recursionLimit) (_hun : un + 500 < cLine)
    (hx : (x, tupo n d tn td cx) ∈ news) (h0 : d = 0 ∨ n = 0)
    (hret : ∀ h' tk', Fr h₀ L h' m → News h₀ L h' news → Q (.ref x) { s with heap := h', toks := tk' }) :
    wpAny (model Challenge.rw_pq1313_01.row.prog w) (ktrTop dp un gd cn cs L a ccd cl outer) (call (.ref 124) [.ref x, .int p tp]) Q E s := by
  rcases h0 with h0 | h0
  all_goals (
    subst h0
    refine wpAny_call ?_
    k_dflt cell_enter
    k_steps
    all_goals exact hret _ _ (by k_asm) (by k_asm))
set_option maxHeartbeats 8000000 in
theorem c_sgf_1 {w : World} {mean : ExcName → Option Value} {mg mb : Str → Option Value} {dp un : Nat} {gd : Option (List Code)} {cn : Str} {cs : Scope} {a : Addr} {ccd : Value} {cl : List (Str × Addr)} {outer : List Env} {A₀ : Around} {base h₀ : Heap} {L : Addr} {m : Str → Option Value} {s : Shared} {Q E : Value → Shared → Prop} {news : List (Addr × Obj)}
    {n d p : Int} {x : Addr} {tn td tp : Tok} {cx : Nat} (B : Below A₀ base outer h₀) (F : Fr h₀ L s.heap m) (X : (K39 w.params).In h₀) (N : News h₀ L s.heap news) (T : Top view (looseW view []) mean mg mb h₀) (hk : cs.kind = .function) (_hdp : dp + 5 < recursionLimit) (_hun : un + 500 < cLine)
    (hx : (x, tupo n d tn td cx) ∈ news) (hd0 : 0 < d) (hn0 : n ≠ 0) (hn1 : Bt 40 n) (hd1 : Bt 40 d) (hp1 : 1 ≤ p) (hp2 : p ≤ 20)
    (hret : ∀ D t u c h' tk', Fr h₀ L h' m → News h₀ L h' ((D, tupo (rnd n d (p - 1 - place n d)).1 (rnd n d (p - 1 - place n d)).2 t u c) :: news) → (∀ p ∈ news, p.1 < D) → Q (.ref D) { s with heap := h', toks := tk' }) :
    wpAny (model Challenge.rw_pq1313_01.row.prog w) (ktrTop dp un gd cn cs L a ccd cl outer) (call (.ref 124) [.ref x, .int p tp]) Q E s := by
  refine wpAny_call ?_
  k_dflt cell_enter
  k_steps
  any_goals (exfalso; omega)
  all_goals (rename News h₀ L _ _ => kN9; rename PlaceIs _ _ _ => pl8; obtain rfl := place_is hd0 pl8; simp only [if_neg (show ¬ (1 > p) by omega)] at kN9; exact hret _ _ _ _ _ _ (by k_asm) kN9 (by assumption))
theorem c_sgf {w : World} {mean : ExcName → Option Value} {mg mb : Str → Option Value} {dp un : Nat} {gd : Option (List Code)} {cn : Str} {cs : Scope} {a : Addr} {ccd : Value} {cl : List (Str × Addr)} {outer : List Env} {A₀ : Around} {base h₀ : Heap} {L : Addr} {m : Str → Option Value} {s : Shared} {Q E : Value → Shared → Prop} {news : List (Addr × Obj)}
    {p : Int} {v : Value} {e : Ent} {tp : Tok} (B : Below A₀ base outer h₀) (F : Fr h₀ L s.heap m) (X : (K39 w.params).In h₀) (N : News h₀ L s.heap news) (T : Top view (looseW view []) mean mg mb h₀) (hk : cs.kind = .function) (_hdp : dp + 5 < recursionLimit) (_hun : un + 500 < cLine)
    (hv : DatIn news v e.dat) (he : e.Ok) (hb : e.Dbl) (hp1 : 1 ≤ p) (hp2 : p ≤ 20) (hret : EntRet h₀ L m news s Q v e (sgf p e)) :
    wpAny (model Challenge.rw_pq1313_01.row.prog w) (ktrTop dp un gd cn cs L a ccd cl outer) (call (.ref 124) [v, .int p tp]) Q E s := by
  cases e with
  | na =>
    obtain rfl := ent_na hv
    exact c_sgf_na B F X N T hk _hdp _hun fun h' tk' F' N' => EntRet.same hret F' N'
  | whole i => exact hb.elim
  | frac n d =>
    obtain ⟨x, t, u, c, rfl, hx⟩ := ent_frac hv
    obtain ⟨h1, h2, h3⟩ := he
    by_cases hd : 0 < d ∧ n ≠ 0
    · refine c_sgf_1 B F X N T hk _hdp _hun hx hd.1 hd.2 h1 h2 hp1 hp2 fun D t u c h' tk' F' N' l => EntRet.one (v₀ := .ref x) (e₀ := .frac n d) ?_ F' N' l
      simpa only [sgf, if_pos hd] using hret
    · refine c_sgf_0 B F X N T hk _hdp _hun hx (by omega) fun h' tk' F' N' => EntRet.same (e := .frac n d) ?_ F' N'
      simpa only [sgf, if_neg hd] using hret


theorem gcd_inv' {a b x y : Int} (ha : 0 ≤ a) (hb : 0 ≤ b) (hb' : b ≠ 0) (h : Int.gcd a b = Int.gcd x y) : 0 ≤ b ∧ 0 ≤ a.fmod b ∧ Int.gcd b (a.fmod b) = Int.gcd x y :=
  gcd_inv ha (by omega) h
theorem gcd_meas' {a b : Int} (hb : 0 ≤ b) (hb' : b ≠ 0) : (a.fmod b).toNat < b.toNat := gcd_meas (by omega)
theorem low_facts {a b n d : Int} (hd : 0 < d) (hb : Bt 3000 d) (h : Int.gcd a b = Int.gcd (if n < 0 then -n else n) d) (ha : 0 ≤ a) (e : b = 0) : a = ((Int.gcd n d : Nat) : Int) ∧ 0 < a ∧ Bt 3000 a := by
  subst e
  have e1 : a = ((Int.gcd n d : Nat) : Int) := by
    rw [gcd_abs] at h
    rw [← h, Int.gcd_zero_right]
    omega
  refine ⟨e1, ?_, ?_⟩
  · rw [e1]; exact gcd_pos hd
  · rw [e1]; exact Bt.gcd hd hb
theorem low_end {h₀ h' : Heap} {L : Addr} {m : Str → Option Value} {news : List (Addr × Obj)} {s : Shared} {Q : Value → Shared → Prop} {n d g : Int} {D : Addr} {t u : Tok} {c tk' : Nat}
    (h : ∀ D t u c h' tk', Fr h₀ L h' m → News h₀ L h' ((D, tupo (mkN n d) (mkD n d) t u c) :: news) → (∀ p ∈ news, p.1 < D) → Q (.ref D) { s with heap := h', toks := tk' })
    (eg : g = ((Int.gcd n d : Nat) : Int)) (F : Fr h₀ L h' m) (N : News h₀ L h' ((D, tupo (n.fdiv g) (d.fdiv g) t u c) :: news)) (l : ∀ p ∈ news, p.1 < D) : Q (.ref D) { s with heap := h', toks := tk' } := by
  subst eg
  exact h D t u c h' tk' F N l
set_option maxHeartbeats 8000000 in
theorem c_lowest {w : World} {mean : ExcName → Option Value} {mg mb : Str → Option Value} {dp un : Nat} {gd : Option (List Code)} {cn : Str} {cs : Scope} {a : Addr} {ccd : Value} {cl : List (Str × Addr)} {outer : List Env} {A₀ : Around} {base h₀ : Heap} {L : Addr} {m : Str → Option Value} {s : Shared} {Q E : Value → Shared → Prop} {news : List (Addr × Obj)}
    {n d : Int} {tn td : Tok} (B : Below A₀ base outer h₀) (F : Fr h₀ L s.heap m) (X : (K39 w.params).In h₀) (N : News h₀ L s.heap news) (T : Top view (looseW view []) mean mg mb h₀) (hk : cs.kind = .function) (_hdp : dp + 2 < recursionLimit) (_hun : un + 200 < cLine)
    (hd0 : 0 < d) (hn1 : Bt 3000 n) (hd1 : Bt 3000 d)
    (hret : ∀ D t u c h' tk', Fr h₀ L h' m → News h₀ L h' ((D, tupo (mkN n d) (mkD n d) t u c) :: news) → (∀ p ∈ news, p.1 < D) → Q (.ref D) { s with heap := h', toks := tk' }) :
    wpAny (model Challenge.rw_pq1313_01.row.prog w) (ktrTop dp un gd cn cs L a ccd cl outer) (call (.ref 196) [.int n tn, .int d td]) Q E s := by
  have hN0 : 0 ≤ (if n < 0 then -n else n) := by split <;> omega
  have hd0' := Int.le_of_lt hd0
  refine wpAny_call ?_
  k_dflt cell_enter
  k_with "exec While Compare cons nil" => k_while (fun _ a b => 0 ≤ a ∧ 0 ≤ b ∧ Int.gcd a b = Int.gcd (if n < 0 then -n else n) d) (fun _ a b => b.toNat) "a" "b"
  k_with "state" => first | exact ⟨hN0, hd0', rfl⟩ | exact gcd_inv' (by assumption) (by assumption) (by assumption) (by assumption)
  k_with "measure" => exact gcd_meas' (by assumption) (by assumption)
  k_steps
  obtain ⟨hg1, hg2, hg3⟩ := low_facts hd0 hd1 (by assumption) (by assumption) (by assumption)
  k_steps
  k_with_none
  exact low_end hret hg1 (by k_asm) (by k_asm) (by assumption)


theorem ln_11 : True := by
  k_with "x m rt" => (first | assumption | (apply And.right; (first | assumption | (apply And.right; (first | assumption | (apply And.right; (first | assumption | (apply And.right; (first | assumption | (apply And.right; (first | assumption | (apply And.right; (first | assumption | (apply And.right; (first | assumption | (apply And.right; (first | assumption | (apply And.right; (first | assumption | (apply And.right; (first | assumption | (apply And.right; (first | assumption | (apply And.right; (first | assumption | (apply And.right; (first | assumption | (apply And.right; (first | assumption | (apply And.right; (first | assumption | (apply And.right; (first | assumption | (apply And.right; (first | assumption | (apply And.right; assumption))))))))))))))))))))))))))))))))))))
  k_with "x m cj" => (with_reducible first | assumption | (apply And.left; k_extra "x m rt") | (apply And.right; k_extra "x m rt"))
  k_with "x m sz" => (with_reducible first | exact Nat.lt_add_one _ | (apply Nat.lt_add_one_of_lt; (first | exact Nat.lt_add_one _ | (apply Nat.lt_add_one_of_lt; (first | exact Nat.lt_add_one _ | (apply Nat.lt_add_one_of_lt; (first | exact Nat.lt_add_one _ | (apply Nat.lt_add_one_of_lt; (first | exact Nat.lt_add_one _ | (apply Nat.lt_add_one_of_lt; (first | exact Nat.lt_add_one _ | (apply Nat.lt_add_one_of_lt; (first | exact Nat.lt_add_one _ | (apply Nat.lt_add_one_of_lt; (exact Nat.lt_add_one _)))))))))))))))
  k_with "x m ne" => (first | exact Nat.ne_of_gt (by k_extra "x m cj") | exact Nat.ne_of_lt (by k_extra "x m cj") | exact Nat.ne_of_lt (by k_extra "x m sz") | exact Nat.ne_of_gt (by k_extra "x m sz") | k_extra "x m cj" | exact Ne.symm (by k_extra "x m cj") | exact Nat.ne_of_gt (lt_tr (by with_reducible assumption) (by k_extra "x m cj")) | exact Nat.ne_of_lt (lt_tr (by with_reducible assumption) (by k_extra "x m cj")))
  k_with "x m k_ne" => ((refine neN ?_; (try dsimp only); (fail_if_success (fail_if_success omega)); first | k_extra "x m ne" | omega))
  k_with "x m room" => (first | exact room3 (by assumption) (by decide) | exact room2 (by assumption) (by decide) | exact room0 (by assumption) | exact Nat.le_of_ble_eq_true rfl | ktr_room)
  k_with "x m units" => (first | exact room3 (by assumption) (by decide) | exact room2 (by assumption) (by decide) | exact Nat.le_of_ble_eq_true rfl | ktr_units)
  k_with "x m size" => (first | exact Nat.le_trans (by assumption) (by decide) | omega)
  k_with "x m atIf" => (repeat' (first | (k_unfold; (try dsimp only)) | (k_end; wrow_close) | ((fail_if_success (with_reducible show LCg.CompSrc _ _ _ _ _ _ _ _ _ _ _ _ _ _)); (fail_if_success (with_reducible show wpAny _ _ (exec (Stmt.If _ _ _ _) _) _ _ _)); first | walk1 | (dsimp only; walk1) | (leave1; (try dsimp only)))))
  k_with "x m atTest" => (repeat' (first | (k_unfold; (try dsimp only)) | (k_end; wrow_close) | ((fail_if_success (with_reducible show LCg.CompSrc _ _ _ _ _ _ _ _ _ _ _ _ _ _)); (fail_if_success (with_reducible show wpAny _ _ (isTrue (Expr.BoolOp _ _ _) _ _) _ _ _)); first | walk1 | (dsimp only; walk1) | (leave1; (try dsimp only)))))
  k_with "x m atAsg" => (repeat' (first | (k_unfold; (try dsimp only)) | (k_end; wrow_close) | ((fail_if_success (with_reducible show LCg.CompSrc _ _ _ _ _ _ _ _ _ _ _ _ _ _)); (fail_if_success (with_reducible show wpAny _ _ (exec (Stmt.Assign _ _ _) _) _ _ _)); first | walk1 | (dsimp only; walk1) | (leave1; (try dsimp only)))))
  k_with "x m toIf" => (repeat' (first | (k_unfold; (try dsimp only)) | (k_end; wrow_close) | ((fail_if_success (with_reducible show LCg.CompSrc _ _ _ _ _ _ _ _ _ _ _ _ _ _)); (fail_if_success (with_reducible show wpAny _ _ (execs (Stmt.If _ _ _ _ :: _) _) _ _ _)); first | walk1 | (dsimp only; walk1) | (leave1; (try dsimp only)))))
  k_with "x compareOp NotEq str str" => ((with_reducible refine str_ne (by assumption) ?_))
  k_with "x compareOp Eq str str" => ((with_reducible refine str_eq (by assumption) ?_))
  k_with "x m k_room" => (k_extra "x m room")
  k_with "x m pos" => (first | with_reducible assumption | decide | exact pow10_pos _ | omega | (refine Int.mul_pos ?_ ?_ <;> k_extra "x m pos") | (dsimp only; omega))
  k_with "x m bt" => (first
  | with_reducible assumption
  | (with_reducible apply Bt.pow10 (j := 80); omega)
  | (with_reducible apply Bt.mul <;> k_extra "x m bt")
  | (with_reducible apply Bt.add <;> k_extra "x m bt")
  | (with_reducible apply Bt.sub <;> k_extra "x m bt")
  | (with_reducible apply Bt.fdiv; (k_extra "x m bt"); (k_extra "x m pos"))
  | (with_reducible apply Bt.fmod; (k_extra "x m bt"); (k_extra "x m pos"))
  | (with_reducible apply Bt.neg; k_extra "x m bt")
  | (with_reducible apply Bt.abs; k_extra "x m bt")
  | exact Bt.rng (k := 70) (by decide) (by decide)
  | exact Bt.sm (by with_reducible assumption) (by with_reducible assumption) (by decide)
  | exact Bt.rng (k := 70) (by omega) (by omega))
  k_with "x m bts" => ((with_reducible apply Bt.mono; (k_extra "x m bt"); decide))
  k_with "x binaryOp Mult int int" => ((refine' PyProof.Rows.mul_int ?_ (Bt.ok (by k_extra "x m bt") (by k_extra "x m bt") (by decide))))
  k_with "x binaryOp FloorDiv int int" => ((refine' PyProof.Rows.floordiv_int (by first | decide | exact Int.ne_of_gt (by k_extra "x m pos") | omega) ?_ (Or.inl (PyProof.noPylong_of_log2 (Bt.log (by k_extra "x m bt") (by decide) (by decide))))))
  k_with "x binaryOp Mod int int" => ((refine' PyProof.Rows.mod_int' (by first | decide | exact Int.ne_of_gt (by k_extra "x m pos") | omega) ?_))
  k_with "x binaryOp Pow int int" => ((refine' PyProof.Rows.pow_int_small (by omega) (by omega) (by decide) ?_))
  k_with "x call ref" => ((k_here; k_dflt (refine' c_nearest_whole (by k_asm) (by k_asm) (by k_asm) (by k_asm) (by k_asm) (by first | exact rfl | assumption) (by k_extra "x m room") (by k_extra "x m units") (by k_extra "x m pos") (by k_extra "x m bts") (by k_extra "x m bts") ?_; k_whole; intro v9 t9 h9 tk9 ev9 bv9 F9 N9); (try k_sweep); (try dsimp only); (try k_fold)))
  k_with "x call ref" => ((k_here; k_dflt (refine' c_gcd (by k_asm) (by k_asm) (by k_asm) (by k_asm) (by k_asm) (by first | exact rfl | assumption) (by k_extra "x m room") (by k_extra "x m units") (by (first | omega | exact Int.natCast_nonneg _)) (by k_extra "x m pos") (by k_extra "x m bts") ?_; k_whole; intro g9 t9 h9 tk9 eg9 pg9 bg9 F9 N9); (try k_sweep); (try dsimp only); (try k_fold)))
  k_with "x call ref" => ((k_here; k_dflt (refine' c_make (by k_asm) (by k_asm) (by k_asm) (by k_asm) (by k_asm) (by first | exact rfl | assumption) (by k_extra "x m room") (by k_extra "x m units") (by k_extra "x m pos") (by k_extra "x m bts") (by k_extra "x m bts") ?_; k_whole; intro D9 t9 u9 c9 h9 tk9 F9 N9 l9); (try k_sweep); (try dsimp only); (try k_fold)))
  k_with "x call ref" => ((k_here; k_dflt (refine' c_rounded (by k_asm) (by k_asm) (by k_asm) (by k_asm) (by k_asm) (by first | exact rfl | assumption) (by k_extra "x m room") (by k_extra "x m units") (by k_mem) (by k_extra "x m pos") (by k_extra "x m bts") (by k_extra "x m bts") (by omega) (by omega) ?_; k_whole; intro D9 t9 u9 c9 h9 tk9 F9 N9 l9); (try k_sweep); (try dsimp only); (try k_fold)))
  k_with "x call ref" => ((k_here; k_dflt (refine' c_exponent (by k_asm) (by k_asm) (by k_asm) (by k_asm) (by k_asm) (by first | exact rfl | assumption) (by k_extra "x m room") (by k_extra "x m units") (by k_mem) (by assumption) (by assumption) (by assumption) (by assumption) ?_; k_whole; intro e9 t9 h9 tk9 pl9 F9 N9); (have lo9 := PlaceIs.lo pl9); (have hi9 := PlaceIs.hi pl9);(try k_sweep); (try dsimp only); (try k_fold)))
  k_with "x call ref" => ((k_here; k_dflt (refine' c_lowest (by k_asm) (by k_asm) (by k_asm) (by k_asm) (by k_asm) (by first | exact rfl | assumption) (by k_extra "x m room") (by k_extra "x m units") (by k_extra "x m pos") (by k_extra "x m bts") (by k_extra "x m bts") ?_; k_whole; intro D9 t9 u9 c9 h9 tk9 F9 N9 l9); (try k_sweep); (try dsimp only); (try k_fold)))
  trivial
set_option maxHeartbeats 8000000 in
theorem c_lnear_na {w : World} {mean : ExcName → Option Value} {mg mb : Str → Option Value} {dp un : Nat} {gd : Option (List Code)} {cn : Str} {cs : Scope} {a : Addr} {ccd : Value} {cl : List (Str × Addr)} {outer : List Env} {A₀ : Around} {base h₀ : Heap} {L : Addr} {m : Str → Option Value} {s : Shared} {Q E : Value → Shared → Prop} {news : List (Addr × Obj)}
    {p : Int} {tp : Tok} (B : Below A₀ base outer h₀) (F : Fr h₀ L s.heap m) (X : (K39 w.params).In h₀) (N : News h₀ L s.heap news) (T : Top view (looseW view []) mean mg mb h₀) (hk : cs.kind = .function) (_hdp : dp + 5 < recursionLimit) (_hun : un + 500 < cLine)
    (hret : ∀ h' tk', Fr h₀ L h' m → News h₀ L h' news → Q .none { s with heap := h', toks := tk' }) :
    wpAny (model Challenge.rw_pq1313_01.row.prog w) (ktrTop dp un gd cn cs L a ccd cl outer) (call (.ref 210) [.none, .int p tp]) Q E s := by
  refine wpAny_call ?_
  k_dflt cell_enter
  k_steps
  all_goals exact hret _ _ (by k_asm) (by k_asm)
set_option maxHeartbeats 8000000 in
theorem c_lnear_0 {w : World} {mean : ExcName → Option Value} {mg mb : Str → Option Value} {dp un : Nat} {gd : Option (List Code)} {cn : Str} {cs : Scope} {a : Addr} {ccd : Value} {cl : List (Str × Addr)} {outer : List Env} {A₀ : Around} {base h₀ : Heap} {L : Addr} {m : Str → Option Value} {s : Shared} {Q E : Value → Shared → Prop} {news : List (Addr × Obj)}
    {n p : Int} {x : Addr} {tn td tp : Tok} {cx : Nat} (B : Below A₀ base outer h₀) (F : Fr h₀ L s.heap m) (X : (K39 w.params).In h₀) (N : News h₀ L s.heap news) (T : Top view (looseW view []) mean mg mb h₀) (hk : cs.kind = .function) (_hdp : dp + 5 < recursionLimit) (_hun : un + 500 < cLine)
    (hx : (x, tupo n 0 tn td cx) ∈ news)
    (hret : ∀ h' tk', Fr h₀ L h' m → News h₀ L h' news → Q (.ref x) { s with heap := h', toks := tk' }) :
    wpAny (model Challenge.rw_pq1313_01.row.prog w) (ktrTop dp un gd cn cs L a ccd cl outer) (call (.ref 210) [.ref x, .int p tp]) Q E s := by
  refine wpAny_call ?_
  k_dflt cell_enter
  k_steps
  all_goals exact hret _ _ (by k_asm) (by k_asm)
/-- behind a statement that leaves all but one int name as it was -/
structure CntEnd (c : Str) (v : Int) (h₀ : Heap) (L : Addr) (m : Str → Option Value) (base : List (Addr × Obj)) (s : Shared) (f : Flow) (s' : Shared) : Prop where
  ex : f = .next ∧ ∃ h' tk' t m', s' = { s with heap := h', toks := tk' } ∧ (∀ y, m' y = if y = c then some (.int v t) else m y) ∧ Fr h₀ L h' m' ∧ News h₀ L h' base
section
variable {c : Str} {v q : Int} {h₀ h' : Heap} {L : Addr} {m : Str → Option Value} {base : List (Addr × Obj)} {s : Shared} {t : Tok} {tk' : Nat}
theorem CntEnd.kept (F : Fr h₀ L h' m) (N : News h₀ L h' base) (hm : m c = some (.int q t)) (e : q = v) : CntEnd c v h₀ L m base s .next { s with heap := h', toks := tk' } :=
  ⟨rfl, h', tk', t, m, rfl, fun y => by split; (subst_vars; exact hm); rfl, F, N⟩
theorem CntEnd.stored (F : Fr h₀ L h' (fun y => if y = c then some (.int q t) else m y)) (N : News h₀ L h' base) (e : q = v) : CntEnd c v h₀ L m base s .next { s with heap := h', toks := tk' } :=
  ⟨rfl, h', tk', t, _, rfl, fun y => by rw [← e], F, N⟩
theorem mid_cnt {p q₀ b₀ : Int} {na nb np : Str} {ta tb tp : Tok} (F : Fr h₀ L h' m) (ha : m na = some (.int q₀ ta)) (hb : m nb = some (.int b₀ tb)) (hp : m np = some (.int p tp)) :
    ∃ (q b' : Int) (ta' tb' tp' : Tok) (m₁ : Str → Option Value), q = q₀ ∧ b' = b₀ ∧ Fr h₀ L h' (fun z => if z = na then some (.int q ta') else if z = nb then some (.int b' tb') else if z = np then some (.int p tp') else m₁ z) := by
  refine ⟨q₀, b₀, ta, tb, tp, m, rfl, rfl, ?_⟩
  have e : (fun z => if z = na then some (.int q₀ ta) else if z = nb then some (.int b₀ tb) else if z = np then some (.int p tp) else m z) = m := by
    funext z
    split
    · subst_vars; exact ha.symm
    · split
      · subst_vars; exact hb.symm
      · split
        · subst_vars; exact hp.symm
        · rfl
  rw [e]; exact F
theorem cut_cnt {M : Model} {A : Around} {E : Value → Shared → Prop} {st : Stmt} {env : Env} {Q : Flow → Shared → Prop} (c : Str) (v : Int) (_F : Fr h₀ L s.heap m) (_N : News h₀ L s.heap base)
    (h1 : wpAny M A (exec st env) (CntEnd c v h₀ L m base s) E s)
    (h2 : ∀ h' tk' t, Fr h₀ L h' (fun y => if y = c then some (.int v t) else m y) → News h₀ L h' base → Q .next { s with heap := h', toks := tk' }) : wpAny M A (exec st env) Q E s :=
  wpAny_mono h1 (fun f s' h => by
    obtain ⟨rfl, h', tk', t, m', rfl, e, F, N⟩ := h.ex
    obtain rfl : m' = _ := funext e
    exact h2 h' tk' t F N) fun _ _ e => e
end
set_option maxHeartbeats 8000000 in
theorem c_lnear_1 {w : World} {mean : ExcName → Option Value} {mg mb : Str → Option Value} {dp un : Nat} {gd : Option (List Code)} {cn : Str} {cs : Scope} {a : Addr} {ccd : Value} {cl : List (Str × Addr)} {outer : List Env} {A₀ : Around} {base h₀ : Heap} {L : Addr} {m : Str → Option Value} {s : Shared} {Q E : Value → Shared → Prop} {news : List (Addr × Obj)}
    {n d p : Int} {x : Addr} {tn td tp : Tok} {cx : Nat} (B : Below A₀ base outer h₀) (F : Fr h₀ L s.heap m) (X : (K39 w.params).In h₀) (N : News h₀ L s.heap news) (T : Top view (looseW view []) mean mg mb h₀) (hk : cs.kind = .function) (_hdp : dp + 5 < recursionLimit) (_hun : un + 500 < cLine)
    (hx : (x, tupo n d tn td cx) ∈ news) (hd0 : 0 < d) (hn1 : Bt 40 n) (hd1 : Bt 40 d) (hp1 : -60 ≤ p) (hp2 : p ≤ 60)
    (hret : ∀ D t u c h' tk', Fr h₀ L h' m → News h₀ L h' ((D, tupo (rnd n d p).1 (rnd n d p).2 t u c) :: news) → (∀ p ∈ news, p.1 < D) → Q (.ref D) { s with heap := h', toks := tk' }) :
    wpAny (model Challenge.rw_pq1313_01.row.prog w) (ktrTop dp un gd cn cs L a ccd cl outer) (call (.ref 210) [.ref x, .int p tp]) Q E s := by
  obtain ⟨T₁, hT⟩ : ∃ T₁ : Int, T₁ = if 0 ≤ p then n * 10 ^ p.toNat else n := ⟨_, rfl⟩
  obtain ⟨U₁, hU⟩ : ∃ U₁ : Int, U₁ = if 0 ≤ p then d else d * 10 ^ (0 - p).toNat := ⟨_, rfl⟩
  have bT : Bt 400 T₁ := by
    rw [hT]; split
    · k_extra "x m bts"
    · k_extra "x m bts"
  have bU : Bt 400 U₁ := by
    rw [hU]; split
    · k_extra "x m bts"
    · k_extra "x m bts"
  have pU : 0 < U₁ := by
    rw [hU]; split
    · exact hd0
    · exact Int.mul_pos hd0 (pow10_pos _)
  refine wpAny_call ?_
  k_dflt cell_enter
  k_extra "x m atIf"
  walk1
  k_extra "x m atAsg"
  any_goals (exfalso; omega; done)
  k_dflt (refine' cut_cnt (Str.ofString "tops") T₁ ?aF ?aN ?a1 ?a2)
  case aF => k_asm
  case aN => k_asm
  case a1 =>
    refine with_post fun Q9 hQ9 => ?_
    k_steps
    all_goals exact hQ9 _ _ (CntEnd.stored (by k_asm) (by k_asm) (by rw [hT]; first | rw [if_pos (by assumption)] | rw [if_neg (by assumption)]))
  case a2 =>
    intro h1 tk1 t1 F1 N1
    k_extra "x m atAsg"
    k_dflt (refine' cut_cnt (Str.ofString "unders") U₁ ?bF ?bN ?b1 ?b2)
    case bF => k_asm
    case bN => k_asm
    case b1 =>
      refine with_post fun Q9 hQ9 => ?_
      k_steps
      all_goals exact hQ9 _ _ (CntEnd.stored (by k_asm) (by k_asm) (by rw [hU]; first | rw [if_pos (by assumption)] | rw [if_neg (by assumption)]))
    case b2 =>
      intro h2 tk2 t2 F2 N2
      k_extra "x m atIf"
      rename Fr _ _ _ (fun y => if y = Str.ofString "beyond" then _ else _) => F8
      obtain ⟨q, b, t7, t8, t9, m₁, hq, hb, F9⟩ := mid_cnt (na := Str.ofString "count") (nb := Str.ofString "beyond") (np := Str.ofString "digits") F8 (by with_unfolding_all rfl) (by with_unfolding_all rfl) (by with_unfolding_all rfl)
      clear F8
      k_dflt (refine' cut_cnt (Str.ofString "count") (nw T₁ U₁) ?cF ?cN ?h1 ?h2)
      case cF => k_asm
      case cN => k_asm
      case h1 =>
        refine with_post fun Q9 hQ9 => ?_
        k_steps
        all_goals (refine hQ9 _ _ ?_; first
          | exact CntEnd.kept (by k_asm) (by k_asm) (by with_unfolding_all rfl) (by subst hq hb; unfold nw; split <;> first | rfl | (exfalso; omega))
          | exact CntEnd.stored (by k_asm) (by k_asm) (by subst hq hb; unfold nw; split <;> first | rfl | (exfalso; omega)))
      case h2 =>
        clear hq hb
        have hbv := Bt.nw pU bT
        intro h9 tk9 t9 F9 N9
        k_steps
        all_goals exact rnd_end hret (by k_asm) (by k_asm) (by assumption) (by unfold rnd; subst hT hU; first | simp only [if_pos (by assumption : 0 ≤ p)] | simp only [if_neg (by assumption : ¬ 0 ≤ p)])
theorem c_lnear {w : World} {mean : ExcName → Option Value} {mg mb : Str → Option Value} {dp un : Nat} {gd : Option (List Code)} {cn : Str} {cs : Scope} {a : Addr} {ccd : Value} {cl : List (Str × Addr)} {outer : List Env} {A₀ : Around} {base h₀ : Heap} {L : Addr} {m : Str → Option Value} {s : Shared} {Q E : Value → Shared → Prop} {news : List (Addr × Obj)}
    {p : Int} {v : Value} {e : Ent} {tp : Tok} (B : Below A₀ base outer h₀) (F : Fr h₀ L s.heap m) (X : (K39 w.params).In h₀) (N : News h₀ L s.heap news) (T : Top view (looseW view []) mean mg mb h₀) (hk : cs.kind = .function) (_hdp : dp + 5 < recursionLimit) (_hun : un + 500 < cLine)
    (hv : DatIn news v e.dat) (he : e.Ok) (hb : e.Dbl) (hp1 : -60 ≤ p) (hp2 : p ≤ 60) (hret : EntRet h₀ L m news s Q v e (rhe p e)) :
    wpAny (model Challenge.rw_pq1313_01.row.prog w) (ktrTop dp un gd cn cs L a ccd cl outer) (call (.ref 210) [v, .int p tp]) Q E s := by
  cases e with
  | na =>
    obtain rfl := ent_na hv
    exact c_lnear_na B F X N T hk _hdp _hun fun h' tk' F' N' => EntRet.same hret F' N'
  | whole i => exact hb.elim
  | frac n d =>
    obtain ⟨x, t, u, c, rfl, hx⟩ := ent_frac hv
    obtain ⟨h1, h2, h3⟩ := he
    by_cases hd : 0 < d
    · refine c_lnear_1 B F X N T hk _hdp _hun hx hd h1 h2 hp1 hp2 fun D t u c h' tk' F' N' l => EntRet.one (v₀ := .ref x) (e₀ := .frac n d) ?_ F' N' l
      simpa only [rhe, if_pos hd] using hret
    · have : d = 0 := by omega
      subst this
      refine c_lnear_0 B F X N T hk _hdp _hun hx fun h' tk' F' N' => EntRet.same (e := .frac n 0) ?_ F' N'
      simpa only [rhe, if_neg hd] using hret


/-- the law's search for the place, from 20 downward -/
noncomputable def Lp (N D e : Int) : Prop := -20 ≤ e ∧ e ≤ 20 ∧ N * 10 ^ 20 < D * 10 ^ (21 + e).toNat
theorem lp_start {N D : Int} (hD : 0 < D) (bN : Bt 40 N) : Lp N D 20 := by
  refine ⟨by decide, by decide, ?_⟩
  have hN : N < 2 ^ 40 := by
    have := bN.out
    omega
  show N * 10 ^ 20 < D * 10 ^ 41
  have : (2 : Int) ^ 40 * 10 ^ 20 < 10 ^ 41 := by decide
  omega
theorem lp_step {N D e : Int} (hN : 0 < N) (hD : 0 < D) (bD : Bt 40 D) (h : Lp N D e) (hn : N * 10 ^ 20 < D * 10 ^ (20 + e).toNat) : Lp N D (e - 1) := by
  obtain ⟨h1, h2, h3⟩ := h
  have hd : D < 2 ^ 40 := by
    have := bD.out
    omega
  have h4 : e ≠ -20 := by
    rintro rfl
    have h5 : N * 10 ^ 20 < D := by simpa using hn
    have h6 : (2 : Int) ^ 40 < 10 ^ 20 := by decide
    omega
  exact ⟨by omega, by omega, by rw [show 21 + (e - 1) = 20 + e by omega]; exact hn⟩
theorem lp_all {N D e : Int} (h : Lp N D e) : -20 ≤ e ∧ e ≤ 20 ∧ Lp N D e := ⟨h.1, h.2.1, h⟩
theorem lp_meas {N D e : Int} (h : Lp N D e) (hn : N * 10 ^ 20 < D * 10 ^ (20 + e).toNat) (hN : 0 < N) (hD : 0 < D) (bD : Bt 40 D) : (e - 1 + 20).toNat < (e + 20).toNat := by
  have := (lp_step hN hD bD h hn).1
  omega
theorem lp_last {N D e : Int} (h : Lp N D e) (hn : ¬ N * 10 ^ 20 < D * 10 ^ (20 + e).toNat) : PlaceIs N D e := ⟨h.1, h.2.1, by omega, h.2.2⟩

set_option maxHeartbeats 8000000 in
theorem c_lplace {w : World} {mean : ExcName → Option Value} {mg mb : Str → Option Value} {dp un : Nat} {gd : Option (List Code)} {cn : Str} {cs : Scope} {a : Addr} {ccd : Value} {cl : List (Str × Addr)} {outer : List Env} {A₀ : Around} {base h₀ : Heap} {L : Addr} {m : Str → Option Value} {s : Shared} {Q E : Value → Shared → Prop} {news : List (Addr × Obj)}
    {n d : Int} {x : Addr} {tn td : Tok} {cx : Nat} (B : Below A₀ base outer h₀) (F : Fr h₀ L s.heap m) (X : (K39 w.params).In h₀) (N : News h₀ L s.heap news) (T : Top view (looseW view []) mean mg mb h₀) (hk : cs.kind = .function) (_hdp : dp + 2 < recursionLimit) (_hun : un + 200 < cLine)
    (hx : (x, tupo n d tn td cx) ∈ news) (hn0 : n ≠ 0) (hd0 : 0 < d) (hn1 : Bt 40 n) (hd1 : Bt 40 d)
    (hret : ∀ t h' tk', -20 ≤ place n d → place n d ≤ 20 → Fr h₀ L h' m → News h₀ L h' news → Q (.int (place n d) t) { s with heap := h', toks := tk' }) :
    wpAny (model Challenge.rw_pq1313_01.row.prog w) (ktrTop dp un gd cn cs L a ccd cl outer) (call (.ref 217) [.ref x]) Q E s := by
  have hN0 : 0 < (if n < 0 then -n else n) := by split <;> omega
  have hN1 : Bt 40 (if n < 0 then -n else n) := by split; exact hn1.neg; exact hn1
  refine wpAny_call ?_
  k_dflt cell_enter
  k_with "exec While Compare cons nil" => k_while (fun _ e => -20 ≤ e ∧ e ≤ 20 ∧ Lp (if n < 0 then -n else n) d e) (fun _ e => (e + 20).toNat) "place"
  k_with "state" => first | exact lp_all (lp_start hd0 hN1) | exact lp_all (lp_step hN0 hd0 hd1 (by assumption) (by assumption))
  k_with "measure" => exact lp_meas (by assumption) (by assumption) hN0 hd0 hd1
  k_steps
  k_with_none
  rename Lp _ _ _ => lp9
  have pl9 := lp_last lp9 (by assumption)
  have lo9 := pl9.lo
  have hi9 := pl9.hi
  obtain rfl := place_is hd0 pl9
  exact hret _ _ _ lo9 hi9 (by k_asm) (by k_asm)


/-- the chain's object: a list of at most 80 ints, each 0 to 1008 -/
structure ChainIs (o : Obj) : Prop where
  ex : ∃ (vs : List Value) (k : Nat) (ns : List Int), o = listOf vs.toArray k ∧ IntsAre vs ns ∧ vs.length ≤ 80 ∧ ∀ x ∈ ns, 0 ≤ x
/-- the chain's object behind a pearl's taking -/
noncomputable def popO (o : Obj) : Obj := match o.data with
  | .seq a k => listOf a.toList.tail.toArray (k + min 1 a.size)
  | _ => o

theorem ln_12 : True := by
  k_with "x m rt" => (first | assumption | (apply And.right; (first | assumption | (apply And.right; (first | assumption | (apply And.right; (first | assumption | (apply And.right; (first | assumption | (apply And.right; (first | assumption | (apply And.right; (first | assumption | (apply And.right; (first | assumption | (apply And.right; (first | assumption | (apply And.right; (first | assumption | (apply And.right; (first | assumption | (apply And.right; (first | assumption | (apply And.right; (first | assumption | (apply And.right; (first | assumption | (apply And.right; (first | assumption | (apply And.right; (first | assumption | (apply And.right; (first | assumption | (apply And.right; (first | assumption | (apply And.right; assumption))))))))))))))))))))))))))))))))))))
  k_with "x m cj" => (with_reducible first | assumption | (apply And.left; k_extra "x m rt") | (apply And.right; k_extra "x m rt"))
  k_with "x m sz" => (with_reducible first | exact Nat.lt_add_one _ | (apply Nat.lt_add_one_of_lt; (first | exact Nat.lt_add_one _ | (apply Nat.lt_add_one_of_lt; (first | exact Nat.lt_add_one _ | (apply Nat.lt_add_one_of_lt; (first | exact Nat.lt_add_one _ | (apply Nat.lt_add_one_of_lt; (first | exact Nat.lt_add_one _ | (apply Nat.lt_add_one_of_lt; (first | exact Nat.lt_add_one _ | (apply Nat.lt_add_one_of_lt; (first | exact Nat.lt_add_one _ | (apply Nat.lt_add_one_of_lt; (exact Nat.lt_add_one _)))))))))))))))
  k_with "x m ne" => (first | exact Nat.ne_of_gt (by k_extra "x m cj") | exact Nat.ne_of_lt (by k_extra "x m cj") | exact Nat.ne_of_lt (by k_extra "x m sz") | exact Nat.ne_of_gt (by k_extra "x m sz") | k_extra "x m cj" | exact Ne.symm (by k_extra "x m cj") | exact Nat.ne_of_gt (lt_tr (by with_reducible assumption) (by k_extra "x m cj")) | exact Nat.ne_of_lt (lt_tr (by with_reducible assumption) (by k_extra "x m cj")))
  k_with "x m k_ne" => ((refine neN ?_; (try dsimp only); (fail_if_success (fail_if_success omega)); first | k_extra "x m ne" | omega))
  k_with "x m room" => (first | exact room3 (by assumption) (by decide) | exact room2 (by assumption) (by decide) | exact room0 (by assumption) | exact Nat.le_of_ble_eq_true rfl | ktr_room)
  k_with "x m units" => (first | exact room3 (by assumption) (by decide) | exact room2 (by assumption) (by decide) | exact Nat.le_of_ble_eq_true rfl | ktr_units)
  k_with "x m size" => (first | exact Nat.le_trans (by assumption) (by decide) | omega)
  k_with "x m atIf" => (repeat' (first | (k_unfold; (try dsimp only)) | (k_end; wrow_close) | ((fail_if_success (with_reducible show LCg.CompSrc _ _ _ _ _ _ _ _ _ _ _ _ _ _)); (fail_if_success (with_reducible show wpAny _ _ (exec (Stmt.If _ _ _ _) _) _ _ _)); first | walk1 | (dsimp only; walk1) | (leave1; (try dsimp only)))))
  k_with "x m atTest" => (repeat' (first | (k_unfold; (try dsimp only)) | (k_end; wrow_close) | ((fail_if_success (with_reducible show LCg.CompSrc _ _ _ _ _ _ _ _ _ _ _ _ _ _)); (fail_if_success (with_reducible show wpAny _ _ (isTrue (Expr.BoolOp _ _ _) _ _) _ _ _)); first | walk1 | (dsimp only; walk1) | (leave1; (try dsimp only)))))
  k_with "x m atAsg" => (repeat' (first | (k_unfold; (try dsimp only)) | (k_end; wrow_close) | ((fail_if_success (with_reducible show LCg.CompSrc _ _ _ _ _ _ _ _ _ _ _ _ _ _)); (fail_if_success (with_reducible show wpAny _ _ (exec (Stmt.Assign _ _ _) _) _ _ _)); first | walk1 | (dsimp only; walk1) | (leave1; (try dsimp only)))))
  k_with "x m toIf" => (repeat' (first | (k_unfold; (try dsimp only)) | (k_end; wrow_close) | ((fail_if_success (with_reducible show LCg.CompSrc _ _ _ _ _ _ _ _ _ _ _ _ _ _)); (fail_if_success (with_reducible show wpAny _ _ (execs (Stmt.If _ _ _ _ :: _) _) _ _ _)); first | walk1 | (dsimp only; walk1) | (leave1; (try dsimp only)))))
  k_with "x compareOp NotEq str str" => ((with_reducible refine str_ne (by assumption) ?_))
  k_with "x compareOp Eq str str" => ((with_reducible refine str_eq (by assumption) ?_))
  k_with "x m k_room" => (k_extra "x m room")
  k_with "x m pos" => (first | with_reducible assumption | decide | exact pow10_pos _ | omega | (refine Int.mul_pos ?_ ?_ <;> k_extra "x m pos") | (dsimp only; omega))
  k_with "x m bt" => (first
  | with_reducible assumption
  | (with_reducible apply Bt.pow10 (j := 80); omega)
  | (with_reducible apply Bt.mul <;> k_extra "x m bt")
  | (with_reducible apply Bt.add <;> k_extra "x m bt")
  | (with_reducible apply Bt.sub <;> k_extra "x m bt")
  | (with_reducible apply Bt.fdiv; (k_extra "x m bt"); (k_extra "x m pos"))
  | (with_reducible apply Bt.fmod; (k_extra "x m bt"); (k_extra "x m pos"))
  | (with_reducible apply Bt.neg; k_extra "x m bt")
  | (with_reducible apply Bt.abs; k_extra "x m bt")
  | exact Bt.rng (k := 70) (by decide) (by decide)
  | exact Bt.sm (by with_reducible assumption) (by with_reducible assumption) (by decide)
  | exact Bt.rng (k := 70) (by omega) (by omega))
  k_with "x m bts" => ((with_reducible apply Bt.mono; (k_extra "x m bt"); decide))
  k_with "x binaryOp Mult int int" => ((refine' PyProof.Rows.mul_int ?_ (Bt.ok (by k_extra "x m bt") (by k_extra "x m bt") (by decide))))
  k_with "x binaryOp FloorDiv int int" => ((refine' PyProof.Rows.floordiv_int (by first | decide | exact Int.ne_of_gt (by k_extra "x m pos") | omega) ?_ (Or.inl (PyProof.noPylong_of_log2 (Bt.log (by k_extra "x m bt") (by decide) (by decide))))))
  k_with "x binaryOp Mod int int" => ((refine' PyProof.Rows.mod_int' (by first | decide | exact Int.ne_of_gt (by k_extra "x m pos") | omega) ?_))
  k_with "x binaryOp Pow int int" => ((refine' PyProof.Rows.pow_int_small (by omega) (by omega) (by decide) ?_))
  k_with "x call ref" => ((k_here; k_dflt (refine' c_nearest_whole (by k_asm) (by k_asm) (by k_asm) (by k_asm) (by k_asm) (by first | exact rfl | assumption) (by k_extra "x m room") (by k_extra "x m units") (by k_extra "x m pos") (by k_extra "x m bts") (by k_extra "x m bts") ?_; k_whole; intro v9 t9 h9 tk9 ev9 bv9 F9 N9); (try k_sweep); (try dsimp only); (try k_fold)))
  k_with "x call ref" => ((k_here; k_dflt (refine' c_gcd (by k_asm) (by k_asm) (by k_asm) (by k_asm) (by k_asm) (by first | exact rfl | assumption) (by k_extra "x m room") (by k_extra "x m units") (by (first | omega | exact Int.natCast_nonneg _)) (by k_extra "x m pos") (by k_extra "x m bts") ?_; k_whole; intro g9 t9 h9 tk9 eg9 pg9 bg9 F9 N9); (try k_sweep); (try dsimp only); (try k_fold)))
  k_with "x call ref" => ((k_here; k_dflt (refine' c_make (by k_asm) (by k_asm) (by k_asm) (by k_asm) (by k_asm) (by first | exact rfl | assumption) (by k_extra "x m room") (by k_extra "x m units") (by k_extra "x m pos") (by k_extra "x m bts") (by k_extra "x m bts") ?_; k_whole; intro D9 t9 u9 c9 h9 tk9 F9 N9 l9); (try k_sweep); (try dsimp only); (try k_fold)))
  k_with "x call ref" => ((k_here; k_dflt (refine' c_rounded (by k_asm) (by k_asm) (by k_asm) (by k_asm) (by k_asm) (by first | exact rfl | assumption) (by k_extra "x m room") (by k_extra "x m units") (by k_mem) (by k_extra "x m pos") (by k_extra "x m bts") (by k_extra "x m bts") (by omega) (by omega) ?_; k_whole; intro D9 t9 u9 c9 h9 tk9 F9 N9 l9); (try k_sweep); (try dsimp only); (try k_fold)))
  k_with "x call ref" => ((k_here; k_dflt (refine' c_exponent (by k_asm) (by k_asm) (by k_asm) (by k_asm) (by k_asm) (by first | exact rfl | assumption) (by k_extra "x m room") (by k_extra "x m units") (by k_mem) (by assumption) (by assumption) (by assumption) (by assumption) ?_; k_whole; intro e9 t9 h9 tk9 pl9 F9 N9); (have lo9 := PlaceIs.lo pl9); (have hi9 := PlaceIs.hi pl9);(try k_sweep); (try dsimp only); (try k_fold)))
  k_with "x call ref" => ((k_here; k_dflt (refine' c_lowest (by k_asm) (by k_asm) (by k_asm) (by k_asm) (by k_asm) (by first | exact rfl | assumption) (by k_extra "x m room") (by k_extra "x m units") (by k_extra "x m pos") (by k_extra "x m bts") (by k_extra "x m bts") ?_; k_whole; intro D9 t9 u9 c9 h9 tk9 F9 N9 l9); (try k_sweep); (try dsimp only); (try k_fold)))
  k_with "x call ref" => ((k_here; k_dflt (refine' c_lplace (by k_asm) (by k_asm) (by k_asm) (by k_asm) (by k_asm) (by first | exact rfl | assumption) (by k_extra "x m room") (by k_extra "x m units") (by k_mem) (by assumption) (by assumption) (by assumption) (by assumption) ?_; k_whole; intro t9 h9 tk9 lo9 hi9 F9 N9); (try k_sweep); (try dsimp only); (try k_fold)))
  trivial
theorem pop_first {prog : Program} {w : World} {A : Around} {E : Value → Shared → Prop} {s : Shared} {h₀ : Heap} {L D : Addr} {m : Str → Option Value} {news news' : List (Addr × Obj)} {n : Nat} {u : Tok} {y : Value} {q : List Value} {Q : Value → Shared → Prop}
    (F : Fr h₀ L s.heap m) (N : News h₀ L s.heap news) (U : Upd D (listOf (y :: q).toArray n) (listOf q.toArray (n + 1)) news news') (hz : (y :: q).length ≤ sizeLine)
    (h : ∀ h', Fr h₀ L h' m → News h₀ L h' news' → Q y { s with heap := h' }) : wpAny (model prog w) A (call (.builtin "list.pop") [.ref D, .int 0 u]) Q E s :=
  kl_popAt (p := []) (q := q) (k := 0) F N (by decide) (by simp [seqIndex?]) rfl U hz h
theorem ln_13 : True := by
  k_with "x m k_all" => (assumption)
  k_with "x call builtin:list.pop" => ((k_here; (with_reducible show wpAny _ _ (call (Value.builtin _) [Value.ref _, Value.int 0 _]) _ _ _); k_dflt (refine' pop_first (by k_asm) (by k_asm) (by k_upd) (by assumption) ?_); intro h' F' N'))
  trivial

set_option maxHeartbeats 8000000 in
theorem c_pearl_nil {w : World} {mean : ExcName → Option Value} {mg mb : Str → Option Value} {dp un : Nat} {gd : Option (List Code)} {cn : Str} {cs : Scope} {a : Addr} {ccd : Value} {cl : List (Str × Addr)} {outer : List Env} {A₀ : Around} {base h₀ : Heap} {L : Addr} {m : Str → Option Value} {s : Shared} {Q E : Value → Shared → Prop} {news : List (Addr × Obj)}
    {C : Addr} {k : Nat} {most : Int} {tm : Tok} (B : Below A₀ base outer h₀) (F : Fr h₀ L s.heap m) (X : (K39 w.params).In h₀) (T : Top view (looseW view []) mean mg mb h₀) (hk : cs.kind = .function) (_hdp : dp + 2 < recursionLimit) (_hun : un + 200 < cLine)
    (N : News h₀ L s.heap ((C, listOf ([] : List Value).toArray k) :: news)) (_hC : ∀ p ∈ news, p.1 ≠ C)
    (hret : ∀ t h' tk', Fr h₀ L h' m → News h₀ L h' ((C, listOf ([] : List Value).toArray k) :: news) → Q (.int 0 t) { s with heap := h', toks := tk' }) :
    wpAny (model Challenge.rw_pq1313_01.row.prog w) (ktrTop dp un gd cn cs L a ccd cl outer) (call (.ref 189) [.ref C, .int most tm]) Q E s := by
  refine wpAny_call ?_
  k_dflt cell_enter
  k_steps
  rename News h₀ L _ _ => kN9
  exact hret _ _ _ (by k_asm) (cb_drop kN9 fun p hp => .tail _ hp)
set_option maxHeartbeats 8000000 in
theorem c_pearl_cons {w : World} {mean : ExcName → Option Value} {mg mb : Str → Option Value} {dp un : Nat} {gd : Option (List Code)} {cn : Str} {cs : Scope} {a : Addr} {ccd : Value} {cl : List (Str × Addr)} {outer : List Env} {A₀ : Around} {base h₀ : Heap} {L : Addr} {m : Str → Option Value} {s : Shared} {Q E : Value → Shared → Prop} {news : List (Addr × Obj)}
    {C : Addr} {k : Nat} {most x : Int} {tm t : Tok} {vs : List Value} {ns : List Int} (B : Below A₀ base outer h₀) (F : Fr h₀ L s.heap m) (X : (K39 w.params).In h₀) (T : Top view (looseW view []) mean mg mb h₀) (hk : cs.kind = .function) (_hdp : dp + 2 < recursionLimit) (_hun : un + 200 < cLine)
    (N : News h₀ L s.heap ((C, listOf (Value.int x t :: vs).toArray k) :: news)) (hC : ∀ p ∈ news, p.1 ≠ C)
    (hi : IntsAre vs ns) (hl : (Value.int x t :: vs).length ≤ sizeLine) (hm : 0 < most)
    (hret : ∀ t h' tk', Fr h₀ L h' m → News h₀ L h' ((C, listOf vs.toArray (k + 1)) :: news) → Q (.int (x.fmod most) t) { s with heap := h', toks := tk' }) :
    wpAny (model Challenge.rw_pq1313_01.row.prog w) (ktrTop dp un gd cn cs L a ccd cl outer) (call (.ref 189) [.ref C, .int most tm]) Q E s := by
  refine wpAny_call ?_
  k_dflt cell_enter
  k_steps
  any_goals (exfalso; simp_all; done)
  rename News h₀ L _ _ => kN9
  exact hret _ _ _ (by k_asm) (cb_drop kN9 fun p hp => .tail _ hp)
theorem upd_out {d : Addr} {o o' : Obj} {l l' : List (Addr × Obj)} (U : Upd d o o' l l') : ∃ r, (∀ p ∈ r, p.1 ≠ d) ∧ (∀ p ∈ (d, o) :: r, p ∈ l) ∧ ∀ p ∈ l', p ∈ (d, o') :: r := by
  obtain ⟨pre, post, rfl, rfl, h1, h2⟩ := U.split
  refine ⟨pre ++ post, fun p hp => ?_, fun p hp => ?_, fun p hp => ?_⟩
  · rcases List.mem_append.mp hp with hp | hp
    · exact h1 p hp
    · exact h2 p hp
  · simp only [List.mem_cons, List.mem_append] at hp ⊢
    rcases hp with hp | hp | hp
    · exact .inr (.inl hp)
    · exact .inl hp
    · exact .inr (.inr hp)
  · simp only [List.mem_cons, List.mem_append] at hp ⊢
    rcases hp with hp | hp | hp
    · exact .inr (.inl hp)
    · exact .inl hp
    · exact .inr (.inr hp)
theorem c_pearl {w : World} {mean : ExcName → Option Value} {mg mb : Str → Option Value} {dp un : Nat} {gd : Option (List Code)} {cn : Str} {cs : Scope} {a : Addr} {ccd : Value} {cl : List (Str × Addr)} {outer : List Env} {A₀ : Around} {base h₀ : Heap} {L : Addr} {m : Str → Option Value} {s : Shared} {Q E : Value → Shared → Prop} {news : List (Addr × Obj)}
    {C : Addr} {oC : Obj} {news' : List (Addr × Obj)} {most : Int} {tm : Tok} (B : Below A₀ base outer h₀) (F : Fr h₀ L s.heap m) (X : (K39 w.params).In h₀) (N : News h₀ L s.heap news) (T : Top view (looseW view []) mean mg mb h₀) (hk : cs.kind = .function) (_hdp : dp + 2 < recursionLimit) (_hun : un + 200 < cLine)
    (hch : ChainIs oC) (U : Upd C oC (popO oC) news news') (hm : 0 < most)
    (hret : ∀ x t h' tk', 0 ≤ x → x < most → ChainIs (popO oC) → Fr h₀ L h' m → News h₀ L h' news' → Q (.int x t) { s with heap := h', toks := tk' }) :
    wpAny (model Challenge.rw_pq1313_01.row.prog w) (ktrTop dp un gd cn cs L a ccd cl outer) (call (.ref 189) [.ref C, .int most tm]) Q E s := by
  obtain ⟨vs, k, ns, rfl, hi, hl, hp⟩ := hch
  obtain ⟨r, h1, h2, h3⟩ := upd_out U
  cases hi with
  | nil =>
    refine c_pearl_nil B F X T hk _hdp _hun (cb_drop N h2) h1 fun t h' tk' F' N' => hret 0 t h' tk' (by decide) hm ⟨[], k, [], rfl, .nil, hl, hp⟩ F' (cb_drop N' h3)
  | cons x t hi' =>
    refine c_pearl_cons B F X T hk _hdp _hun (cb_drop N h2) h1 hi' (by rw [sizeLine_eq]; k_extra "x m size") hm fun t h' tk' F' N' => hret _ t h' tk' ?_ ?_ ⟨_, _, _, rfl, hi', ?_, ?_⟩ F' (cb_drop N' h3)
    · rw [Int.fmod_eq_emod_of_nonneg _ (Int.le_of_lt hm)]; exact Int.emod_nonneg _ (Int.ne_of_gt hm)
    · rw [Int.fmod_eq_emod_of_nonneg _ (Int.le_of_lt hm)]; exact Int.emod_lt_of_pos _ hm
    · simp only [List.length_cons] at hl; simp; omega
    · exact fun y hy => hp y (.tail _ hy)

theorem ln_14 : True := by
  k_with "x call ref" => ((k_here; k_dflt (refine' c_pearl (by k_asm) (by k_asm) (by k_asm) (by k_asm) (by k_asm) (by first | exact rfl | assumption) (by k_extra "x m room") (by k_extra "x m units") (by assumption) (by k_upd) (by decide) ?_; k_whole; intro x9 t9 h9 tk9 lo9 hi9 ch9 F9 N9); (try k_sweep); (try dsimp only); (try k_fold)))
  trivial

theorem allLt_mem {d : Addr} {l : List (Addr × Obj)} (h : AllLt d l) : ∀ p ∈ l, p.1 < d := by
  induction l with
  | nil => exact fun p hp => nomatch hp
  | cons q r ih =>
    intro p hp
    have h' : @LT.lt Nat _ q.1 d ∧ AllLt d r := h
    rcases List.mem_cons.mp hp with e | hp
    · rw [e]; exact h'.1
    · exact ih h'.2 p hp
/-- ints from 0 on -/
noncomputable def NN (c : List Int) : Prop := ∀ x ∈ c, 0 ≤ x
theorem NN.nil : NN [] := fun _ h => nomatch h
theorem fmod_nn (x : Int) {y : Int} (hy : 0 < y) : 0 ≤ x.fmod y := by rw [Int.fmod_eq_emod_of_nonneg _ (Int.le_of_lt hy)]; exact Int.emod_nonneg _ (Int.ne_of_gt hy)
theorem fdiv_nn {x y : Int} (hx : 0 ≤ x) (hy : 0 < y) : 0 ≤ x.fdiv y := by rw [Int.fdiv_eq_ediv_of_nonneg _ (Int.le_of_lt hy)]; exact Int.ediv_nonneg hx (Int.le_of_lt hy)
theorem NN.snoc {c : List Int} {x y : Int} (h : NN c) (hy : 0 < y) : NN (c ++ [x.fmod y]) := fun z hz => by
  rcases List.mem_append.mp hz with hz | hz
  · exact h z hz
  · rw [List.mem_singleton.mp hz]; exact fmod_nn _ hy
set_option maxHeartbeats 8000000 in
theorem c_pearls {w : World} {mean : ExcName → Option Value} {mg mb : Str → Option Value} {dp un : Nat} {gd : Option (List Code)} {cn : Str} {cs : Scope} {a : Addr} {ccd : Value} {cl : List (Str × Addr)} {outer : List Env} {A₀ : Around} {base h₀ : Heap} {L : Addr} {m : Str → Option Value} {s : Shared} {Q E : Value → Shared → Prop} {news : List (Addr × Obj)}
    {l : Addr} {vs : List Value} {ns : List Int} (B : Below A₀ base outer h₀) (F : Fr h₀ L s.heap m) (X : (K39 w.params).In h₀) (N : News h₀ L s.heap news) (T : Top view (looseW view []) mean mg mb h₀) (hk : cs.kind = .function) (_hdp : dp + 1 < recursionLimit) (_hun : un + 100 < cLine)
    (hl : base.IsList l vs.toArray) (hi : IntsAre vs ns) (hn : ns.length ≤ 63)
    (hret : ∀ D oC h' tk', ChainIs oC → Fr h₀ L h' m → News h₀ L h' ((D, oC) :: news) → (∀ p ∈ news, p.1 < D) → Q (.ref D) { s with heap := h', toks := tk' }) :
    wpAny (model Challenge.rw_pq1313_01.row.prog w) (ktrTop dp un gd cn cs L a ccd cl outer) (call (.ref 182) [.ref l]) Q E s := by
  refine wpAny_call ?_
  k_dflt cell_enter
  k_with "pyIter ref" => k_of "one" => k_state (fun pre chain => chain.length ≤ 12 * pre.length ∧ NN chain) "chain"
  k_with "pyIter ref" => k_of "hop" => k_state_given ["chain!"] (fun c₀ pre chain left => chain.length ≤ c₀.length + pre.length ∧ NN chain ∧ 0 ≤ left) "chain" "left"
  k_with "state" => (simp only [List.length_append, List.length_cons, List.length_nil]; first
    | exact ⟨Nat.zero_le _, NN.nil⟩
    | exact ⟨by omega, by assumption, by omega⟩
    | exact ⟨by omega, NN.snoc (by assumption) (by decide), fdiv_nn (by assumption) (by decide)⟩
    | exact ⟨by omega, NN.snoc (by assumption) (by decide)⟩
    | exact ⟨by ((have hr9 := rangeKs_length 0 (12 - 0).toNat); omega), by assumption⟩)
  k_steps
  k_with_none
  rename News h₀ L _ _ => kN9
  rename IntsAre _ (List.take 80 _) => hi9
  rename NN _ => nn9
  rename (_ : Nat) < _ ∧ _ < _ ∧ AllLt _ _ => l9
  refine hret _ _ _ _ ⟨_, 0, _, rfl, hi9, ?_, fun x hx => nn9 x (List.mem_of_mem_take hx)⟩ (by k_asm) (cb_drop kN9 ?_) (allLt_mem l9.2.2)
  · rw [hi9.length, List.length_take]; omega
  · intro p hp
    rcases List.mem_cons.mp hp with rfl | hp
    · exact .head _
    · exact .tail _ (.tail _ (.tail _ hp))


theorem ln_15 : True := by
  k_with "x m rt" => (first | assumption | (apply And.right; (first | assumption | (apply And.right; (first | assumption | (apply And.right; (first | assumption | (apply And.right; (first | assumption | (apply And.right; (first | assumption | (apply And.right; (first | assumption | (apply And.right; (first | assumption | (apply And.right; (first | assumption | (apply And.right; (first | assumption | (apply And.right; (first | assumption | (apply And.right; (first | assumption | (apply And.right; (first | assumption | (apply And.right; (first | assumption | (apply And.right; (first | assumption | (apply And.right; (first | assumption | (apply And.right; (first | assumption | (apply And.right; (first | assumption | (apply And.right; assumption))))))))))))))))))))))))))))))))))))
  k_with "x m cj" => (with_reducible first | assumption | (apply And.left; k_extra "x m rt") | (apply And.right; k_extra "x m rt"))
  k_with "x m sz" => (with_reducible first | exact Nat.lt_add_one _ | (apply Nat.lt_add_one_of_lt; (first | exact Nat.lt_add_one _ | (apply Nat.lt_add_one_of_lt; (first | exact Nat.lt_add_one _ | (apply Nat.lt_add_one_of_lt; (first | exact Nat.lt_add_one _ | (apply Nat.lt_add_one_of_lt; (first | exact Nat.lt_add_one _ | (apply Nat.lt_add_one_of_lt; (first | exact Nat.lt_add_one _ | (apply Nat.lt_add_one_of_lt; (first | exact Nat.lt_add_one _ | (apply Nat.lt_add_one_of_lt; (exact Nat.lt_add_one _)))))))))))))))
  k_with "x m ne" => (first | exact Nat.ne_of_gt (by k_extra "x m cj") | exact Nat.ne_of_lt (by k_extra "x m cj") | exact Nat.ne_of_lt (by k_extra "x m sz") | exact Nat.ne_of_gt (by k_extra "x m sz") | k_extra "x m cj" | exact Ne.symm (by k_extra "x m cj") | exact Nat.ne_of_gt (lt_tr (by with_reducible assumption) (by k_extra "x m cj")) | exact Nat.ne_of_lt (lt_tr (by with_reducible assumption) (by k_extra "x m cj")))
  k_with "x m k_ne" => ((refine neN ?_; (try dsimp only); (fail_if_success (fail_if_success omega)); first | k_extra "x m ne" | omega))
  k_with "x m room" => (first | exact room3 (by assumption) (by decide) | exact room2 (by assumption) (by decide) | exact room0 (by assumption) | exact Nat.le_of_ble_eq_true rfl | ktr_room)
  k_with "x m units" => (first | exact room3 (by assumption) (by decide) | exact room2 (by assumption) (by decide) | exact Nat.le_of_ble_eq_true rfl | ktr_units)
  k_with "x m size" => (first | exact Nat.le_trans (by assumption) (by decide) | omega)
  k_with "x m atIf" => (repeat' (first | (k_unfold; (try dsimp only)) | (k_end; wrow_close) | ((fail_if_success (with_reducible show LCg.CompSrc _ _ _ _ _ _ _ _ _ _ _ _ _ _)); (fail_if_success (with_reducible show wpAny _ _ (exec (Stmt.If _ _ _ _) _) _ _ _)); first | walk1 | (dsimp only; walk1) | (leave1; (try dsimp only)))))
  k_with "x m atTest" => (repeat' (first | (k_unfold; (try dsimp only)) | (k_end; wrow_close) | ((fail_if_success (with_reducible show LCg.CompSrc _ _ _ _ _ _ _ _ _ _ _ _ _ _)); (fail_if_success (with_reducible show wpAny _ _ (isTrue (Expr.BoolOp _ _ _) _ _) _ _ _)); first | walk1 | (dsimp only; walk1) | (leave1; (try dsimp only)))))
  k_with "x m atAsg" => (repeat' (first | (k_unfold; (try dsimp only)) | (k_end; wrow_close) | ((fail_if_success (with_reducible show LCg.CompSrc _ _ _ _ _ _ _ _ _ _ _ _ _ _)); (fail_if_success (with_reducible show wpAny _ _ (exec (Stmt.Assign _ _ _) _) _ _ _)); first | walk1 | (dsimp only; walk1) | (leave1; (try dsimp only)))))
  k_with "x m toIf" => (repeat' (first | (k_unfold; (try dsimp only)) | (k_end; wrow_close) | ((fail_if_success (with_reducible show LCg.CompSrc _ _ _ _ _ _ _ _ _ _ _ _ _ _)); (fail_if_success (with_reducible show wpAny _ _ (execs (Stmt.If _ _ _ _ :: _) _) _ _ _)); first | walk1 | (dsimp only; walk1) | (leave1; (try dsimp only)))))
  k_with "x compareOp NotEq str str" => ((with_reducible refine str_ne (by assumption) ?_))
  k_with "x compareOp Eq str str" => ((with_reducible refine str_eq (by assumption) ?_))
  k_with "x m k_room" => (k_extra "x m room")
  k_with "x m pos" => (first | with_reducible assumption | decide | exact pow10_pos _ | omega | (refine Int.mul_pos ?_ ?_ <;> k_extra "x m pos") | (dsimp only; omega))
  k_with "x m bt" => (first
  | with_reducible assumption
  | (with_reducible apply Bt.pow10 (j := 80); omega)
  | (with_reducible apply Bt.mul <;> k_extra "x m bt")
  | (with_reducible apply Bt.add <;> k_extra "x m bt")
  | (with_reducible apply Bt.sub <;> k_extra "x m bt")
  | (with_reducible apply Bt.fdiv; (k_extra "x m bt"); (k_extra "x m pos"))
  | (with_reducible apply Bt.fmod; (k_extra "x m bt"); (k_extra "x m pos"))
  | (with_reducible apply Bt.neg; k_extra "x m bt")
  | (with_reducible apply Bt.abs; k_extra "x m bt")
  | exact Bt.rng (k := 70) (by decide) (by decide)
  | exact Bt.sm (by with_reducible assumption) (by with_reducible assumption) (by decide)
  | exact Bt.rng (k := 70) (by omega) (by omega))
  k_with "x m bts" => ((with_reducible apply Bt.mono; (k_extra "x m bt"); decide))
  k_with "x binaryOp Mult int int" => ((refine' PyProof.Rows.mul_int ?_ (Bt.ok (by k_extra "x m bt") (by k_extra "x m bt") (by decide))))
  k_with "x binaryOp FloorDiv int int" => ((refine' PyProof.Rows.floordiv_int (by first | decide | exact Int.ne_of_gt (by k_extra "x m pos") | omega) ?_ (Or.inl (PyProof.noPylong_of_log2 (Bt.log (by k_extra "x m bt") (by decide) (by decide))))))
  k_with "x binaryOp Mod int int" => ((refine' PyProof.Rows.mod_int' (by first | decide | exact Int.ne_of_gt (by k_extra "x m pos") | omega) ?_))
  k_with "x binaryOp Pow int int" => ((refine' PyProof.Rows.pow_int_small (by omega) (by omega) (by decide) ?_))
  k_with "x call ref" => ((k_here; k_dflt (refine' c_nearest_whole (by k_asm) (by k_asm) (by k_asm) (by k_asm) (by k_asm) (by first | exact rfl | assumption) (by k_extra "x m room") (by k_extra "x m units") (by k_extra "x m pos") (by k_extra "x m bts") (by k_extra "x m bts") ?_; k_whole; intro v9 t9 h9 tk9 ev9 bv9 F9 N9); (try k_sweep); (try dsimp only); (try k_fold)))
  k_with "x call ref" => ((k_here; k_dflt (refine' c_gcd (by k_asm) (by k_asm) (by k_asm) (by k_asm) (by k_asm) (by first | exact rfl | assumption) (by k_extra "x m room") (by k_extra "x m units") (by (first | omega | exact Int.natCast_nonneg _)) (by k_extra "x m pos") (by k_extra "x m bts") ?_; k_whole; intro g9 t9 h9 tk9 eg9 pg9 bg9 F9 N9); (try k_sweep); (try dsimp only); (try k_fold)))
  k_with "x call ref" => ((k_here; k_dflt (refine' c_make (by k_asm) (by k_asm) (by k_asm) (by k_asm) (by k_asm) (by first | exact rfl | assumption) (by k_extra "x m room") (by k_extra "x m units") (by k_extra "x m pos") (by k_extra "x m bts") (by k_extra "x m bts") ?_; k_whole; intro D9 t9 u9 c9 h9 tk9 F9 N9 l9); (try k_sweep); (try dsimp only); (try k_fold)))
  k_with "x call ref" => ((k_here; k_dflt (refine' c_rounded (by k_asm) (by k_asm) (by k_asm) (by k_asm) (by k_asm) (by first | exact rfl | assumption) (by k_extra "x m room") (by k_extra "x m units") (by k_mem) (by k_extra "x m pos") (by k_extra "x m bts") (by k_extra "x m bts") (by omega) (by omega) ?_; k_whole; intro D9 t9 u9 c9 h9 tk9 F9 N9 l9); (try k_sweep); (try dsimp only); (try k_fold)))
  k_with "x call ref" => ((k_here; k_dflt (refine' c_exponent (by k_asm) (by k_asm) (by k_asm) (by k_asm) (by k_asm) (by first | exact rfl | assumption) (by k_extra "x m room") (by k_extra "x m units") (by k_mem) (by assumption) (by assumption) (by assumption) (by assumption) ?_; k_whole; intro e9 t9 h9 tk9 pl9 F9 N9); (have lo9 := PlaceIs.lo pl9); (have hi9 := PlaceIs.hi pl9);(try k_sweep); (try dsimp only); (try k_fold)))
  k_with "x call ref" => ((k_here; k_dflt (refine' c_lowest (by k_asm) (by k_asm) (by k_asm) (by k_asm) (by k_asm) (by first | exact rfl | assumption) (by k_extra "x m room") (by k_extra "x m units") (by k_extra "x m pos") (by k_extra "x m bts") (by k_extra "x m bts") ?_; k_whole; intro D9 t9 u9 c9 h9 tk9 F9 N9 l9); (try k_sweep); (try dsimp only); (try k_fold)))
  k_with "x call ref" => ((k_here; k_dflt (refine' c_lplace (by k_asm) (by k_asm) (by k_asm) (by k_asm) (by k_asm) (by first | exact rfl | assumption) (by k_extra "x m room") (by k_extra "x m units") (by k_mem) (by assumption) (by assumption) (by assumption) (by assumption) ?_; k_whole; intro t9 h9 tk9 lo9 hi9 F9 N9); (try k_sweep); (try dsimp only); (try k_fold)))
  k_with "x m k_all" => (assumption)
  k_with "x call builtin:list.pop" => ((k_here; (with_reducible show wpAny _ _ (call (Value.builtin _) [Value.ref _, Value.int 0 _]) _ _ _); k_dflt (refine' pop_first (by k_asm) (by k_asm) (by k_upd) (by assumption) ?_); intro h' F' N'))
  k_with "x call ref" => ((k_here; k_dflt (refine' c_pearl (by k_asm) (by k_asm) (by k_asm) (by k_asm) (by k_asm) (by first | exact rfl | assumption) (by k_extra "x m room") (by k_extra "x m units") (by assumption) (by k_upd) (by decide) ?_; k_whole; intro x9 t9 h9 tk9 lo9 hi9 ch9 F9 N9); (try k_sweep); (try dsimp only); (try k_fold)))
  k_with "x call ref" => ((k_here; k_dflt (refine' c_pearls (by k_asm) (by k_asm) (by k_asm) (by k_asm) (by k_asm) (by first | exact rfl | assumption) (by k_extra "x m room") (by k_extra "x m units") (by assumption) (by assumption) (by omega) ?_; k_whole; intro D9 oC9 h9 tk9 ch9 F9 N9 l9); (try k_lt l9);(try k_sweep); (try dsimp only); (try k_fold)))
  trivial
theorem dat_int {news : List (Addr × Obj)} {i : Int} {t : Tok} : DatIn news (.int i t) (Ent.whole i).dat := .int i t
/-- what a call of _law_entry leaves behind -/
noncomputable abbrev LeRet (h₀ : Heap) (L : Addr) (m : Str → Option Value) (C : Addr) (news : List (Addr × Obj)) (s : Shared) (Q : Value → Shared → Prop) (P : Ent → Prop) : Prop :=
  ∀ e v add oC' h' tk', P e → e.Ok → ChainIs oC' → Fr h₀ L h' m → News h₀ L h' (add ++ (C, oC') :: news) → C ∉ add.map (·.1) → (∀ q ∈ news, ∀ p ∈ add, q.1 < p.1) → DatIn add v e.dat → Q v { s with heap := h', toks := tk' }
section
variable {h₀ h' : Heap} {L C : Addr} {m : Str → Option Value} {news : List (Addr × Obj)} {s : Shared} {Q : Value → Shared → Prop} {P : Ent → Prop} {tk' : Nat} {oC' : Obj}
theorem LeRet.na (h : LeRet h₀ L m C news s Q P) (hP : P .na) (hc : ChainIs oC') (F : Fr h₀ L h' m) (N : News h₀ L h' ((C, oC') :: news)) : Q .none { s with heap := h', toks := tk' } :=
  h .na .none [] oC' h' tk' hP trivial hc F N (fun hp => nomatch hp) (fun _ _ _ hp => nomatch hp) .none
theorem LeRet.int {i : Int} {t : Tok} (h : LeRet h₀ L m C news s Q P) (hP : P (.whole i)) (hb : Bt 40 i) (hc : ChainIs oC') (F : Fr h₀ L h' m) (N : News h₀ L h' ((C, oC') :: news)) : Q (.int i t) { s with heap := h', toks := tk' } :=
  h (.whole i) (.int i t) [] oC' h' tk' hP hb hc F N (fun hp => nomatch hp) (fun _ _ _ hp => nomatch hp) dat_int
theorem LeRet.frac {D : Addr} {n d : Int} {t u : Tok} {c : Nat} (h : LeRet h₀ L m C news s Q P) (hP : P (.frac n d)) (hb : (Ent.frac n d).Ok) (hc : ChainIs oC') (F : Fr h₀ L h' m) (N : News h₀ L h' ((D, tupo n d t u c) :: (C, oC') :: news)) (l1 : C < D) (l : AllLt D news) : Q (.ref D) { s with heap := h', toks := tk' } :=
  h (.frac n d) (.ref D) [(D, tupo n d t u c)] oC' h' tk' hP hb hc F N (fun hp => absurd (List.mem_singleton.mp hp) (Nat.ne_of_lt l1)) (fun q hq p hp => by rw [List.mem_singleton.mp hp]; exact allLt_mem l q hq) (ent_of_frac (.head _))
theorem LeRet.frac2 {D : Addr} {n d : Int} {t u : Tok} {c : Nat} {big : List (Addr × Obj)} (h : LeRet h₀ L m C news s Q P) (hP : P (.frac n d)) (hb : (Ent.frac n d).Ok) (hc : ChainIs oC') (F : Fr h₀ L h' m) (N : News h₀ L h' big)
    (mD : (D, tupo n d t u c) ∈ big) (mC : (C, oC') ∈ big) (ms : ∀ p ∈ news, p ∈ big) (l1 : C < D) (l : ∀ p ∈ news, p.1 < D) : Q (.ref D) { s with heap := h', toks := tk' } :=
  h (.frac n d) (.ref D) [(D, tupo n d t u c)] oC' h' tk' hP hb hc F (cb_drop N fun p hp => by
    rcases List.mem_cons.mp hp with e | hp
    · rw [e]; exact mD
    · rcases List.mem_cons.mp hp with e | hp
      · rw [e]; exact mC
      · exact ms p hp) (fun hp => absurd (List.mem_singleton.mp hp) (Nat.ne_of_lt l1)) (fun q hq p hp => by rw [List.mem_singleton.mp hp]; exact l q hq) (ent_of_frac (.head _))
end
theorem bt_mod {x y : Int} (hy : 0 < y) (h : Bt 39 y) : Bt 40 (x.fmod y) := (h.fmod hy).mono (by decide)
theorem bt_big {x : Int} : Bt 40 (x.fmod 2147483647 - 1000000000) := by
  have h1 := fmod_nn x (y := 2147483647) (by decide)
  have h2 := fmod_hi x (n := 2147483647) (by decide)
  exact Bt.rng (by omega) (by omega)
theorem under_is {x : Int} (h0 : 0 ≤ x) (h1 : x < 6) : 0 < ([1, 2, 20, 200, 8, 1000] : List Int).getD x.toNat 0 ∧ ([1, 2, 20, 200, 8, 1000] : List Int).getD x.toNat 0 ≤ 1000 := by
  have : x = 0 ∨ x = 1 ∨ x = 2 ∨ x = 3 ∨ x = 4 ∨ x = 5 := by omega
  rcases this with rfl | rfl | rfl | rfl | rfl | rfl <;> decide
theorem under_bt {x : Int} (h0 : 0 ≤ x) (h1 : x < 6) : Bt 10 (([1, 2, 20, 200, 8, 1000] : List Int).getD x.toNat 0) := by
  have := under_is h0 h1
  exact Bt.rng (by omega) (by omega)
theorem ln_16 : True := by
  k_with "x m pos" => (exact (under_is (by assumption) (by assumption)).1)
  k_with "x m bt" => (exact under_bt (by assumption) (by assumption))
  trivial
theorem four_ways {x : Int} (h0 : 0 ≤ x) (h1 : x < 4) : x = 0 ∨ x = 1 ∨ x = 2 ∨ x = 3 := by omega
theorem low_ok {n d : Int} (hn : Bt 40 n) (hd : Bt 40 d) (h0 : 0 < d) : (Ent.frac (mkN n d) (mkD n d)).Ok :=
  ⟨hn.fdiv (gcd_pos h0), hd.fdiv (gcd_pos h0), fdiv_nn (Int.le_of_lt h0) (gcd_pos h0)⟩
set_option maxHeartbeats 8000000 in
theorem c_le_log {w : World} {mean : ExcName → Option Value} {mg mb : Str → Option Value} {dp un : Nat} {gd : Option (List Code)} {cn : Str} {cs : Scope} {a : Addr} {ccd : Value} {cl : List (Str × Addr)} {outer : List Env} {A₀ : Around} {base h₀ : Heap} {L : Addr} {m : Str → Option Value} {s : Shared} {Q E : Value → Shared → Prop} {news : List (Addr × Obj)}
    {C : Addr} {oC : Obj} {tc : Tok} (B : Below A₀ base outer h₀) (F : Fr h₀ L s.heap m) (X : (K39 w.params).In h₀) (T : Top view (looseW view []) mean mg mb h₀) (hk : cs.kind = .function) (_hdp : dp + 3 < recursionLimit) (_hun : un + 300 < cLine)
    (N : News h₀ L s.heap ((C, oC) :: news)) (hC : ∀ p ∈ news, p.1 ≠ C) (hch : ChainIs oC)
    (hret : LeRet h₀ L m C news s Q fun e => e = .na ∨ ∃ i, e = .whole i) :
    wpAny (model Challenge.rw_pq1313_01.row.prog w) (ktrTop dp un gd cn cs L a ccd cl outer) (call (.ref 203) [.ref C, .str (Str.ofString "logical") tc]) Q E s := by
  refine wpAny_call ?_
  k_dflt cell_enter
  k_steps
  all_goals rename News h₀ L _ _ => kN9
  · exact LeRet.na hret (.inl rfl) (by assumption) (by k_asm) kN9
  · exact LeRet.int hret (.inr ⟨_, rfl⟩) (bt_mod (by decide) (Bt.rng (by decide) (by decide))) (by assumption) (by k_asm) kN9
set_option maxHeartbeats 8000000 in
theorem c_le_int {w : World} {mean : ExcName → Option Value} {mg mb : Str → Option Value} {dp un : Nat} {gd : Option (List Code)} {cn : Str} {cs : Scope} {a : Addr} {ccd : Value} {cl : List (Str × Addr)} {outer : List Env} {A₀ : Around} {base h₀ : Heap} {L : Addr} {m : Str → Option Value} {s : Shared} {Q E : Value → Shared → Prop} {news : List (Addr × Obj)}
    {C : Addr} {oC : Obj} {tc : Tok} (B : Below A₀ base outer h₀) (F : Fr h₀ L s.heap m) (X : (K39 w.params).In h₀) (T : Top view (looseW view []) mean mg mb h₀) (hk : cs.kind = .function) (_hdp : dp + 3 < recursionLimit) (_hun : un + 300 < cLine)
    (N : News h₀ L s.heap ((C, oC) :: news)) (hC : ∀ p ∈ news, p.1 ≠ C) (hch : ChainIs oC)
    (hret : LeRet h₀ L m C news s Q fun e => e = .na ∨ ∃ i, e = .whole i) :
    wpAny (model Challenge.rw_pq1313_01.row.prog w) (ktrTop dp un gd cn cs L a ccd cl outer) (call (.ref 203) [.ref C, .str (Str.ofString "integer") tc]) Q E s := by
  refine wpAny_call ?_
  k_dflt cell_enter
  k_steps
  all_goals rename News h₀ L _ _ => kN9
  · exact LeRet.na hret (.inl rfl) (by assumption) (by k_asm) kN9
  · exact LeRet.int hret (.inr ⟨_, rfl⟩) bt_big (by assumption) (by k_asm) kN9
  · exact LeRet.int hret (.inr ⟨_, rfl⟩) (Bt.rng (by omega) (by omega)) (by assumption) (by k_asm) kN9
set_option maxHeartbeats 8000000 in
theorem c_le_dbl {w : World} {mean : ExcName → Option Value} {mg mb : Str → Option Value} {dp un : Nat} {gd : Option (List Code)} {cn : Str} {cs : Scope} {a : Addr} {ccd : Value} {cl : List (Str × Addr)} {outer : List Env} {A₀ : Around} {base h₀ : Heap} {L : Addr} {m : Str → Option Value} {s : Shared} {Q E : Value → Shared → Prop} {news : List (Addr × Obj)}
    {C : Addr} {oC : Obj} {tc : Tok} (B : Below A₀ base outer h₀) (F : Fr h₀ L s.heap m) (X : (K39 w.params).In h₀) (T : Top view (looseW view []) mean mg mb h₀) (hk : cs.kind = .function) (_hdp : dp + 3 < recursionLimit) (_hun : un + 300 < cLine)
    (N : News h₀ L s.heap ((C, oC) :: news)) (hC : ∀ p ∈ news, p.1 ≠ C) (hch : ChainIs oC)
    (hret : LeRet h₀ L m C news s Q fun e => e.Dbl) :
    wpAny (model Challenge.rw_pq1313_01.row.prog w) (ktrTop dp un gd cn cs L a ccd cl outer) (call (.ref 203) [.ref C, .str (Str.ofString "double") tc]) Q E s := by
  refine wpAny_call ?_
  k_dflt cell_enter
  k_steps
  · rename News h₀ L _ _ => kN9
    exact LeRet.na hret trivial (by assumption) (by k_asm) kN9
  · rename (_ : Int) < 4 => hi4
    rename (0 : Int) ≤ _ => lo4
    rcases four_ways lo4 hi4 with rfl | rfl | rfl | rfl
    all_goals (
      k_steps
      rename News h₀ L _ _ => kN9
      repeat (rename (_ : Nat) < _ ∧ _ => hc9; obtain ⟨_, _⟩ := hc9)
      refine' LeRet.frac2 hret ?hP ?hb ?hc ?hF kN9 ?mD ?mC ?ms ?l1 ?l
      case mD => k_mem
      case mC => k_mem
      case hP => exact trivial
      case hb => exact ⟨Bt.rng (by decide) (by decide), Bt.rng (by decide) (by decide), by decide⟩
      case hc => assumption
      case hF => k_asm
      case ms => exact fun p hp => .tail _ (.tail _ (.tail _ (.tail _ (.tail _ (.tail _ hp)))))
      case l1 => assumption
      case l => exact allLt_mem (by assumption))
  all_goals (
    rename News h₀ L _ _ => kN9
    rename (∀ p : Addr × Obj, p ∈ _ → p.1 < _) => l9
    refine' LeRet.frac2 hret ?hP ?hb ?hc ?hF kN9 ?mD ?mC ?ms ?l1 ?l
    case mD => k_mem
    case mC => k_mem
    case hP => exact trivial
    case hb => exact low_ok (Bt.rng (by omega) (by omega)) ((under_bt (by assumption) (by assumption)).mono (by decide)) (under_is (by assumption) (by assumption)).1
    case hc => assumption
    case hF => k_asm
    case ms => exact fun p hp => .tail _ (.tail _ (.tail _ hp))
    case l1 => exact l9 _ (.tail _ (.head _))
    case l => exact fun p hp => l9 p (.tail _ (.tail _ hp)))
theorem c_lentry {w : World} {mean : ExcName → Option Value} {mg mb : Str → Option Value} {dp un : Nat} {gd : Option (List Code)} {cn : Str} {cs : Scope} {a : Addr} {ccd : Value} {cl : List (Str × Addr)} {outer : List Env} {A₀ : Around} {base h₀ : Heap} {L : Addr} {m : Str → Option Value} {s : Shared} {Q E : Value → Shared → Prop} {news : List (Addr × Obj)}
    {C : Addr} {oC : Obj} {K : Str} {tc : Tok} (B : Below A₀ base outer h₀) (F : Fr h₀ L s.heap m) (X : (K39 w.params).In h₀) (T : Top view (looseW view []) mean mg mb h₀) (hk : cs.kind = .function) (_hdp : dp + 3 < recursionLimit) (_hun : un + 300 < cLine)
    (N : News h₀ L s.heap ((C, oC) :: news)) (hC : ∀ p ∈ news, p.1 ≠ C) (hch : ChainIs oC)
    (hK : K = Str.ofString "logical" ∨ K = Str.ofString "integer" ∨ K = Str.ofString "double")
    (hret : LeRet h₀ L m C news s Q fun e => if K = Str.ofString "double" then e.Dbl else e = .na ∨ ∃ i, e = .whole i) :
    wpAny (model Challenge.rw_pq1313_01.row.prog w) (ktrTop dp un gd cn cs L a ccd cl outer) (call (.ref 203) [.ref C, .str K tc]) Q E s := by
  rcases hK with rfl | rfl | rfl
  · simp only [if_neg (show ¬ Str.ofString "logical" = Str.ofString "double" by decide)] at hret
    exact c_le_log B F X T hk _hdp _hun N hC hch hret
  · simp only [if_neg (show ¬ Str.ofString "integer" = Str.ofString "double" by decide)] at hret
    exact c_le_int B F X T hk _hdp _hun N hC hch hret
  · simp only [if_true] at hret
    exact c_le_dbl B F X T hk _hdp _hun N hC hch hret


theorem dat_mono {news news' : List (Addr × Obj)} {v : Value} {d : Dat} (h : DatIn news v d) (hs : ∀ p ∈ news, p ∈ news') : DatIn news' v d := DatIn.mono hs h
/-- the made objects lie apart from the elder ones -/
noncomputable def Apart (add news : List (Addr × Obj)) : Prop := ∀ p ∈ add, ∀ q ∈ news, p.1 ≠ q.1
theorem Apart.nil {news : List (Addr × Obj)} : Apart [] news := fun _ hp => nomatch hp
theorem off1_mem {D : Addr} {l : List (Addr × Obj)} (h : LCg.Off1 D l) : ∀ q ∈ l, q.1 ≠ D := by
  induction l with
  | nil => exact fun _ hq => nomatch hq
  | cons p r ih =>
    intro q hq
    rcases List.mem_cons.mp hq with e | hq
    · rw [e]; exact h.1
    · exact ih h.2 q hq
theorem Off3.app {I C D : Addr} {l l' : List (Addr × Obj)} (h : LCg.Off3 I C D l) (h' : ∀ p ∈ l', p.1 ≠ I ∧ p.1 ≠ C ∧ p.1 ≠ D) : LCg.Off3 I C D (l' ++ l) := by
  induction l' with
  | nil => exact h
  | cons p r ih => exact ⟨h' p (.head _), ih fun q hq => h' q (.tail _ hq)⟩
theorem comp_ents {prog : Program} {w : World} {A : Around} {h₀ : Heap} {L : Addr} {m : Str → Option Value} {env : Env} {elt : PySem.Expr} {x : Str} {scope : Scope} {cl : List (Str × Addr)} {s : Shared} {S : List (Addr × Obj) → Prop} {P : Nat → Value → Prop} {Fin : List Value → List (Addr × Obj) → Prop}
    (f : Ent → Ent) {news : List (Addr × Obj)} {es : List Ent} {vs : List Value} (hv : DatAll news vs (es.map Ent.dat)) (hP : ∀ i v, P i v → vs[i]? = some v) (hS : ∀ add, S (add ++ news))
    (step : ∀ e ∈ es, ∀ v add I oI C oC D ys m₂ h tk (Q' E' : Value → Shared → Prop), DatIn ((I, oI) :: (C, oC) :: (D, LCg.lst ys) :: (add ++ news)) v e.dat → LCg.NsObj oC m₂ → m₂ x = some v → Fr h₀ L h m → News h₀ L h ((I, oI) :: (C, oC) :: (D, LCg.lst ys) :: (add ++ news)) →
      EntRet h₀ L m ((I, oI) :: (C, oC) :: (D, LCg.lst ys) :: (add ++ news)) { s with heap := h, toks := tk } Q' v e (f e) →
      wpAny (model prog w) A (eval elt (compEnvC scope cl C env)) Q' E' { s with heap := h, toks := tk })
    (fin : ∀ ys add, DatAll (add ++ news) ys ((es.map f).map Ent.dat) → Apart add news → Fin ys (add ++ news)) :
    ∀ n, n = es.length → LCg.CompRest prog w A h₀ L m env elt x scope cl s S P Fin n 0 [] news := by
  have key : ∀ (k i : Nat) (done rest : List Ent) (add : List (Addr × Obj)) (ys : List Value), es = done ++ rest → rest.length = k → i = done.length → DatAll (add ++ news) ys ((done.map f).map Ent.dat) → Apart add news →
      LCg.CompRest prog w A h₀ L m env elt x scope cl s S P Fin k i ys (add ++ news) := by
    intro k
    induction k with
    | zero =>
      intro i done rest add ys he hr _ hd ha
      obtain rfl := List.eq_nil_of_length_eq_zero hr
      rw [List.append_nil] at he
      subst he
      exact LCg.CompRest.zero (fin ys add hd ha)
    | succ k ih =>
      intro i done rest add ys he hr hi hd ha
      obtain ⟨e, rest, rfl⟩ : ∃ e r, rest = e :: r := by
        cases rest with
        | nil => simp at hr
        | cons e r => exact ⟨e, r, rfl⟩
      refine LCg.CompRest.succ fun v I oI C oC D m₂ h tk E' hp hns hmx F N off ne => ?_
      have hx := hP i v hp
      have hlen : i < (es.map Ent.dat).length := by rw [he, hi]; simp
      obtain ⟨v', hv', hdv⟩ := hv.get hlen
      rw [hx] at hv'
      obtain rfl := Option.some.inj hv'
      have hei : (es.map Ent.dat)[i]'hlen = e.dat := by
        subst hi
        simp [he]
      rw [hei] at hdv
      have mem : e ∈ es := by rw [he]; exact List.mem_append.mpr (.inr (.head _))
      have hdv' : DatIn (add ++ news) v e.dat := dat_mono hdv fun p hp => List.mem_append.mpr (.inr hp)
      refine step e mem v add I oI C oC D ys m₂ h tk _ E' (dat_mono hdv' fun p hp => .tail _ (.tail _ (.tail _ hp))) hns hmx F N ?_
      intro v₁ add' h' tk' F' N' lt hr'
      refine ⟨h', tk', add' ++ (add ++ news), rfl, F', cb_drop N' ?_, Off3.app off fun p hp => ?_, ?_, ?_⟩
      · intro p hp
        simp only [List.mem_cons, List.mem_append] at hp ⊢
        rcases hp with hp | hp | hp | hp | hp | hp
        · exact .inr (.inl hp)
        · exact .inr (.inr (.inl hp))
        · exact .inr (.inr (.inr (.inl hp)))
        · exact .inl hp
        · exact .inr (.inr (.inr (.inr (.inl hp))))
        · exact .inr (.inr (.inr (.inr (.inr hp))))
      · exact ⟨Nat.ne_of_gt (lt _ (.head _) p hp), Nat.ne_of_gt (lt _ (.tail _ (.head _)) p hp), Nat.ne_of_gt (lt _ (.tail _ (.tail _ (.head _))) p hp)⟩
      · rw [← List.append_assoc]; exact hS _
      · rw [← List.append_assoc]
        have sub : ∀ p ∈ add ++ news, p ∈ (add' ++ add) ++ news := fun p hp => by rw [List.append_assoc]; exact List.mem_append.mpr (.inr hp)
        refine ih (i + 1) (done ++ [e]) rest (add' ++ add) (ys ++ [v₁]) (by rw [he, List.append_assoc]; rfl) (by simpa using hr) (by rw [hi, List.length_append]; rfl) ?_ ?_
        · rw [List.map_append, List.map_append]
          refine DatAll.append (DatAll.mono sub hd) (.cons ?_ .nil)
          rcases hr' with ⟨e1, e2⟩ | hr'
          · rw [e1, e2]; exact dat_mono hdv' sub
          · exact dat_mono hr' fun p hp => List.mem_append.mpr (.inl (List.mem_append.mpr (.inl hp)))
        · intro p hp q hq
          rcases List.mem_append.mp hp with hp | hp
          · exact Nat.ne_of_gt (lt q (.tail _ (.tail _ (.tail _ (List.mem_append.mpr (.inr hq))))) p hp)
          · exact ha p hp q hq
  intro n hn
  exact key n 0 [] es [] [] rfl hn.symm rfl .nil Apart.nil


/-- a Vector's dict: kind, items, attrs, shared, loose -/
noncomputable abbrev vecD (w : World) (t₁ t₂ t₃ t₄ t₅ : Tok) (kind items attrs : Value) : Obj :=
  dictOf [⟨PyData.keyHash w.params (Str.ofString "kind"), .str (Str.ofString "kind") t₁, kind⟩, ⟨PyData.keyHash w.params (Str.ofString "items"), .str (Str.ofString "items") t₂, items⟩, ⟨PyData.keyHash w.params (Str.ofString "attrs"), .str (Str.ofString "attrs") t₃, attrs⟩,
    ⟨PyData.keyHash w.params (Str.ofString "shared"), .str (Str.ofString "shared") t₄, .bool false⟩, ⟨PyData.keyHash w.params (Str.ofString "loose"), .str (Str.ofString "loose") t₅, .bool false⟩] 5
theorem ln_17 : True := by
  k_with "x m k_mem" => (assumption)
  k_with "x m enterC" => ((refine' code_defC (by k_asm) (by k_asm) (by k_asm) (by k_asm) (by k_asm) (by exact rfl) (by exact rfl) (by assumption) (by k_is) (by k_is) (by k_extra "x m room") (by exact BindsTo.of_eq rfl) (by exact rfl) (by decide +kernel) ?_ (by exact rfl) (by exact rfl) (by exact rfl); k_whole; intro g' L' h' tk' cells' FG' F' N' Y' B' X' T' l1; (try k_lt l1); k_cells Y'; (try simp only [List.cons_append, List.nil_append] at N'); (try dsimp only); (try k_lift B'); (try k_fold)))
  trivial
theorem list_copyM {prog : Program} {w : World} {A : Around} {E : Value → Shared → Prop} {s : Shared} {h₀ : Heap} {L l : Addr} {m : Str → Option Value} {news : List (Addr × Obj)} {us : List Value} {k : Nat} {Q : Value → Shared → Prop}
    (F : Fr h₀ L s.heap m) (N : News h₀ L s.heap news) (hb : (l, listOf us.toArray k) ∈ news) (h : ∀ D c h', Fr h₀ L h' m → News h₀ L h' ((D, listOf us.toArray c) :: news) → (∀ q ∈ news, q.1 < D) → Q (.ref D) { s with heap := h' }) (hz : us.length ≤ 8) :
    wpAny (model prog w) A (call (.type "list") [.ref l]) Q E s :=
  list_copyK F N (N.isList hb) h (by rw [List.size_toArray, sizeLine_eq]; k_extra "x m size")
theorem ln_18 : True := by
  k_with "x call type:list" => ((k_here; (with_reducible show wpAny _ _ (call (Value.type _) [Value.ref _]) _ _ _); k_dflt (refine' list_copyM (by k_asm) (by k_asm) (by k_mem) ?_ (by assumption)); intro D' c' h' F' N' l1; (try k_lt l1); (try k_sweep)))
  trivial
set_option maxHeartbeats 8000000 in
theorem c_check_math {w : World} {mean : ExcName → Option Value} {mg mb : Str → Option Value} {dp un : Nat} {gd : Option (List Code)} {cn : Str} {cs : Scope} {a : Addr} {ccd : Value} {cl : List (Str × Addr)} {outer : List Env} {A₀ : Around} {base h₀ : Heap} {L : Addr} {m : Str → Option Value} {s : Shared} {Q E : Value → Shared → Prop} {news : List (Addr × Obj)}
    {K : Str} {V dV I : Addr} {t₁ t₂ t₃ t₄ t₅ tk : Tok} {av : Value} (B : Below A₀ base outer h₀) (F : Fr h₀ L s.heap m) (X : (K39 w.params).In h₀) (N : News h₀ L s.heap news) (T : Top view (looseW view []) mean mg mb h₀) (hk : cs.kind = .function) (_hdp : dp + 1 < recursionLimit) (_hun : un + 100 < cLine)
    (hV : (V, instObj 149 dV) ∈ news) (hd : (dV, vecD w t₁ t₂ t₃ t₄ t₅ (.str K tk) (.ref I) av) ∈ news)
    (hK : K = Str.ofString "logical" ∨ K = Str.ofString "integer" ∨ K = Str.ofString "double")
    (hret : ∀ h' tk', Fr h₀ L h' m → News h₀ L h' news → Q .none { s with heap := h', toks := tk' }) :
    wpAny (model Challenge.rw_pq1313_01.row.prog w) (ktrTop dp un gd cn cs L a ccd cl outer) (call (.ref 160) [.ref V]) Q E s := by
  rcases hK with rfl | rfl | rfl
  all_goals (
    refine wpAny_call ?_
    k_dflt cell_enter
    k_steps
    rename News h₀ L _ _ => kN9
    exact hret _ _ (by k_asm) (cb_drop kN9 fun p hp => .tail _ hp))
theorem ln_19 : True := by
  k_with "x call ref" => ((k_here; k_dflt (refine' c_check_math (by k_asm) (by k_asm) (by k_asm) (by k_asm) (by k_asm) (by first | exact rfl | assumption) (by k_extra "x m room") (by k_extra "x m units") (by k_mem) (by k_mem) (by (first | assumption | exact .inl rfl | exact .inr (.inl rfl) | exact .inr (.inr rfl))) ?_; k_whole; intro h9 tk9 F9 N9); (try k_sweep); (try dsimp only); (try k_fold)))
  trivial
/-- the entry as a fraction -/
noncomputable def dbl : Ent → Ent
  | .whole i => .frac i 1
  | e => e
noncomputable def Ent.Int : Ent → Prop
  | .frac _ _ => False
  | _ => True
set_option maxHeartbeats 8000000 in
theorem c_from_int_na {w : World} {mean : ExcName → Option Value} {mg mb : Str → Option Value} {dp un : Nat} {gd : Option (List Code)} {cn : Str} {cs : Scope} {a : Addr} {ccd : Value} {cl : List (Str × Addr)} {outer : List Env} {A₀ : Around} {base h₀ : Heap} {L : Addr} {m : Str → Option Value} {s : Shared} {Q E : Value → Shared → Prop} {news : List (Addr × Obj)} (B : Below A₀ base outer h₀) (F : Fr h₀ L s.heap m) (X : (K39 w.params).In h₀) (N : News h₀ L s.heap news) (T : Top view (looseW view []) mean mg mb h₀) (hk : cs.kind = .function) (_hdp : dp + 1 < recursionLimit) (_hun : un + 100 < cLine)
    (hret : ∀ h' tk', Fr h₀ L h' m → News h₀ L h' news → Q .none { s with heap := h', toks := tk' }) :
    wpAny (model Challenge.rw_pq1313_01.row.prog w) (ktrTop dp un gd cn cs L a ccd cl outer) (call (.ref 82) [.none]) Q E s := by
  refine wpAny_call ?_
  k_dflt cell_enter
  k_steps
  all_goals exact hret _ _ (by k_asm) (by k_asm)
set_option maxHeartbeats 8000000 in
theorem c_from_int_1 {w : World} {mean : ExcName → Option Value} {mg mb : Str → Option Value} {dp un : Nat} {gd : Option (List Code)} {cn : Str} {cs : Scope} {a : Addr} {ccd : Value} {cl : List (Str × Addr)} {outer : List Env} {A₀ : Around} {base h₀ : Heap} {L : Addr} {m : Str → Option Value} {s : Shared} {Q E : Value → Shared → Prop} {news : List (Addr × Obj)}
    {i : Int} {ti : Tok} (B : Below A₀ base outer h₀) (F : Fr h₀ L s.heap m) (X : (K39 w.params).In h₀) (N : News h₀ L s.heap news) (T : Top view (looseW view []) mean mg mb h₀) (hk : cs.kind = .function) (_hdp : dp + 1 < recursionLimit) (_hun : un + 100 < cLine)
    (hret : ∀ D t u c h' tk', Fr h₀ L h' m → News h₀ L h' ((D, tupo i 1 t u c) :: news) → (∀ p ∈ news, p.1 < D) → Q (.ref D) { s with heap := h', toks := tk' }) :
    wpAny (model Challenge.rw_pq1313_01.row.prog w) (ktrTop dp un gd cn cs L a ccd cl outer) (call (.ref 82) [.int i ti]) Q E s := by
  refine wpAny_call ?_
  k_dflt cell_enter
  k_steps
  all_goals (rename News h₀ L _ _ => kN9; refine hret _ _ _ _ _ _ (by k_asm) kN9 (by first | assumption | exact allLt_mem (by assumption)))
theorem c_from_int {w : World} {mean : ExcName → Option Value} {mg mb : Str → Option Value} {dp un : Nat} {gd : Option (List Code)} {cn : Str} {cs : Scope} {a : Addr} {ccd : Value} {cl : List (Str × Addr)} {outer : List Env} {A₀ : Around} {base h₀ : Heap} {L : Addr} {m : Str → Option Value} {s : Shared} {Q E : Value → Shared → Prop} {news : List (Addr × Obj)}
    {v : Value} {e : Ent} (B : Below A₀ base outer h₀) (F : Fr h₀ L s.heap m) (X : (K39 w.params).In h₀) (N : News h₀ L s.heap news) (T : Top view (looseW view []) mean mg mb h₀) (hk : cs.kind = .function) (_hdp : dp + 1 < recursionLimit) (_hun : un + 100 < cLine)
    (hv : DatIn news v e.dat) (hb : e.Int) (hret : EntRet h₀ L m news s Q v e (dbl e)) :
    wpAny (model Challenge.rw_pq1313_01.row.prog w) (ktrTop dp un gd cn cs L a ccd cl outer) (call (.ref 82) [v]) Q E s := by
  cases e with
  | na =>
    obtain rfl := ent_na hv
    exact c_from_int_na B F X N T hk _hdp _hun fun h' tk' F' N' => EntRet.same hret F' N'
  | whole i =>
    obtain ⟨t, rfl⟩ := ent_whole hv
    exact c_from_int_1 B F X N T hk _hdp _hun fun D t u c h' tk' F' N' l => EntRet.one hret F' N' l
  | frac n d => exact hb.elim
theorem ln_20 : True := by
  k_with "x call ref" => ((k_here; k_dflt (refine' c_from_int (by k_asm) (by k_asm) (by k_asm) (by k_asm) (by k_asm) (by first | exact rfl | assumption) (by k_extra "x m room") (by k_extra "x m units") (by assumption) (by assumption) (by assumption))))
  k_with "x eval ListComp" => ((k_here; k_dflt (refine LCg.ListComp_U (F₀ := by k_asm) (by with_unfolding_all rfl) (by decide) (by rfl) (by decide) (by rfl) ?_)))
  k_with "x exec Assign cons ListComp" => ((k_here; k_dflt (refine LCg.Assign_ListComp_U (F₀ := by k_asm) (by rfl) (by with_unfolding_all rfl) (by with_unfolding_all rfl) (by decide) (by rfl) (by decide) (by rfl) (by rfl) (by rfl) ?_)))
  k_with "x m toComp" => (repeat' (first | (k_unfold; (try dsimp only)) | (k_end; wrow_close) | ((fail_if_success (with_reducible show LCg.CompSrc _ _ _ _ _ _ _ _ _ _ _ _ _ _)); first | walk1 | (dsimp only; walk1) | (leave1; (try dsimp only)))))
  trivial
/-- what stands behind doubles -/
noncomputable abbrev DoublesRet (h₀ : Heap) (L : Addr) (m : Str → Option Value) (news : List (Addr × Obj)) (s : Shared) (Q : Value → Shared → Prop) (es : List Ent) : Prop :=
  ∀ D c ys add h' tk', Fr h₀ L h' m → News h₀ L h' ((D, listOf (List.toArray ys) c) :: (add ++ news)) → DatAll (add ++ news) ys (es.map Ent.dat) → Apart add news → (∀ q ∈ news, q.1 ≠ D) → Q (.ref D) { s with heap := h', toks := tk' }
set_option maxHeartbeats 8000000 in
theorem c_doubles_dbl {w : World} {mean : ExcName → Option Value} {mg mb : Str → Option Value} {dp un : Nat} {gd : Option (List Code)} {cn : Str} {cs : Scope} {a : Addr} {ccd : Value} {cl : List (Str × Addr)} {outer : List Env} {A₀ : Around} {base h₀ : Heap} {L : Addr} {m : Str → Option Value} {s : Shared} {Q E : Value → Shared → Prop} {news : List (Addr × Obj)}
    {V dV I : Addr} {t₁ t₂ t₃ t₄ t₅ tk : Tok} {av : Value} {vs : List Value} {k : Nat} {es : List Ent} (B : Below A₀ base outer h₀) (F : Fr h₀ L s.heap m) (X : (K39 w.params).In h₀) (N : News h₀ L s.heap news) (T : Top view (looseW view []) mean mg mb h₀) (hk : cs.kind = .function) (_hdp : dp + 2 < recursionLimit) (_hun : un + 200 < cLine)
    (hV : (V, instObj 149 dV) ∈ news) (hd : (dV, vecD w t₁ t₂ t₃ t₄ t₅ (.str (Str.ofString "double") tk) (.ref I) av) ∈ news) (hI : (I, listOf vs.toArray k) ∈ news) (hv : DatAll news vs (es.map Ent.dat)) (hl : vs.length ≤ 8)
    (hret : DoublesRet h₀ L m news s Q es) :
    wpAny (model Challenge.rw_pq1313_01.row.prog w) (ktrTop dp un gd cn cs L a ccd cl outer) (call (.ref 165) [.ref V]) Q E s := by
  refine wpAny_call ?_
  k_dflt cell_enter
  k_steps
  all_goals (rename News h₀ L _ _ => kN9; exact hret _ _ vs [] _ _ (by k_asm) kN9 hv Apart.nil (fun q hq => Nat.ne_of_lt (by first | exact (by assumption : ∀ p ∈ news, p.1 < _) q hq | exact allLt_mem (by assumption) q hq)))
set_option maxHeartbeats 8000000 in
theorem c_doubles_int {w : World} {mean : ExcName → Option Value} {mg mb : Str → Option Value} {dp un : Nat} {gd : Option (List Code)} {cn : Str} {cs : Scope} {a : Addr} {ccd : Value} {cl : List (Str × Addr)} {outer : List Env} {A₀ : Around} {base h₀ : Heap} {L : Addr} {m : Str → Option Value} {s : Shared} {Q E : Value → Shared → Prop} {news : List (Addr × Obj)}
    {K : Str} {V dV I : Addr} {t₁ t₂ t₃ t₄ t₅ tk : Tok} {av : Value} {vs : List Value} {k : Nat} {es : List Ent} (B : Below A₀ base outer h₀) (F : Fr h₀ L s.heap m) (X : (K39 w.params).In h₀) (N : News h₀ L s.heap news) (T : Top view (looseW view []) mean mg mb h₀) (hk : cs.kind = .function) (_hdp : dp + 2 < recursionLimit) (_hun : un + 200 < cLine)
    (hV : (V, instObj 149 dV) ∈ news) (hd : (dV, vecD w t₁ t₂ t₃ t₄ t₅ (.str K tk) (.ref I) av) ∈ news) (hI : (I, listOf vs.toArray k) ∈ news) (hv : DatAll news vs (es.map Ent.dat)) (hl : vs.length ≤ 8)
    (hK : K ≠ Str.ofString "double") (hb : ∀ e ∈ es, e.Int)
    (hret : DoublesRet h₀ L m news s Q (es.map dbl)) :
    wpAny (model Challenge.rw_pq1313_01.row.prog w) (ktrTop dp un gd cn cs L a ccd cl outer) (call (.ref 165) [.ref V]) Q E s := by
  refine wpAny_call ?_
  k_dflt cell_enter
  k_extra "x m toComp"
  refine LCg.CompSrc.ledger (by rfl) (by k_asm) (by k_asm) hI (by rw [List.size_toArray, sizeLine_eq]; k_extra "x m size") fun g => comp_ents dbl hv (fun i v h => by simpa using h) (fun add => .inr ⟨_, List.mem_append.mpr (.inr hI), rfl, _, rfl⟩) ?step ?fin _ (by rw [List.size_toArray, hv.length, List.length_map])
  case step =>
    intro e he v add I oI C oC D ys m₂ h tk Q' E' hdv hns hmx F9 N9 hret9
    have hb9 := hb e he
    k_steps
  case fin =>
    intro ys add hda hap D9 h9 tk9 F9 N9 o9
    dsimp only
    k_steps
    rename News h₀ L _ _ => kN9
    exact hret _ _ ys add _ _ (by k_asm) kN9 hda hap (fun q hq => off1_mem o9 q (List.mem_append.mpr (.inr hq)))
theorem dbl_id {es : List Ent} (h : ∀ e ∈ es, e.Dbl) : es.map dbl = es := by
  induction es with
  | nil => rfl
  | cons e r ih =>
    rw [List.map_cons, ih fun x hx => h x (.tail _ hx)]
    have := h e (.head _)
    cases e with
    | whole i => exact this.elim
    | na => rfl
    | frac n d => rfl
theorem dbl_ok {e : Ent} (h : e.Ok) : (dbl e).Ok ∧ (dbl e).Dbl := by
  cases e with
  | na => exact ⟨trivial, trivial⟩
  | whole i => exact ⟨⟨h, Bt.rng (by decide) (by decide), by decide⟩, trivial⟩
  | frac n d => exact ⟨h, trivial⟩
theorem dbls_ok {es : List Ent} (h : ∀ e ∈ es, e.Ok) : ∀ e ∈ es.map dbl, e.Ok ∧ e.Dbl := by
  intro e he
  obtain ⟨x, hx, rfl⟩ := List.mem_map.mp he
  exact dbl_ok (h x hx)
/-- the entries of a vector of that kind -/
structure EntsOk (K : Str) (es : List Ent) : Prop where
  kind : K = Str.ofString "logical" ∨ K = Str.ofString "integer" ∨ K = Str.ofString "double"
  ok : ∀ e ∈ es, e.Ok
  of : (K = Str.ofString "double" ∧ ∀ e ∈ es, e.Dbl) ∨ (K ≠ Str.ofString "double" ∧ ∀ e ∈ es, e.Int)
  len : es.length ≤ 8
theorem c_doubles {w : World} {mean : ExcName → Option Value} {mg mb : Str → Option Value} {dp un : Nat} {gd : Option (List Code)} {cn : Str} {cs : Scope} {a : Addr} {ccd : Value} {cl : List (Str × Addr)} {outer : List Env} {A₀ : Around} {base h₀ : Heap} {L : Addr} {m : Str → Option Value} {s : Shared} {Q E : Value → Shared → Prop} {news : List (Addr × Obj)}
    {K : Str} {V dV I : Addr} {t₁ t₂ t₃ t₄ t₅ tk : Tok} {av : Value} {vs : List Value} {k : Nat} {es : List Ent} (B : Below A₀ base outer h₀) (F : Fr h₀ L s.heap m) (X : (K39 w.params).In h₀) (N : News h₀ L s.heap news) (T : Top view (looseW view []) mean mg mb h₀) (hk : cs.kind = .function) (_hdp : dp + 2 < recursionLimit) (_hun : un + 200 < cLine)
    (hV : (V, instObj 149 dV) ∈ news) (hd : (dV, vecD w t₁ t₂ t₃ t₄ t₅ (.str K tk) (.ref I) av) ∈ news) (hI : (I, listOf vs.toArray k) ∈ news) (hv : DatAll news vs (es.map Ent.dat)) (he : EntsOk K es)
    (hret : DoublesRet h₀ L m news s Q (es.map dbl)) :
    wpAny (model Challenge.rw_pq1313_01.row.prog w) (ktrTop dp un gd cn cs L a ccd cl outer) (call (.ref 165) [.ref V]) Q E s := by
  have hl : vs.length ≤ 8 := by rw [hv.length, List.length_map]; exact he.len
  rcases he.of with ⟨rfl, hb⟩ | ⟨hne, hb⟩
  · rw [dbl_id hb] at hret
    exact c_doubles_dbl B F X N T hk _hdp _hun hV hd hI hv hl hret
  · exact c_doubles_int B F X N T hk _hdp _hun hV hd hI hv hl hne hb hret

theorem ln_21 : True := by
  k_with "x call ref" => ((k_here; k_dflt (refine' c_doubles (by k_asm) (by k_asm) (by k_asm) (by k_asm) (by k_asm) (by first | exact rfl | assumption) (by k_extra "x m room") (by k_extra "x m units") (by k_mem) (by k_mem) (by k_mem) (by exact DatAll.mono (fun p h => List.Mem.tail _ h) (by assumption)) (by assumption) ?_; k_whole; intro D9 c9 ys9 add9 h9 tk9 F9 N9 hd9 ap9 ne9); (try k_sweep); (try dsimp only); (try k_fold)))
  trivial

theorem ln_22 : True := by
  k_with "x m enterD" => ((refine' code_def (by k_asm) (by k_asm) (by k_asm) (by k_asm) (by k_asm) (by exact rfl) (by exact rfl) (by assumption) (by k_is) (by k_is) (by k_extra "x m room") (by exact binds_K (by k_in) rfl (by k_is) rfl rfl rfl) (by exact locs rfl) ?_ (by exact rfl) (by exact rfl) (by exact rfl) (by decide); k_whole; intro g' L' h' FG' F' N' B' X' T'; (try dsimp only); (try k_lift B'); (try k_fold)))
  trivial
set_option maxHeartbeats 8000000 in
theorem c_vectorL {w : World} {mean : ExcName → Option Value} {mg mb : Str → Option Value} {dp un : Nat} {gd : Option (List Code)} {cn : Str} {cs : Scope} {a : Addr} {ccd : Value} {cl : List (Str × Addr)} {outer : List Env} {A₀ : Around} {base h₀ : Heap} {L : Addr} {m : Str → Option Value} {s : Shared} {Q E : Value → Shared → Prop} {news : List (Addr × Obj)}
    {K : Str} {tk : Tok} {I : Addr} (B : Below A₀ base outer h₀) (F : Fr h₀ L s.heap m) (X : (K39 w.params).In h₀) (N : News h₀ L s.heap news) (T : Top view (looseW view []) mean mg mb h₀) (hk : cs.kind = .function) (_hdp : dp + 1 < recursionLimit) (_hun : un + 100 < cLine)
    (hret : ∀ V dV t₁ t₂ t₃ t₄ t₅ h' tk', Fr h₀ L h' m → News h₀ L h' ((V, instObj 149 dV) :: (dV, vecD w t₁ t₂ t₃ t₄ t₅ (.str K tk) (.ref I) .none) :: news) → (∀ p ∈ news, p.1 < dV) → dV < V → Q (.ref V) { s with heap := h', toks := tk' }) :
    wpAny (model Challenge.rw_pq1313_01.row.prog w) (ktrTop dp un gd cn cs L a ccd cl outer) (call (.ref 149) [.str K tk, .ref I]) Q E s := by
  k_dflt (refine' call_cls ?k1 ?k2 ?k3 ?k4 ?k5 ?k6 ?_; (case k1 => k_asm); (case k2 => k_asm); (case k3 => k_asm); (case k4 => k_is); (case k5 => k_is); (case k6 => k_is); k_whole; intro x' d' h' F' N' l1 l2)
  have l8 := l1
  have l9 := l2
  try k_lt l8
  k_lt2 l9
  k_dflt (k_extra "x m enterD")
  k_steps
  rename News _ _ _ _ => kN9
  exact hret _ _ _ _ _ _ _ _ _ (by k_asm) kN9 l1 l2

theorem ln_23 : True := by
  k_with "x m toVec" => (repeat' (first | (k_unfold; (try dsimp only)) | (k_end; wrow_close) | ((fail_if_success (with_reducible show LCg.CompSrc _ _ _ _ _ _ _ _ _ _ _ _ _ _)); (fail_if_success (with_reducible show wpAny _ _ (call (Value.ref 149) _) _ _ _)); first | walk1 | (dsimp only; walk1) | (leave1; (try dsimp only)))))
  k_with "x m vecL" => ((k_here; k_dflt (refine' c_vectorL (by k_asm) (by k_asm) (by k_asm) (by k_asm) (by k_asm) (by first | exact rfl | assumption) (by k_extra "x m room") (by k_extra "x m units")  ?_; k_whole; intro V9 dV9 t19 t29 t39 t49 t59 h9 tk9 F9 N9 l9 l8); (try k_lt l9); (try k_lt2 l8);(try k_sweep); (try dsimp only); (try k_fold)))
  trivial

section
variable {prog : Program} {w : World} {K : Type} [DecidableEq K] {knd : KeyKind prog w K} {A : Around} {E : Value → Shared → Prop} {s : Shared} {h₀ : Heap} {L AD : Addr} {m : Str → Option Value} {news : List (Addr × Obj)} {o : Obj} {kvs : List (K × Value)}
theorem dict_copyM {Q : Value → Shared → Prop} (F : Fr h₀ L s.heap m) (N : News h₀ L s.heap news) (hbig : h₀.NoLimit) (hm : (AD, o) ∈ news) (hd : o.IsDictOf knd kvs) (lo : (AD == sysModules) = false) (hsz : kvs.length ≤ sizeLine)
    (k : ∀ D h' o', Fr h₀ L h' m → News h₀ L h' ((D, o') :: news) → (∀ p ∈ news, p.1 < D) → (D == sysModules) = false → o'.IsDictOf knd kvs → Q (.ref D) { s with heap := h' }) :
    wpAny (model prog w) A (call (.type "dict") [.ref AD]) Q E s := by
  refine kt_call_dict lo (Heap.dictOf_iff.mpr ⟨o, N.get hm, hd⟩) hsz fun h' hmm hs => ?_
  obtain ⟨o', ho', hd'⟩ := Heap.dictOf_iff.mp hmm
  have N1 := News.push F N { cls := .type "dict", data := .dict #[] }
  exact k _ h' o' ((F.push _).change hs (N1 _ (.head _)).2.1 (N1.fresh (.head _))) (N1.setHead N.apart hs ho') (fun p hp => Heap.lt_size (N p hp).1) (F.notModules (modules_low hbig)) hd'
end
theorem ln_24 : True := by
  k_with "x call type:dict" => ((k_here; (with_reducible show wpAny _ _ (call (Value.type "dict") [Value.ref _]) _ _ _); k_dflt (refine' dict_copyM (knd := PySem.strKind _ _) (by k_asm) (by k_asm) (by exact Top.nolimit (by k_asm)) (by k_mem) (by assumption) (by assumption) (by exact Nat.le_of_ble_eq_true rfl) ?_); intro D' h' o' F' N' l1 lo' hd'; (try k_lt l1)))
  trivial
structure VecAt (w : World) (news : List (Addr × Obj)) (R : Addr) (K : Str) (vs : List Value) (av : Value) : Prop where
  ex : ∃ dR I t₁ t₂ t₃ t₄ t₅ tk c, (R, instObj 149 dR) ∈ news ∧ (dR, vecD w t₁ t₂ t₃ t₄ t₅ (.str K tk) (.ref I) av) ∈ news ∧ (I, listOf vs.toArray c) ∈ news
noncomputable abbrev prg := Challenge.rw_pq1313_01.row.prog
/-- the attrs: none, or a dict of one name -/
noncomputable def AttrAt (w : World) (news : List (Addr × Obj)) (av : Value) (x : Str) (W : Addr) : Prop :=
  av = .none ∨ ∃ AD o, av = .ref AD ∧ (AD, o) ∈ news ∧ o.IsDictOf (PySem.strKind prg w) [(x, .ref W)] ∧ (AD == sysModules) = false
/-- the made vector's attrs go by the elder one's -/
noncomputable def AttrTo (w : World) (add : List (Addr × Obj)) (av av' : Value) (x : Str) (W : Addr) : Prop := (av = .none ↔ av' = .none) ∧ AttrAt w add av' x W
noncomputable abbrev RtRet (w : World) (h₀ : Heap) (L : Addr) (m : Str → Option Value) (news : List (Addr × Obj)) (s : Shared) (Q : Value → Shared → Prop) (K : Str) (es : List Ent) (av : Value) (x : Str) (W : Addr) : Prop :=
  ∀ R vs' av' add h' tk', Fr h₀ L h' m → News h₀ L h' (add ++ news) → Apart add news → VecAt w add R K vs' av' → DatAll (add ++ news) vs' (es.map Ent.dat) → AttrTo w add av av' x W → Q (.ref R) { s with heap := h', toks := tk' }
theorem allLt_trans {d x : Addr} {l : List (Addr × Obj)} (h : AllLt d l) (hx : @LT.lt Nat _ d x) : ∀ q ∈ l, q.1 < x := fun q hq => Nat.lt_trans (allLt_mem h q hq) hx
theorem lt_cell {L : Addr} {l : List (Addr × Obj)} (h : ∀ q ∈ l, q.1 < L) : ∀ q ∈ l, q.1 < L + 1 := fun q hq => Nat.lt_succ_of_lt (h q hq)
theorem Apart.cons {p : Addr × Obj} {add news : List (Addr × Obj)} (h : ∀ q ∈ news, q.1 < p.1) (r : Apart add news) : Apart (p :: add) news := by
  intro p' hp q hq
  rcases List.mem_cons.mp hp with e | hp
  · rw [e]; exact Nat.ne_of_gt (h q hq)
  · exact r p' hp q hq
theorem AttrTo.none {w : World} {add : List (Addr × Obj)} {x : Str} {W : Addr} : AttrTo w add .none .none x W := And.intro Iff.rfl (.inl rfl)
theorem AttrTo.some {w : World} {add : List (Addr × Obj)} {x : Str} {W AD AD' : Addr} {o' : Obj} (hm : (AD', o') ∈ add) (hd : o'.IsDictOf (PySem.strKind prg w) [(x, .ref W)]) (lo : (AD' == sysModules) = false) : AttrTo w add (.ref AD) (.ref AD') x W :=
  And.intro ⟨(fun h => nomatch h), (fun h => nomatch h)⟩ (.inr ⟨_, _, rfl, hm, hd, lo⟩)
theorem ln_25 : True := by
  k_with "x m apart" => ((repeat' (first | exact Apart.nil | refine Apart.cons ?_ ?_)) <;> ((try dsimp only); first | assumption | k_extra "x m allLt" | exact lt_cell (by assumption) | exact allLt_trans (by k_extra "x m alt") (by first | assumption | (refine ltN ?_; omega))))
  k_with "x m alt" => (first | assumption | exact And.right (by assumption) | exact And.right (And.right (by assumption)) | exact And.right (And.right (And.right (by assumption))) | exact And.right (And.right (And.right (And.right (by assumption)))) | exact And.right (And.right (And.right (And.right (And.right (by assumption))))))
  k_with "x m allLt" => (exact allLt_mem (by k_extra "x m alt"))
  k_with "x m vec" => (exact VecAt.mk ⟨_, _, _, _, _, _, _, _, _, by k_mem, by k_mem, by k_mem⟩)
  trivial
theorem Apart.cons2 {p : Addr × Obj} {add news : List (Addr × Obj)} (h : ∀ q ∈ news, p.1 ≠ q.1) (r : Apart add news) : Apart (p :: add) news := by
  intro p' hp q hq
  rcases List.mem_cons.mp hp with e | hp
  · rw [e]; exact h q hq
  · exact r p' hp q hq
theorem Apart.app {a b news : List (Addr × Obj)} (h : Apart a news) (k : Apart b news) : Apart (a ++ b) news := fun p hp => (List.mem_append.mp hp).elim (h p) (k p)
theorem Apart.sub {a news news' : List (Addr × Obj)} (h : Apart a news) (s : ∀ q ∈ news', q ∈ news) : Apart a news' := fun p hp q hq => h p hp q (s q hq)
theorem VecAt.mono {w : World} {news news' : List (Addr × Obj)} {R : Addr} {K : Str} {vs : List Value} {av : Value} (h : VecAt w news R K vs av) (s : ∀ q ∈ news, q ∈ news') : VecAt w news' R K vs av := by
  obtain ⟨dR, I, t₁, t₂, t₃, t₄, t₅, tk, c, h1, h2, h3⟩ := h.ex
  exact ⟨dR, I, t₁, t₂, t₃, t₄, t₅, tk, c, s _ h1, s _ h2, s _ h3⟩
theorem AttrAt.mono {w : World} {news news' : List (Addr × Obj)} {av : Value} {x : Str} {W : Addr} (h : AttrAt w news av x W) (s : ∀ q ∈ news, q ∈ news') : AttrAt w news' av x W := by
  rcases h with h | ⟨AD, o, h1, h2, h3⟩
  · exact .inl h
  · exact .inr ⟨AD, o, h1, s _ h2, h3⟩
theorem cut_st {M : Model} {A : Around} {E : Value → Shared → Prop} {s : Shared} {st : Stmt} {rest : List Stmt} {env : Env} {Q : Flow → Shared → Prop} {mid : Shared → Prop} (h1 : wpAny M A (exec st env) (fun f s' => f = .next ∧ mid s') E s)
    (h2 : ∀ s', mid s' → wpAny M A (execs rest env) Q E s') : wpAny M A (execs (st :: rest) env) Q E s :=
  wpAny_execs_cons (wpAny_mono h1 (fun f s' h => by obtain ⟨rfl, h⟩ := h; exact h2 s' h) fun _ _ e => e)
/-- behind a statement that leaves the names and the ledger as they were -/
theorem cut_same {M : Model} {A : Around} {E : Value → Shared → Prop} {s : Shared} {st : Stmt} {rest : List Stmt} {env : Env} {Q : Flow → Shared → Prop} {h₀ : Heap} {L : Addr} {m : Str → Option Value} {base : List (Addr × Obj)}
    (_F : Fr h₀ L s.heap m) (_N : News h₀ L s.heap base)
    (h1 : wpAny M A (exec st env) (fun f s' => f = .next ∧ ∃ h' tk', s' = { s with heap := h', toks := tk' } ∧ Fr h₀ L h' m ∧ News h₀ L h' base) E s)
    (h2 : ∀ h' tk', Fr h₀ L h' m → News h₀ L h' base → wpAny M A (execs rest env) Q E { s with heap := h', toks := tk' }) :
    wpAny M A (execs (st :: rest) env) Q E s :=
  cut_st h1 fun s' ⟨h', tk', e, F, N⟩ => by subst e; exact h2 h' tk' F N
theorem same_end {s : Shared} {h₀ h' : Heap} {L : Addr} {m : Str → Option Value} {base l : List (Addr × Obj)} {tk' : Nat} (F : Fr h₀ L h' m) (N : News h₀ L h' l) (sub : ∀ p ∈ base, p ∈ l) :
    Flow.next = Flow.next ∧ ∃ h'' tk'', ({ s with heap := h', toks := tk' } : Shared) = { s with heap := h'', toks := tk'' } ∧ Fr h₀ L h'' m ∧ News h₀ L h'' base := ⟨rfl, h', tk', rfl, F, cb_drop N sub⟩


set_option maxHeartbeats 8000000 in
theorem c_keep_all {w : World} {mean : ExcName → Option Value} {mg mb : Str → Option Value} {dp un : Nat} {gd : Option (List Code)} {cn : Str} {cs : Scope} {a : Addr} {ccd : Value} {cl : List (Str × Addr)} {outer : List Env} {A₀ : Around} {base h₀ : Heap} {L : Addr} {m : Str → Option Value} {s : Shared} {Q E : Value → Shared → Prop} {news : List (Addr × Obj)}
    {V dV R dR : Addr} {t₁ t₂ t₃ t₄ t₅ r₁ r₂ r₃ r₄ r₅ : Tok} {kv iv kv' iv' : Value} {av : Value} {x : Str} {W : Addr} {rest : List (Addr × Obj)} (B : Below A₀ base outer h₀) (F : Fr h₀ L s.heap m) (X : (K39 w.params).In h₀) (N : News h₀ L s.heap news) (T : Top view (looseW view []) mean mg mb h₀) (hk : cs.kind = .function) (_hdp : dp + 1 < recursionLimit) (_hun : un + 100 < cLine)
    (hn : news = (R, instObj 149 dR) :: (dR, vecD w r₁ r₂ r₃ r₄ r₅ kv' iv' .none) :: rest) (h1 : AllLt dR rest) (h2 : @LT.lt Nat _ dR R)
    (hV : (V, instObj 149 dV) ∈ rest) (hd : (dV, vecD w t₁ t₂ t₃ t₄ t₅ kv iv av) ∈ rest) (hav : AttrAt w rest av x W)
    (hret : ∀ av' add h' tk', Fr h₀ L h' m → News h₀ L h' (add ++ (R, instObj 149 dR) :: (dR, vecD w r₁ r₂ r₃ r₄ r₅ kv' iv' av') :: rest) → (∀ p ∈ add, (∀ q ∈ rest, q.1 < p.1) ∧ dR < p.1 ∧ R < p.1) → AttrTo w add av av' x W → Q (.ref R) { s with heap := h', toks := tk' }) :
    wpAny (model Challenge.rw_pq1313_01.row.prog w) (ktrTop dp un gd cn cs L a ccd cl outer) (call (.ref 28) [.ref V, .ref R]) Q E s := by
  subst hn
  rcases hav with rfl | ⟨AD, o, rfl, hAD, hdo, hlo⟩
  · refine wpAny_call ?_
    k_dflt cell_enter
    k_steps
    rename News h₀ L _ _ => kN9
    exact hret .none [] _ _ (by k_asm) kN9 (fun p hp => nomatch hp) AttrTo.none
  · refine wpAny_call ?_
    k_dflt cell_enter
    k_steps
    rename News h₀ L _ _ => kN9
    rename _ ∧ _ ∧ AllLt _ rest => l19
    exact hret _ [_] _ _ (by k_asm) kN9 (fun p hp => by cases List.mem_singleton.mp hp; exact ⟨fun q hq => allLt_mem l19.2.2 q hq, l19.2.1, l19.1⟩) (AttrTo.some (by k_mem) (by assumption) (by assumption))


theorem ln_26 : True := by
  k_with "x call ref" => ((k_here; k_dflt (refine' c_keep_all (by k_asm) (by k_asm) (by k_asm) (by k_asm) (by k_asm) (by first | exact rfl | assumption) (by k_extra "x m room") (by k_extra "x m units") (by exact rfl) (by assumption) (by assumption) (by k_mem) (by k_mem) (by (refine' AttrAt.mono (by assumption) ?_; (intro p hp; k_mem))) ?_; k_whole; intro av9 add9 h9 tk9 F9 N9 ap9 at9); (try k_sweep); (try dsimp only); (try k_fold)))
  trivial
theorem keep_apart {w : World} {add rest : List (Addr × Obj)} {R dR D : Addr} {oR odR oD : Obj} (ap : ∀ p ∈ add, (∀ q ∈ (D, oD) :: rest, q.1 < p.1) ∧ @LT.lt Nat _ dR p.1 ∧ @LT.lt Nat _ R p.1)
    (l9 : AllLt dR ((D, oD) :: rest)) (l8 : @LT.lt Nat _ dR R) (lD : ∀ q ∈ rest, q.1 ≠ D) : Apart (add ++ [(R, oR), (dR, odR), (D, oD)]) rest := by
  refine Apart.app (fun p hp q hq => Nat.ne_of_gt ((ap p hp).1 q (.tail _ hq))) ?_
  refine Apart.cons (fun q hq => Nat.lt_trans (allLt_mem l9 q (.tail _ hq)) l8) (Apart.cons (fun q hq => allLt_mem l9 q (.tail _ hq)) (Apart.cons2 (fun q hq => (lD q hq).symm) Apart.nil))
theorem keep_list {α : Type} {add rest : List α} {a b c : α} : add ++ a :: b :: c :: rest = (add ++ [a, b, c]) ++ rest := by simp
theorem keep_vec {w : World} {add : List (Addr × Obj)} {R dR D : Addr} {r₁ r₂ r₃ r₄ r₅ tk : Tok} {K : Str} {ys : List Value} {av' : Value} {c : Nat} :
    VecAt w (add ++ [(R, instObj 149 dR), (dR, vecD w r₁ r₂ r₃ r₄ r₅ (.str K tk) (.ref D) av'), (D, listOf ys.toArray c)]) R K ys av' :=
  ⟨dR, D, r₁, r₂, r₃, r₄, r₅, tk, c, List.mem_append.mpr (.inr (.head _)), List.mem_append.mpr (.inr (.tail _ (.head _))), List.mem_append.mpr (.inr (.tail _ (.tail _ (.head _))))⟩
theorem keep_attr {w : World} {add more : List (Addr × Obj)} {av av' : Value} {x : Str} {W : Addr} (h : AttrTo w add av av' x W) : AttrTo w (add ++ more) av av' x W := ⟨h.1, h.2.mono fun q hq => List.mem_append.mpr (.inl hq)⟩
theorem rt_int_done {w : World} {h₀ h' : Heap} {L : Addr} {m : Str → Option Value} {news : List (Addr × Obj)} {s : Shared} {Q : Value → Shared → Prop} {K : Str} {es : List Ent} {av av' : Value} {x : Str} {W R dR D : Addr} {tk' c : Nat} {r₁ r₂ r₃ r₄ r₅ tk : Tok} {ys : List Value} {add : List (Addr × Obj)} {c8 : Addr × Obj}
    (hret : RtRet w h₀ L m news s Q K es av x W) (F : Fr h₀ L h' m) (N : News h₀ L h' (add ++ (R, instObj 149 dR) :: (dR, vecD w r₁ r₂ r₃ r₄ r₅ (.str K tk) (.ref D) av') :: (D, listOf ys.toArray c) :: c8 :: news))
    (ap : ∀ p ∈ add, (∀ q ∈ (D, listOf ys.toArray c) :: c8 :: news, q.1 < p.1) ∧ @LT.lt Nat _ dR p.1 ∧ @LT.lt Nat _ R p.1)
    (l9 : AllLt dR ((D, listOf ys.toArray c) :: c8 :: news)) (l8 : @LT.lt Nat _ dR R) (lD : AllLt D (c8 :: news)) (hc : ∀ q ∈ news, q.1 < c8.1) (hd : DatAll news ys (es.map Ent.dat)) (hat : AttrTo w add av av' x W) :
    Q (.ref R) { s with heap := h', toks := tk' } := by
  rw [keep_list] at N
  have ap' := keep_apart (w := w) (oR := instObj 149 dR) (odR := vecD w r₁ r₂ r₃ r₄ r₅ (.str K tk) (.ref D) av') ap l9 l8 fun q hq => Nat.ne_of_lt (allLt_mem lD q hq)
  have e : ∀ l : List (Addr × Obj), (l ++ [c8]) ++ news = l ++ c8 :: news := fun l => by simp
  refine hret R ys av' ((add ++ [(R, instObj 149 dR), (dR, vecD w r₁ r₂ r₃ r₄ r₅ (.str K tk) (.ref D) av'), (D, listOf ys.toArray c)]) ++ [c8]) h' tk' F (by rw [e]; exact N) ?_ (keep_vec.mono fun q hq => List.mem_append.mpr (.inl hq)) (DatAll.mono (fun q hq => by rw [e]; exact List.mem_append.mpr (.inr (.tail _ hq))) hd) (keep_attr (keep_attr hat))
  exact Apart.app (ap'.sub fun q hq => .tail _ hq) (Apart.cons hc Apart.nil)
set_option maxHeartbeats 8000000 in
theorem c_rt_int {w : World} {mean : ExcName → Option Value} {mg mb : Str → Option Value} {dp un : Nat} {gd : Option (List Code)} {cn : Str} {cs : Scope} {a : Addr} {ccd : Value} {cl : List (Str × Addr)} {outer : List Env} {A₀ : Around} {base h₀ : Heap} {L : Addr} {m : Str → Option Value} {s : Shared} {Q E : Value → Shared → Prop} {news : List (Addr × Obj)}
    {K : Str} {V dV I : Addr} {t₁ t₂ t₃ t₄ t₅ tk tp : Tok} {vs : List Value} {k : Nat} {p : Int} {av : Value} {es : List Ent} {x : Str} {W : Addr} (B : Below A₀ base outer h₀) (F : Fr h₀ L s.heap m) (X : (K39 w.params).In h₀) (N : News h₀ L s.heap news) (T : Top view (looseW view []) mean mg mb h₀) (hk : cs.kind = .function) (_hdp : dp + 2 < recursionLimit) (_hun : un + 200 < cLine)
    (hV : (V, instObj 149 dV) ∈ news) (hd : (dV, vecD w t₁ t₂ t₃ t₄ t₅ (.str K tk) (.ref I) av) ∈ news) (hI : (I, listOf vs.toArray k) ∈ news) (hv : DatAll news vs (es.map Ent.dat)) (hl : vs.length ≤ 8) (hp : 0 ≤ p)
    (hK3 : K = Str.ofString "logical" ∨ K = Str.ofString "integer" ∨ K = Str.ofString "double") (hK : K ≠ Str.ofString "double") (hav : AttrAt w news av x W)
    (hret : RtRet w h₀ L m news s Q (Str.ofString "integer") es av x W) :
    wpAny (model Challenge.rw_pq1313_01.row.prog w) (ktrTop dp un gd cn cs L a ccd cl outer) (call (.ref 170) [.ref V, .int p tp]) Q E s := by
  refine wpAny_call ?_
  k_dflt (k_extra "x m enterC")
  k_extra "x m toVec"
  k_extra "x m vecL"
  k_steps
  rename News h₀ L _ _ => kN9
  exact rt_int_done hret (by k_asm) kN9 ap9 (by assumption) (by assumption) (by assumption) (lt_cell (by assumption)) hv at9
theorem sub_deep {add add9 news : List (Addr × Obj)} {x8 c8 : Addr × Obj} : ∀ q ∈ news, q ∈ add ++ x8 :: (add9 ++ c8 :: news) := fun _ hq => List.mem_append.mpr (.inr (.tail _ (List.mem_append.mpr (.inr (.tail _ hq)))))
theorem rt_done {w : World} {h₀ h' : Heap} {L : Addr} {m : Str → Option Value} {news : List (Addr × Obj)} {s : Shared} {Q : Value → Shared → Prop} {K' : Str} {es' : List Ent} {av av' : Value} {x : Str} {W R : Addr} {tk' : Nat} {ys : List Value}
    (hret : RtRet w h₀ L m news s Q K' es' av x W) (pre : List (Addr × Obj)) {add add9 : List (Addr × Obj)} {x8 c8 : Addr × Obj} (F : Fr h₀ L h' m) (N : News h₀ L h' (pre ++ (add ++ x8 :: (add9 ++ c8 :: news)))) (ap : Apart pre news)
    (hap : Apart add (x8 :: (add9 ++ c8 :: news))) (ne8 : ∀ q ∈ c8 :: news, q.1 ≠ x8.1) (ap9 : Apart add9 (c8 :: news)) (hc : ∀ q ∈ news, q.1 < c8.1) (hv : VecAt w pre R K' ys av') (hd : DatAll (add ++ x8 :: (add9 ++ c8 :: news)) ys (es'.map Ent.dat)) (hat : AttrTo w pre av av' x W) :
    Q (.ref R) { s with heap := h', toks := tk' } := by
  have e : (pre ++ (add ++ x8 :: (add9 ++ [c8]))) ++ news = pre ++ (add ++ x8 :: (add9 ++ c8 :: news)) := by simp
  refine hret R ys av' (pre ++ (add ++ x8 :: (add9 ++ [c8]))) h' tk' F (by rw [e]; exact N) ?_ (hv.mono fun q hq => List.mem_append.mpr (.inl hq)) (DatAll.mono (fun q hq => by rw [e]; exact List.mem_append.mpr (.inr hq)) hd) ⟨hat.1, hat.2.mono fun q hq => List.mem_append.mpr (.inl hq)⟩
  refine ap.app (Apart.app (hap.sub fun q hq => .tail _ (List.mem_append.mpr (.inr (.tail _ hq)))) (Apart.cons2 (fun q hq => (ne8 q (.tail _ hq)).symm) (Apart.app (ap9.sub fun q hq => .tail _ hq) (Apart.cons hc Apart.nil))))
theorem rt_dbl_done {w : World} {h₀ h' : Heap} {L : Addr} {m : Str → Option Value} {news : List (Addr × Obj)} {s : Shared} {Q : Value → Shared → Prop} {K' : Str} {es' : List Ent} {av av' : Value} {x : Str} {W R dR D : Addr} {tk' c : Nat} {r₁ r₂ r₃ r₄ r₅ tk : Tok} {ys : List Value} {addk add add9 : List (Addr × Obj)} {x8 c8 : Addr × Obj}
    (hret : RtRet w h₀ L m news s Q K' es' av x W) (F : Fr h₀ L h' m) (N : News h₀ L h' (addk ++ (R, instObj 149 dR) :: (dR, vecD w r₁ r₂ r₃ r₄ r₅ (.str K' tk) (.ref D) av') :: (D, listOf ys.toArray c) :: (add ++ x8 :: (add9 ++ c8 :: news))))
    (ap : ∀ p ∈ addk, (∀ q ∈ (D, listOf ys.toArray c) :: (add ++ x8 :: (add9 ++ c8 :: news)), q.1 < p.1) ∧ @LT.lt Nat _ dR p.1 ∧ @LT.lt Nat _ R p.1)
    (l9 : AllLt dR ((D, listOf ys.toArray c) :: (add ++ x8 :: (add9 ++ c8 :: news)))) (l8 : @LT.lt Nat _ dR R) (lD : ∀ q ∈ add ++ x8 :: (add9 ++ c8 :: news), q.1 ≠ D)
    (hap : Apart add (x8 :: (add9 ++ c8 :: news))) (ne8 : ∀ q ∈ c8 :: news, q.1 ≠ x8.1) (ap9 : Apart add9 (c8 :: news)) (hc : ∀ q ∈ news, q.1 < c8.1) (hd : DatAll (add ++ x8 :: (add9 ++ c8 :: news)) ys (es'.map Ent.dat)) (hat : AttrTo w addk av av' x W) :
    Q (.ref R) { s with heap := h', toks := tk' } := by
  rw [keep_list] at N
  exact rt_done hret _ F N ((keep_apart (w := w) ap l9 l8 lD).sub sub_deep) hap ne8 ap9 hc keep_vec hd (keep_attr hat)
theorem mem_app_r {α : Type} {x : α} {a b : List α} (h : List.Mem x b) : List.Mem x (a ++ b) := List.mem_append_right a h
theorem ln_27 : True := by
  k_with "x m k_mem" => (((first | (with_reducible refine' mem_app_r ?_) | (with_reducible refine' List.mem_append_right _ ?_)); k_mem))
  k_with "x call ref" => ((k_here; k_dflt (refine' c_rhe (by k_asm) (by k_asm) (by k_asm) (by k_asm) (by k_asm) (by first | exact rfl | assumption) (by k_extra "x m room") (by k_extra "x m units") (by assumption) (by assumption) (by assumption) (by omega) (by omega) (by assumption))))
  trivial
set_option maxHeartbeats 8000000 in
theorem c_rt_dbl {w : World} {mean : ExcName → Option Value} {mg mb : Str → Option Value} {dp un : Nat} {gd : Option (List Code)} {cn : Str} {cs : Scope} {a : Addr} {ccd : Value} {cl : List (Str × Addr)} {outer : List Env} {A₀ : Around} {base h₀ : Heap} {L : Addr} {m : Str → Option Value} {s : Shared} {Q E : Value → Shared → Prop} {news : List (Addr × Obj)}
    {K : Str} {V dV I : Addr} {t₁ t₂ t₃ t₄ t₅ tk tp : Tok} {vs : List Value} {k : Nat} {p : Int} {av : Value} {es : List Ent} {x : Str} {W : Addr} (B : Below A₀ base outer h₀) (F : Fr h₀ L s.heap m) (X : (K39 w.params).In h₀) (N : News h₀ L s.heap news) (T : Top view (looseW view []) mean mg mb h₀) (hk : cs.kind = .function) (_hdp : dp + 7 < recursionLimit) (_hun : un + 700 < cLine)
    (hV : (V, instObj 149 dV) ∈ news) (hd : (dV, vecD w t₁ t₂ t₃ t₄ t₅ (.str K tk) (.ref I) av) ∈ news) (hI : (I, listOf vs.toArray k) ∈ news) (hv : DatAll news vs (es.map Ent.dat)) (he : EntsOk K es) (hp1 : -60 ≤ p) (hp2 : p ≤ 60)
    (hK : K = Str.ofString "double" ∨ p < 0) (hav : AttrAt w news av x W)
    (hret : RtRet w h₀ L m news s Q (Str.ofString "double") ((es.map dbl).map (rhe p)) av x W) :
    wpAny (model Challenge.rw_pq1313_01.row.prog w) (ktrTop dp un gd cn cs L a ccd cl outer) (call (.ref 170) [.ref V, .int p tp]) Q E s := by
  have hl : vs.length ≤ 8 := by rw [hv.length, List.length_map]; exact he.len
  have hK3 := he.kind
  refine wpAny_call ?_
  k_dflt (k_extra "x m enterC")
  k_extra "x m toIf"
  rename News _ _ _ _ => N8
  k_dflt (refine' cut_same ?cF N8 ?h1 ?h2)
  case cF => k_asm
  case h1 =>
    refine with_post fun Q9 hQ9 => ?_
    by_cases hKd : K = Str.ofString "double"
    all_goals (
      first
      | subst hKd
      | have hp0 : p < 0 := hK.resolve_left hKd
      k_steps
      exact hQ9 _ _ (same_end (by k_asm) N8 (fun _ h => h)))
  case h2 =>
    clear N8
    intro h7 tk7 F7 N7
    dsimp only
    k_extra "x m toComp"
    rename DatAll _ _ (List.map Ent.dat (List.map dbl _)) => hd8
    rename Apart _ _ => ap8
    rename (∀ q : Addr × Obj, q ∈ _ → q.1 ≠ _) => ne8
    have hs8 := hd8.length
    rw [List.length_map, List.length_map] at hs8
    have hel := he.len
    refine LCg.CompSrc.ledger (by rfl) (by k_asm) (by k_asm) (List.Mem.head _) (by rw [List.size_toArray, sizeLine_eq]; k_extra "x m size") fun g => comp_ents (rhe p) (DatAll.mono (fun p h => .tail _ h) hd8) (fun i v h => by simpa using h) (fun add => .inr ⟨_, List.mem_append.mpr (.inr (.head _)), rfl, _, rfl⟩) ?step ?fin _ (by rw [List.size_toArray, hs8, List.length_map])
    case step =>
      intro e he' v add I oI C oC D ys m₂ h tk Q' E' hdv hns hmx F9 N9 hret9
      obtain ⟨ho9, hb9⟩ := dbls_ok he.ok e he'
      k_steps
    case fin =>
      intro ys add hda hap D9 h9 tk9 F9 N9 o9
      dsimp only
      k_extra "x m toVec"
      k_extra "x m vecL"
      k_steps
      rename News h₀ L _ _ => kN9
      exact rt_dbl_done hret (by k_asm) kN9 ap9 (by assumption) (by assumption) (fun q hq => off1_mem o9 q hq) hap ne8 ap8 (lt_cell (by assumption)) hda at9


set_option maxHeartbeats 8000000 in
theorem c_st_int {w : World} {mean : ExcName → Option Value} {mg mb : Str → Option Value} {dp un : Nat} {gd : Option (List Code)} {cn : Str} {cs : Scope} {a : Addr} {ccd : Value} {cl : List (Str × Addr)} {outer : List Env} {A₀ : Around} {base h₀ : Heap} {L : Addr} {m : Str → Option Value} {s : Shared} {Q E : Value → Shared → Prop} {news : List (Addr × Obj)}
    {K : Str} {V dV I : Addr} {t₁ t₂ t₃ t₄ t₅ tk tp : Tok} {vs : List Value} {k : Nat} {p : Int} {av : Value} {es : List Ent} {x : Str} {W : Addr} (B : Below A₀ base outer h₀) (F : Fr h₀ L s.heap m) (X : (K39 w.params).In h₀) (N : News h₀ L s.heap news) (T : Top view (looseW view []) mean mg mb h₀) (hk : cs.kind = .function) (_hdp : dp + 2 < recursionLimit) (_hun : un + 200 < cLine)
    (hV : (V, instObj 149 dV) ∈ news) (hd : (dV, vecD w t₁ t₂ t₃ t₄ t₅ (.str K tk) (.ref I) av) ∈ news) (hI : (I, listOf vs.toArray k) ∈ news) (hv : DatAll news vs (es.map Ent.dat)) (hl : vs.length ≤ 8) (hp : 10 ≤ p)
    (hK3 : K = Str.ofString "logical" ∨ K = Str.ofString "integer" ∨ K = Str.ofString "double") (hK : K ≠ Str.ofString "double") (hav : AttrAt w news av x W)
    (hret : RtRet w h₀ L m news s Q (Str.ofString "integer") es av x W) :
    wpAny (model Challenge.rw_pq1313_01.row.prog w) (ktrTop dp un gd cn cs L a ccd cl outer) (call (.ref 175) [.ref V, .int p tp]) Q E s := by
  refine wpAny_call ?_
  k_dflt (k_extra "x m enterC")
  k_extra "x m toVec"
  k_extra "x m vecL"
  k_steps
  rename News h₀ L _ _ => kN9
  exact rt_int_done hret (by k_asm) kN9 ap9 (by assumption) (by assumption) (by assumption) (lt_cell (by assumption)) hv at9
theorem ln_28 : True := by
  k_with "x call ref" => ((k_here; k_dflt (refine' c_sgf (by k_asm) (by k_asm) (by k_asm) (by k_asm) (by k_asm) (by first | exact rfl | assumption) (by k_extra "x m room") (by k_extra "x m units") (by assumption) (by assumption) (by assumption) (by omega) (by omega) (by assumption))))
  trivial
set_option maxHeartbeats 8000000 in
theorem c_st_dbl {w : World} {mean : ExcName → Option Value} {mg mb : Str → Option Value} {dp un : Nat} {gd : Option (List Code)} {cn : Str} {cs : Scope} {a : Addr} {ccd : Value} {cl : List (Str × Addr)} {outer : List Env} {A₀ : Around} {base h₀ : Heap} {L : Addr} {m : Str → Option Value} {s : Shared} {Q E : Value → Shared → Prop} {news : List (Addr × Obj)}
    {K : Str} {V dV I : Addr} {t₁ t₂ t₃ t₄ t₅ tk tp : Tok} {vs : List Value} {k : Nat} {p : Int} {av : Value} {es : List Ent} {x : Str} {W : Addr} (B : Below A₀ base outer h₀) (F : Fr h₀ L s.heap m) (X : (K39 w.params).In h₀) (N : News h₀ L s.heap news) (T : Top view (looseW view []) mean mg mb h₀) (hk : cs.kind = .function) (_hdp : dp + 7 < recursionLimit) (_hun : un + 700 < cLine)
    (hV : (V, instObj 149 dV) ∈ news) (hd : (dV, vecD w t₁ t₂ t₃ t₄ t₅ (.str K tk) (.ref I) av) ∈ news) (hI : (I, listOf vs.toArray k) ∈ news) (hv : DatAll news vs (es.map Ent.dat)) (he : EntsOk K es) (hp1 : 1 ≤ p) (hp2 : p ≤ 20)
    (hK : K = Str.ofString "double" ∨ p < 10) (hav : AttrAt w news av x W)
    (hret : RtRet w h₀ L m news s Q (Str.ofString "double") ((es.map dbl).map (sgf p)) av x W) :
    wpAny (model Challenge.rw_pq1313_01.row.prog w) (ktrTop dp un gd cn cs L a ccd cl outer) (call (.ref 175) [.ref V, .int p tp]) Q E s := by
  have hl : vs.length ≤ 8 := by rw [hv.length, List.length_map]; exact he.len
  have hK3 := he.kind
  refine wpAny_call ?_
  k_dflt (k_extra "x m enterC")
  k_extra "x m toIf"
  rename News _ _ _ _ => N8
  k_dflt (refine' cut_same ?cF N8 ?h1 ?h2)
  case cF => k_asm
  case h1 =>
    refine with_post fun Q9 hQ9 => ?_
    by_cases hKd : K = Str.ofString "double"
    all_goals (
      first
      | subst hKd
      | have hp0 : p < 10 := hK.resolve_left hKd
      k_steps
      exact hQ9 _ _ (same_end (by k_asm) N8 (fun _ h => h)))
  case h2 =>
    clear N8
    intro h7 tk7 F7 N7
    dsimp only
    k_extra "x m toComp"
    rename DatAll _ _ (List.map Ent.dat (List.map dbl _)) => hd8
    rename Apart _ _ => ap8
    rename (∀ q : Addr × Obj, q ∈ _ → q.1 ≠ _) => ne8
    have hs8 := hd8.length
    rw [List.length_map, List.length_map] at hs8
    have hel := he.len
    refine LCg.CompSrc.ledger (by rfl) (by k_asm) (by k_asm) (List.Mem.head _) (by rw [List.size_toArray, sizeLine_eq]; k_extra "x m size") fun g => comp_ents (sgf p) (DatAll.mono (fun p h => .tail _ h) hd8) (fun i v h => by simpa using h) (fun add => .inr ⟨_, List.mem_append.mpr (.inr (.head _)), rfl, _, rfl⟩) ?step ?fin _ (by rw [List.size_toArray, hs8, List.length_map])
    case step =>
      intro e he' v add I oI C oC D ys m₂ h tk Q' E' hdv hns hmx F9 N9 hret9
      obtain ⟨ho9, hb9⟩ := dbls_ok he.ok e he'
      k_steps
    case fin =>
      intro ys add hda hap D9 h9 tk9 F9 N9 o9
      dsimp only
      k_extra "x m toVec"
      k_extra "x m vecL"
      k_steps
      rename News h₀ L _ _ => kN9
      exact rt_dbl_done hret (by k_asm) kN9 ap9 (by assumption) (by assumption) (fun q hq => off1_mem o9 q hq) hap ne8 ap8 (lt_cell (by assumption)) hda at9


noncomputable def rtK (K : Str) (p q : Int) : Str := if K = Str.ofString "double" ∨ p < q then Str.ofString "double" else Str.ofString "integer"
noncomputable def rtE (K : Str) (es : List Ent) (f : Ent → Ent) (p q : Int) : List Ent := if K = Str.ofString "double" ∨ p < q then (es.map dbl).map f else es
theorem c_rt {w : World} {mean : ExcName → Option Value} {mg mb : Str → Option Value} {dp un : Nat} {gd : Option (List Code)} {cn : Str} {cs : Scope} {a : Addr} {ccd : Value} {cl : List (Str × Addr)} {outer : List Env} {A₀ : Around} {base h₀ : Heap} {L : Addr} {m : Str → Option Value} {s : Shared} {Q E : Value → Shared → Prop} {news : List (Addr × Obj)}
    {K : Str} {V dV I : Addr} {t₁ t₂ t₃ t₄ t₅ tk tp : Tok} {vs : List Value} {k : Nat} {p : Int} {av : Value} {es : List Ent} {x : Str} {W : Addr} (B : Below A₀ base outer h₀) (F : Fr h₀ L s.heap m) (X : (K39 w.params).In h₀) (N : News h₀ L s.heap news) (T : Top view (looseW view []) mean mg mb h₀) (hk : cs.kind = .function) (_hdp : dp + 7 < recursionLimit) (_hun : un + 700 < cLine)
    (hV : (V, instObj 149 dV) ∈ news) (hd : (dV, vecD w t₁ t₂ t₃ t₄ t₅ (.str K tk) (.ref I) av) ∈ news) (hI : (I, listOf vs.toArray k) ∈ news) (hv : DatAll news vs (es.map Ent.dat)) (he : EntsOk K es) (hp1 : -60 ≤ p) (hp2 : p ≤ 60) (hav : AttrAt w news av x W)
    (hret : RtRet w h₀ L m news s Q (rtK K p 0) (rtE K es (rhe p) p 0) av x W) :
    wpAny (model Challenge.rw_pq1313_01.row.prog w) (ktrTop dp un gd cn cs L a ccd cl outer) (call (.ref 170) [.ref V, .int p tp]) Q E s := by
  unfold rtK rtE at hret
  by_cases h : K = Str.ofString "double" ∨ p < 0
  · simp only [if_pos h] at hret
    exact c_rt_dbl B F X N T hk _hdp _hun hV hd hI hv he hp1 hp2 h hav hret
  · simp only [if_neg h] at hret
    obtain ⟨h1, h2⟩ := not_or.mp h
    refine c_rt_int B F X N T hk (Nat.lt_of_le_of_lt (by omega) _hdp) (Nat.lt_of_le_of_lt (by omega) _hun) hV hd hI hv (by rw [hv.length, List.length_map]; exact he.len) (by omega) he.kind h1 hav hret
theorem c_st {w : World} {mean : ExcName → Option Value} {mg mb : Str → Option Value} {dp un : Nat} {gd : Option (List Code)} {cn : Str} {cs : Scope} {a : Addr} {ccd : Value} {cl : List (Str × Addr)} {outer : List Env} {A₀ : Around} {base h₀ : Heap} {L : Addr} {m : Str → Option Value} {s : Shared} {Q E : Value → Shared → Prop} {news : List (Addr × Obj)}
    {K : Str} {V dV I : Addr} {t₁ t₂ t₃ t₄ t₅ tk tp : Tok} {vs : List Value} {k : Nat} {p : Int} {av : Value} {es : List Ent} {x : Str} {W : Addr} (B : Below A₀ base outer h₀) (F : Fr h₀ L s.heap m) (X : (K39 w.params).In h₀) (N : News h₀ L s.heap news) (T : Top view (looseW view []) mean mg mb h₀) (hk : cs.kind = .function) (_hdp : dp + 7 < recursionLimit) (_hun : un + 700 < cLine)
    (hV : (V, instObj 149 dV) ∈ news) (hd : (dV, vecD w t₁ t₂ t₃ t₄ t₅ (.str K tk) (.ref I) av) ∈ news) (hI : (I, listOf vs.toArray k) ∈ news) (hv : DatAll news vs (es.map Ent.dat)) (he : EntsOk K es) (hp1 : 1 ≤ p) (hp2 : p ≤ 20) (hav : AttrAt w news av x W)
    (hret : RtRet w h₀ L m news s Q (rtK K p 10) (rtE K es (sgf p) p 10) av x W) :
    wpAny (model Challenge.rw_pq1313_01.row.prog w) (ktrTop dp un gd cn cs L a ccd cl outer) (call (.ref 175) [.ref V, .int p tp]) Q E s := by
  unfold rtK rtE at hret
  by_cases h : K = Str.ofString "double" ∨ p < 10
  · simp only [if_pos h] at hret
    exact c_st_dbl B F X N T hk _hdp _hun hV hd hI hv he hp1 hp2 h hav hret
  · simp only [if_neg h] at hret
    obtain ⟨h1, h2⟩ := not_or.mp h
    refine c_st_int B F X N T hk (Nat.lt_of_le_of_lt (by omega) _hdp) (Nat.lt_of_le_of_lt (by omega) _hun) hV hd hI hv (by rw [hv.length, List.length_map]; exact he.len) (by omega) he.kind h1 hav hret

theorem ln_29 : True := by
  k_with "x call ref" => ((k_here; k_dflt (refine' c_rt (by k_asm) (by k_asm) (by k_asm) (by k_asm) (by k_asm) (by first | exact rfl | assumption) (by k_extra "x m room") (by k_extra "x m units") (by k_mem) (by k_mem) (by k_mem) (by (refine' DatAll.mono ?_ (by assumption); (intro p hp; k_mem))) (by assumption) (by omega) (by omega) (by (refine' AttrAt.mono (by assumption) ?_; (intro p hp; k_mem))) ?_; k_whole; intro R9 vs9 av9 add9 h9 tk9 F9 N9 ap9 vec9 dat9 at9); (try k_sweep); (try dsimp only); (try k_fold)))
  k_with "x call ref" => ((k_here; k_dflt (refine' c_st (by k_asm) (by k_asm) (by k_asm) (by k_asm) (by k_asm) (by first | exact rfl | assumption) (by k_extra "x m room") (by k_extra "x m units") (by k_mem) (by k_mem) (by k_mem) (by (refine' DatAll.mono ?_ (by assumption); (intro p hp; k_mem))) (by assumption) (by omega) (by omega) (by (refine' AttrAt.mono (by assumption) ?_; (intro p hp; k_mem))) ?_; k_whole; intro R9 vs9 av9 add9 h9 tk9 F9 N9 ap9 vec9 dat9 at9); (try k_sweep); (try dsimp only); (try k_fold)))
  trivial

theorem comp_draw {prog : Program} {w : World} {A : Around} {h₀ : Heap} {L : Addr} {m : Str → Option Value} {env : Env} {elt : PySem.Expr} {x : Str} {scope : Scope} {cl : List (Str × Addr)} {s : Shared} {P : Nat → Value → Prop} {Fin : List Value → List (Addr × Obj) → Prop}
    (Pe : Ent → Prop) {C : Addr} {rest : List (Addr × Obj)} (hCr : ∀ p ∈ rest, p.1 ≠ C) {n : Nat}
    (step : ∀ v oC add I oI C' oC' D ys m₂ h tk (Q' E' : Value → Shared → Prop), ChainIs oC → LCg.NsObj oC' m₂ → m₂ x = some v → Fr h₀ L h m → News h₀ L h ((C, oC) :: (I, oI) :: (C', oC') :: (D, LCg.lst ys) :: (add ++ rest)) →
      (∀ p ∈ (I, oI) :: (C', oC') :: (D, LCg.lst ys) :: (add ++ rest), p.1 ≠ C) → LeRet h₀ L m C ((I, oI) :: (C', oC') :: (D, LCg.lst ys) :: (add ++ rest)) { s with heap := h, toks := tk } Q' Pe →
      wpAny (model prog w) A (eval elt (compEnvC scope cl C' env)) Q' E' { s with heap := h, toks := tk })
    (fin : ∀ ys add oC (es : List Ent), ChainIs oC → DatAll add ys (es.map Ent.dat) → (∀ e ∈ es, Pe e ∧ e.Ok) → es.length = n → Apart add ((C, oC) :: rest) → Fin ys (add ++ (C, oC) :: rest)) :
    ∀ oC, ChainIs oC → LCg.CompRest prog w A h₀ L m env elt x scope cl s (fun _ => True) P Fin n 0 [] ((C, oC) :: rest) := by
  have key : ∀ (k i : Nat) (es : List Ent) (add : List (Addr × Obj)) (ys : List Value) (oC : Obj), es.length + k = n → ChainIs oC → DatAll add ys (es.map Ent.dat) → (∀ e ∈ es, Pe e ∧ e.Ok) → Apart add ((C, oC) :: rest) →
      LCg.CompRest prog w A h₀ L m env elt x scope cl s (fun _ => True) P Fin k i ys (add ++ (C, oC) :: rest) := by
    intro k
    induction k with
    | zero => intro i es add ys oC hl hc hd he ha; exact LCg.CompRest.zero (fin ys add oC es hc hd he (by omega) ha)
    | succ k ih =>
      intro i es add ys oC hl hc hd he ha
      refine LCg.CompRest.succ fun v I oI C' oC' D m₂ h tk E' hp hns hmx F N off ne => ?_
      have offm := off.mem
      have hC3 := offm (C, oC) (List.mem_append.mpr (.inr (.head _)))
      refine step v oC add I oI C' oC' D ys m₂ h tk _ E' hc hns hmx F (cb_drop N fun p hp => ?_) (fun p hp => ?_) ?_
      · simp only [List.mem_cons, List.mem_append] at hp ⊢
        rcases hp with hp | hp | hp | hp | hp | hp
        · exact .inr (.inr (.inr (.inr (.inl hp))))
        · exact .inl hp
        · exact .inr (.inl hp)
        · exact .inr (.inr (.inl hp))
        · exact .inr (.inr (.inr (.inl hp)))
        · exact .inr (.inr (.inr (.inr (.inr hp))))
      · simp only [List.mem_cons, List.mem_append] at hp
        rcases hp with hp | hp | hp | hp | hp
        · rw [hp]; exact hC3.1.symm
        · rw [hp]; exact hC3.2.1.symm
        · rw [hp]; exact hC3.2.2.symm
        · exact ha p hp _ (.head _)
        · exact hCr p hp
      · intro e v₁ add' oC₁ h' tk' hPe hok hc₁ F' N' hCa lt hd'
        refine ⟨h', tk', add' ++ (add ++ (C, oC₁) :: rest), rfl, F', cb_drop N' ?_, Off3.app ?_ fun p hp => ?_, trivial, ?_⟩
        · intro p hp
          simp only [List.mem_cons, List.mem_append] at hp ⊢
          rcases hp with hp | hp | hp | hp | hp | hp | hp
          · exact .inr (.inr (.inl hp))
          · exact .inr (.inr (.inr (.inl hp)))
          · exact .inr (.inr (.inr (.inr (.inl hp))))
          · exact .inl hp
          · exact .inr (.inr (.inr (.inr (.inr (.inl hp)))))
          · exact .inr (.inl hp)
          · exact .inr (.inr (.inr (.inr (.inr (.inr hp)))))
        · refine LCg.Off3.of fun p hp => ?_
          rcases List.mem_append.mp hp with hp | hp
          · exact offm p (List.mem_append.mpr (.inl hp))
          · rcases List.mem_cons.mp hp with e1 | hp
            · rw [e1]; exact hC3
            · exact offm p (List.mem_append.mpr (.inr (.tail _ hp)))
        · exact ⟨Nat.ne_of_gt (lt _ (.head _) p hp), Nat.ne_of_gt (lt _ (.tail _ (.head _)) p hp), Nat.ne_of_gt (lt _ (.tail _ (.tail _ (.head _))) p hp)⟩
        · have e1 : add' ++ (add ++ (C, oC₁) :: rest) = (add' ++ add) ++ (C, oC₁) :: rest := by simp
          rw [e1]
          refine ih (i + 1) (es ++ [e]) (add' ++ add) (ys ++ [v₁]) oC₁ (by simp; omega) hc₁ ?_ ?_ ?_
          · rw [List.map_append]
            exact DatAll.append (DatAll.mono (fun p hp => List.mem_append.mpr (.inr hp)) hd) (.cons (dat_mono hd' fun p hp => List.mem_append.mpr (.inl hp)) .nil)
          · intro e' he'
            rcases List.mem_append.mp he' with he' | he'
            · exact he e' he'
            · rw [List.mem_singleton.mp he']; exact ⟨hPe, hok⟩
          · intro p hp q hq
            rcases List.mem_append.mp hp with hp | hp
            · rcases List.mem_cons.mp hq with e2 | hq
              · rw [e2]; exact fun e3 => hCa (List.mem_map.mpr ⟨p, hp, e3⟩)
              · exact Nat.ne_of_gt (lt q (.tail _ (.tail _ (.tail _ (List.mem_append.mpr (.inr hq))))) p hp)
            · rcases List.mem_cons.mp hq with e2 | hq
              · rw [e2]; exact ha p hp (C, oC) (.head _)
              · exact ha p hp q (.tail _ hq)
  intro oC hc
  exact key n 0 [] [] [] oC (by simp) hc .nil (fun _ h => nomatch h) Apart.nil


/-- behind the value of the one turn -/
noncomputable def OneEnd (prog : Program) (w : World) (h₀ : Heap) (L : Addr) (m : Str → Option Value) (s₁ : Shared) (own news : List (Addr × Obj)) (key : Str) (Q : Value → Shared → Prop) (y : Value) (s' : Shared) : Prop :=
  ∃ h' tk' add, s' = { s₁ with heap := h', toks := tk' } ∧ Fr h₀ L h' m ∧ News h₀ L h' (add ++ (own ++ news)) ∧ (∀ q ∈ own ++ news, ∀ p ∈ add, q.1 < p.1) ∧
        ∀ D' oD' h'' tk'', Fr h₀ L h'' m → News h₀ L h'' ((D', oD') :: (add ++ news)) → oD'.IsDictOf (PySem.strKind prog w) [(key, y)] → (D' == sysModules) = false → (∀ q ∈ add ++ news, q.1 ≠ D') → Q (.ref D') { s₁ with heap := h'', toks := tk'' }
/-- the source of a dict comprehension over a dict of one name, and its one turn -/
noncomputable def OneSrc (prog : Program) (w : World) (A : Around) (h₀ : Heap) (L : Addr) (m : Str → Option Value) (env : Env) (vx : PySem.Expr) (x : Str) (scope : Scope) (cl : List (Str × Addr)) (Q : Value → Shared → Prop) (xv : Value) (s₁ : Shared) : Prop :=
  ∃ AD o key vv news, xv = .ref AD ∧ A.handled = none ∧ h₀.NoLimit ∧ Fr h₀ L s₁.heap m ∧ News h₀ L s₁.heap news ∧ (AD, o) ∈ news ∧ o.IsDictOf (PySem.strKind prog w) [(key, vv)] ∧ (AD == sysModules) = false ∧
    ∀ I oI C oC D oD m₂ h tk t (E' : Value → Shared → Prop), LCg.NsObj oC m₂ → m₂ x = some (.str key t) → Fr h₀ L h m → News h₀ L h ((I, oI) :: (C, oC) :: (D, oD) :: news) →
      wpAny (model prog w) A (eval vx (compEnvC scope cl C env)) (OneEnd prog w h₀ L m s₁ [(I, oI), (C, oC), (D, oD)] news key Q) E' { s₁ with heap := h, toks := tk }
section
variable {prog : Program} {w : World} {A : Around} {E : Value → Shared → Prop} {s : Shared} {h₀ : Heap} {L : Addr} {m : Str → Option Value} {env : Env}
theorem dictcomp_one {vx iter : PySem.Expr} {x : Str} {px kp : Pos} {scope : Scope} {cl : List (Str × Addr)} {pos : Pos} {Q : Value → Shared → Prop} (_F₀ : Fr h₀ L s.heap m)
    (hclos : closureFor scope env = pure cl) (hcell : ∀ y ∈ scope.names, y.2 ≠ .cell) (hkind : scope.kind = .function)
    (hnames : ∀ y ∈ scope.names, y.2 = .local → scope.names.lookup y.1 = some .local) (hx : scope.names.lookup x = some .local) (hdbg : (x == ("__debug__" : Str)) = false)
    (h : wpAny (model prog w) A (eval iter env) (OneSrc prog w A h₀ L m env vx x scope cl Q) E s)
    (hs : ∀ x, foldedSetIterable iter env x = pure x := by intro _; rfl) :
    wpAny (model prog w) A (eval (.DictComp (.Name x kp) vx [⟨.Name x px, iter, [], 0⟩] scope pos) env) Q E s := by
  rw [arm_eval_DictComp]
  refine wpAny_comprehension_free (use := none) rfl hs hclos hkind hnames (wpAny_mono h (fun xv s₁ h₁ => ?_) fun _ _ e => e)
  obtain ⟨AD, o, key, vv, news, rfl, hh, hbig, F, N, hm, hd, lo, body⟩ := h₁
  obtain ⟨es, ep, c1, c2, c3, c4, c5⟩ := hd
  have hat : s₁.heap.DictAt (PySem.strKind prog w) AD [(key, vv)] ep := ⟨o, es, N.get hm, c1, c2, c3, c4, c5⟩
  have hltA : @LT.lt Nat _ AD s₁.heap.objs.size := hat.lt_size
  refine wpAny_pyIter_dict lo hat ?_
  generalize hH : s₁.heap.push _ = H
  have hsz : H.objs.size = s₁.heap.objs.size + 1 := by rw [← hH, Heap.size_push]
  have up : ∀ b x, s₁.heap.get? b = some x → H.get? b = some x := fun b x e => by rw [← hH]; exact Heap.get?_push_of_some _ e
  generalize hI : s₁.heap.objs.size = I at *
  have hne : AD ≠ I := Nat.ne_of_lt hltA
  have W := Walks.dictKeys (prog := prog) (w := w) (knd := PySem.strKind prog w) (A := A) hh I AD hne [(key, vv)] ep
  have st₀ : H.IsKeyIter I AD 0 1 ep ∧ H.DictAt (PySem.strKind prog w) AD [(key, vv)] ep := ⟨⟨_, by rw [← hH, ← hI]; exact Heap.get?_push_size _ rfl, rfl, rfl⟩, by rw [← hH]; exact hat.push _⟩
  have F₁ : Fr h₀ L H m := F.keeps up
  have N₁ : News h₀ L H news := N.grown up
  have hLI : @LT.lt Nat _ L I := by rw [← hI]; exact F.ns.lt
  have hnI : ∀ p ∈ news, @LT.lt Nat _ p.1 I := fun p hp => by rw [← hI]; exact Heap.lt_size (N p hp).1
  refine wpAny_newObj_type (wpAny_newFunctionEnv hcell (by intro y hy; simp at hy) (fun h₁ hns₁ hsb₁ => ?_) hkind)
  dsimp only at hns₁ hsb₁ ⊢
  generalize hH2 : H.push { cls := .type "dict", dict := none, data := .dict #[] } = H2 at hns₁ hsb₁ ⊢
  have hsz2 : H2.objs.size = I + 2 := by rw [← hH2, Heap.size_push, hsz]
  have hDnew : H2.DictOf (PySem.strKind prog w) H.objs.size [] := by rw [← hH2]; exact Heap.DictOf.new H
  generalize hD : H.objs.size = D at *
  generalize hC : H2.objs.size = C at *
  have eD : D = I + 1 := hsz
  have eC : C = I + 2 := hsz2
  have fresh₀ : ∀ a, I ≤ a → h₀.get? a = none := fun a ha => by
    cases e : h₀.get? a with
    | none => rfl
    | some o' => exact absurd (Heap.lt_size (F.keep a o' e)) (by rw [hI]; exact Nat.not_lt.mpr ha)
  have hIlt : I < D := by omega
  have old : ∀ b x, @LT.lt Nat _ b D → H.get? b = some x → h₁.get? b = some x := fun b x hb e => hsb₁.extBut b x (neN (by omega)) (Heap.get?_push_of_some _ (by rw [← hH2]; exact Heap.get?_push_of_some _ e))
  have hltH : ∀ b x, H.get? b = some x → @LT.lt Nat _ b D := fun b x e => by rw [← hD]; exact Heap.lt_size e
  have hDict : h₁.DictOf (PySem.strKind prog w) D [] := hDnew.at fun x e => hsb₁.extBut _ _ (neN (by omega)) (Heap.get?_push_of_some _ e)
  have st₁ : h₁.IsKeyIter I AD 0 1 ep ∧ h₁.DictAt (PySem.strKind prog w) AD [(key, vv)] ep := W.frame _ _ _ st₀ fun b _ x e => old b x (hltH b x e) e
  have F₂ : Fr h₀ L h₁ m := F₁.keeps fun b x e => old b x (hltH b x e) e
  have N₂ : News h₀ L h₁ news := N₁.grown fun b x e => old b x (hltH b x e) e
  have hLD : D ≠ L := neN (by omega)
  have hLC : C ≠ L := neN (by omega)
  have hD₀ := fresh₀ D (by omega)
  have hC₀ := fresh₀ C (by omega)
  have hI₀ := fresh₀ I (Nat.le_refl _)
  have hlow : (D == sysModules) = false := by rw [← hD]; exact F₁.notModules (modules_low hbig)
  have loop : ∀ s₃ : Shared, s₃ = { s₁ with heap := h₁, toks := s₁.toks + ([] : List (Str × Value)).length } →
      codeAny (model prog w) A (.compLoop (.DictComp (.Name x kp) vx [⟨.Name x px, iter, [], 0⟩] scope pos) 0 (.ref I) (.ref D) (compEnvC scope cl C env)) (compPost (model prog w) A E none Q (.ref D) C) s₃ := by
    rintro s₃ rfl
    obtain ⟨Inv, hv⟩ : ∃ Inv : Nat → Shared → Prop, Inv = (fun n s' => (n = 2 ∧ s' = { s₁ with heap := h₁, toks := s₁.toks + ([] : List (Str × Value)).length }) ∨
      (n = 1 ∧ ∃ h' tk' add y oD m', s' = { s₁ with heap := h', toks := tk' } ∧ (h'.IsKeyIter I AD 1 1 ep ∧ h'.DictAt (PySem.strKind prog w) AD [(key, vv)] ep) ∧ Fr h₀ L h' m ∧ h'.Ns C m' ∧ News h₀ L h' ((D, oD) :: (add ++ news)) ∧ (∀ q ∈ add ++ news, q.1 ≠ D ∧ q.1 ≠ C ∧ q.1 ≠ I) ∧ oD.IsDictOf (PySem.strKind prog w) [(key, y)] ∧
        ∀ D' oD' h'' tk'', Fr h₀ L h'' m → News h₀ L h'' ((D', oD') :: (add ++ news)) → oD'.IsDictOf (PySem.strKind prog w) [(key, y)] → (D' == sysModules) = false → (∀ q ∈ add ++ news, q.1 ≠ D') → Q (.ref D') { s₁ with heap := h'', toks := tk'' })) := ⟨_, rfl⟩
    refine codeAny_compLoop_testsD Inv ?_ 2 (by rw [hv]; exact .inl ⟨rfl, rfl⟩)
    intro n s' hh
    rw [hv] at hh
    rcases hh with ⟨rfl, rfl⟩ | ⟨rfl, h', tk', add, y, oD, m', rfl, st', F', hn', N', off, hoD, cont⟩
    · refine W.item 0 _ _ _ (by simp) st₁ fun v h₂ tk₂ hPv st₂ hk₂ => ?_
      obtain ⟨k, vx', hkv, hkey⟩ := hPv
      have e1 : (key, vv) = (k, vx') := Option.some.inj hkv
      obtain ⟨rfl, rfl⟩ := Prod.mk.inj e1
      obtain ⟨t, rfl⟩ := Value.isStrOf_shape hkey
      have hk₂' : ∀ b o, b ≠ I → h₁.get? b = some o → h₂.get? b = some o := fun b o hb e => hk₂ b o (by simpa using hb) e
      refine wpAny_assign_Name (wpAny_storeName_local (lookup_relabel_local hx) (hns₁.at' fun o e => hk₂' _ o (neN (by omega)) e) (fun h₃ hn₃ hs₃ => ?_) (by simp [compEnvC, relabel, hkind]))
      refine wpAny_tests_nil ?_
      simp only [if_true]
      have hs₃' : Heap.SameBut C h₂ h₃ := hs₃
      have st₃ : h₃.IsKeyIter I AD 1 1 ep ∧ h₃.DictAt (PySem.strKind prog w) AD [(key, vv)] ep := W.frame _ _ _ st₂ fun b hb o e => hs₃'.extBut b o (by
        rcases List.mem_cons.mp hb with rfl | hb
        · exact neN (by omega)
        · rw [List.mem_singleton.mp hb]; exact neN (by omega)) e
      obtain ⟨oI, heI, _⟩ := st₃.1
      obtain ⟨oC, heC, hoC⟩ := LCg.ns_obj hn₃
      have F₃ : Fr h₀ L h₃ m := (LCg.fr_but F₂ hk₂ (neN (by omega)) hI₀).change hs₃' hLC hC₀
      obtain ⟨oD, heD, hoD⟩ := Heap.dictOf_iff.mp hDict
      have heD₃ : h₃.get? D = some oD := hs₃'.extBut _ _ (neN (by omega)) (hk₂' D oD (neN (by omega)) heD)
      have N₃ : News h₀ L h₃ ((I, oI) :: (C, oC) :: (D, oD) :: news) := fun p hp => by
        rcases List.mem_cons.mp hp with rfl | hp
        · exact ⟨heI, (neN (by omega)), hI₀⟩
        · rcases List.mem_cons.mp hp with rfl | hp
          · exact ⟨heC, hLC, hC₀⟩
          · rcases List.mem_cons.mp hp with rfl | hp
            · exact ⟨heD₃, hLD, hD₀⟩
            · have z := N₂ p hp
              have lt := hnI p hp
              exact ⟨hs₃'.extBut _ _ (neN (by omega)) (hk₂' _ _ (neN (by omega)) z.1), z.2⟩
      refine ldVarK (hoC.ns heC) (show _ = some (Value.str key t) by simp) ?_ (by simp [compEnvC, relabel, hkind]) (lookup_relabel_local hx) hdbg
      refine wpAny_mono (body I oI C oC D oD _ h₃ _ t _ hoC (by simp) F₃ N₃) (fun y s₄ h₄ => ?_) fun _ _ e => e
      obtain ⟨h₄, tk₄, add, rfl, F₄, N₄, lt, cont⟩ := h₄
      have m4 : ∀ q ∈ (I, oI) :: (C, oC) :: (D, oD) :: news, h₄.get? q.1 = some q.2 := fun q hq => (N₄ q (List.mem_append.mpr (.inr hq))).1
      have heI₄ := m4 (I, oI) (.head _)
      have heC₄ := m4 (C, oC) (.tail _ (.head _))
      have heD₄ := m4 (D, oD) (.tail _ (.tail _ (.head _)))
      have st₄ : h₄.IsKeyIter I AD 1 1 ep ∧ h₄.DictAt (PySem.strKind prog w) AD [(key, vv)] ep := by
        refine ⟨?_, ⟨o, es, m4 (AD, o) (.tail _ (.tail _ (.tail _ hm))), c1, c2, c3, c4, c5⟩⟩
        obtain ⟨o', e', r⟩ := st₃.1
        rw [heI] at e'
        cases e'
        exact ⟨oI, heI₄, r⟩
      refine wpAny_dictSet_pairs (hsz := by decide) (knd := PySem.strKind prog w) (PySem.strKind_is _ _ _ _) (Heap.dictOf_iff.mpr ⟨oD, heD₄, hoD⟩) fun h₅ hd₅ hs₅ => ?_
      obtain ⟨oD', heD₅, hoD'⟩ := Heap.dictOf_iff.mp hd₅
      have far : ∀ p ∈ add, p.1 ≠ I ∧ p.1 ≠ C ∧ p.1 ≠ D := fun p hp => ⟨Nat.ne_of_gt (lt _ (.head _) p hp), Nat.ne_of_gt (lt _ (.tail _ (.head _)) p hp), Nat.ne_of_gt (lt _ (.tail _ (.tail _ (.head _))) p hp)⟩
      have off : ∀ q ∈ add ++ news, q.1 ≠ D ∧ q.1 ≠ C ∧ q.1 ≠ I := fun q hq => by
        rcases List.mem_append.mp hq with hq | hq
        · exact ⟨(far q hq).2.2, (far q hq).2.1, (far q hq).1⟩
        · have := hnI q hq
          exact ⟨neN (by omega), neN (by omega), neN (by omega)⟩
      refine ⟨1, by decide, ?_⟩
      rw [hv]
      refine (.inr ⟨rfl, h₅, _, add, y, oD', _, rfl, W.frame _ _ _ st₄ fun b hb o e => hs₅.extBut b o (by
        rcases List.mem_cons.mp hb with rfl | hb
        · exact neN (by omega)
        · rw [List.mem_singleton.mp hb]; exact neN (by omega)) e, F₄.change hs₅ hLD hD₀, (hoC.ns heC₄).sameBut hs₅ (neN (by omega)), fun p hp => ?_, off, hoD', cont⟩)
      rcases List.mem_cons.mp hp with rfl | hp
      · exact ⟨heD₅, hLD, hD₀⟩
      · have z := N₄ p (by
          rcases List.mem_append.mp hp with hp | hp
          · exact List.mem_append.mpr (.inl hp)
          · exact List.mem_append.mpr (.inr (.tail _ (.tail _ (.tail _ hp)))))
        exact ⟨hs₅.extBut _ _ (off p hp).1 z.1, z.2⟩
    · refine W.done _ _ _ st' fun h₂ tk₂ hk₂ => ?_
      have hk₂' : ∀ b o, b ≠ I → h'.get? b = some o → h₂.get? b = some o := fun b o hb e => hk₂ b o (by simpa using hb) e
      refine ⟨m', hn'.at' fun o e => hk₂' _ o (neN (by omega)) e, fun h'' hs'' => ?_⟩
      refine cont D oD h'' tk₂ ((LCg.fr_but F' hk₂ (neN (by omega)) hI₀).change hs'' hLC hC₀) (fun p hp => ?_) hoD hlow fun q hq => (off q hq).1
      have z := N' p hp
      have dp : p.1 ≠ C ∧ p.1 ≠ I := by
        rcases List.mem_cons.mp hp with rfl | hp
        · exact ⟨neN (by omega), neN (by omega)⟩
        · exact (off p hp).2
      exact ⟨hs''.extBut _ _ dp.1 (hk₂' _ _ dp.2 z.1), z.2⟩
  exact codeAny_compStart_dict (loop _ rfl) (W.self 0 _ _ _ st₁ (loop _ rfl))
end


/-- the dress of the vector: none, or a dict of one name upon a vector of texts -/
structure DressOk (w : World) (news : List (Addr × Obj)) (av : Value) (x : Str) (W : Addr) (us : List Value) : Prop where
  at_ : AttrAt w news av x W
  vec : av = .none ∨ ∃ K av', VecAt w news W K us av'
  txts : ∃ ss : List Str, DatAll [] us (ss.map Dat.str)
  len : us.length ≤ 8
theorem DressOk.mono {w : World} {news news' : List (Addr × Obj)} {av : Value} {x : Str} {W : Addr} {us : List Value} (h : DressOk w news av x W us) (s : ∀ q ∈ news, q ∈ news') : DressOk w news' av x W us :=
  ⟨h.at_.mono s, h.vec.imp id fun ⟨K, a, v⟩ => ⟨K, a, v.mono s⟩, h.txts, h.len⟩
noncomputable def Dressed (w : World) (h₀ : Heap) (L : Addr) (m : Str → Option Value) (s : Shared) (V dV : Addr) (t₁ t₂ t₃ t₄ t₅ : Tok) (kv iv : Value) (base : List (Addr × Obj)) (s' : Shared) : Prop :=
  ∃ av x W us add h' tk', s' = { s with heap := h', toks := tk' } ∧ Fr h₀ L h' m ∧ News h₀ L h' (add ++ (V, instObj 149 dV) :: (dV, vecD w t₁ t₂ t₃ t₄ t₅ kv iv av) :: base) ∧ Apart add ((V, instObj 149 dV) :: (dV, vecD w t₁ t₂ t₃ t₄ t₅ kv iv av) :: base) ∧ DressOk w add av x W us
theorem cut_dress {M : Model} {A : Around} {E : Value → Shared → Prop} {s : Shared} {st : Stmt} {rest : List Stmt} {env : Env} {Q : Flow → Shared → Prop} {w : World} {h₀ : Heap} {L : Addr} {m : Str → Option Value} {V dV : Addr} {t₁ t₂ t₃ t₄ t₅ : Tok} {kv iv : Value} {base : List (Addr × Obj)}
    (_F : Fr h₀ L s.heap m) (_N : News h₀ L s.heap ((V, instObj 149 dV) :: (dV, vecD w t₁ t₂ t₃ t₄ t₅ kv iv .none) :: base))
    (h1 : wpAny M A (exec st env) (fun f s' => f = .next ∧ Dressed w h₀ L m s V dV t₁ t₂ t₃ t₄ t₅ kv iv base s') E s)
    (h2 : ∀ av x W us add h' tk', Fr h₀ L h' m → News h₀ L h' (add ++ (V, instObj 149 dV) :: (dV, vecD w t₁ t₂ t₃ t₄ t₅ kv iv av) :: base) → Apart add ((V, instObj 149 dV) :: (dV, vecD w t₁ t₂ t₃ t₄ t₅ kv iv av) :: base) → DressOk w add av x W us →
      wpAny M A (execs rest env) Q E { s with heap := h', toks := tk' }) : wpAny M A (execs (st :: rest) env) Q E s :=
  cut_st h1 fun s' ⟨av, x, W, us, add, h', tk', e, F, N, a, d⟩ => by subst e; exact h2 av x W us add h' tk' F N a d
theorem comp_strs {prog : Program} {w : World} {A : Around} {h₀ : Heap} {L : Addr} {m : Str → Option Value} {env : Env} {elt : PySem.Expr} {x : Str} {scope : Scope} {cl : List (Str × Addr)} {s : Shared} {P : Nat → Value → Prop} {Fin : List Value → List (Addr × Obj) → Prop} {news : List (Addr × Obj)} {n : Nat}
    (step : ∀ i v I oI C' oC' D ys m₂ h tk (Q' E' : Value → Shared → Prop), i < n → P i v → LCg.NsObj oC' m₂ → m₂ x = some v → Fr h₀ L h m → News h₀ L h ((I, oI) :: (C', oC') :: (D, LCg.lst ys) :: news) →
      (∀ x t h' tk', Fr h₀ L h' m → News h₀ L h' ((I, oI) :: (C', oC') :: (D, LCg.lst ys) :: news) → Q' (.str x t) { s with heap := h', toks := tk' }) →
      wpAny (model prog w) A (eval elt (compEnvC scope cl C' env)) Q' E' { s with heap := h, toks := tk })
    (fin : ∀ ys (ss : List Str), DatAll [] ys (ss.map Dat.str) → ys.length = n → Fin ys news) :
    LCg.CompRest prog w A h₀ L m env elt x scope cl s (fun _ => True) P Fin n 0 [] news := by
  have key : ∀ (k i : Nat) (ss : List Str) (ys : List Value), i + k = n → ys.length = i → DatAll [] ys (ss.map Dat.str) → LCg.CompRest prog w A h₀ L m env elt x scope cl s (fun _ => True) P Fin k i ys news := by
    intro k
    induction k with
    | zero => intro i ss ys h1 h2 h3; exact LCg.CompRest.zero (fin ys ss h3 (by omega))
    | succ k ih =>
      intro i ss ys h1 h2 h3
      refine LCg.CompRest.succ fun v I oI C' oC' D m₂ h tk E' hp hns hmx F N off ne => ?_
      refine step i v I oI C' oC' D ys m₂ h tk _ E' (by omega) hp hns hmx F N fun x t h' tk' F' N' => ?_
      refine ⟨h', tk', news, rfl, F', N', off, trivial, ih (i + 1) (ss ++ [x]) (ys ++ [.str x t]) (by omega) (by simp [h2]) ?_⟩
      rw [List.map_append]
      exact DatAll.append h3 (.cons (.str x t) .nil)
  exact key n 0 [] [] (by omega) rfl .nil
theorem ln_30 : True := by
  k_with "x eval Dict cons cons" => ((k_here; k_dflt (refine' kdn_str (by rfl) (by k_asm) (by k_asm) (by exact Top.nolimit (by k_asm)) (by rfl) (by rfl) (by exact List.cons_ne_nil _ _) (by exact Nat.le_of_ble_eq_true rfl) ?_); intro d' h' o' F' N' l1 lo' hd'; (try k_lt l1)))
  trivial
theorem len_M {prog : Program} {w : World} {A : Around} {E : Value → Shared → Prop} {s : Shared} {h₀ : Heap} {L l : Addr} {news : List (Addr × Obj)} {us : List Value} {n : Nat} {Q : Value → Shared → Prop}
    (N : News h₀ L s.heap news) (hm : (l, listOf us.toArray n) ∈ news) (hz : us.length ≤ 8) (h : Q (.int (us.length : Int) (s.toks + 1)) { s with toks := s.toks + 1 + 1 }) : wpAny (model prog w) A (call (.builtin "len") [.ref l]) Q E s := by
  have hl : s.heap.IsList l us.toArray := ⟨_, (N _ hm).1, rfl, n, rfl⟩
  have e : us.toArray.size = us.length := List.size_toArray
  exact len_list hl (by rw [e]; omega) (by rw [e]; exact h)
theorem ln_31 : True := by
  k_with "x call builtin:len" => ((k_here; (with_reducible show wpAny _ _ (call (Value.builtin "len") [Value.ref _]) _ _ _); k_dflt (refine' len_M (by k_asm) (by k_mem) (by assumption) ?_)))
  k_with "x m alt" => (first | assumption | exact And.right (by assumption) | exact And.right (And.right (by assumption)) | exact And.right (And.right (And.right (by assumption))) | exact And.right (And.right (And.right (And.right (by assumption)))) | exact And.right (And.right (And.right (And.right (And.right (by assumption))))) | exact And.right (And.right (And.right (And.right (And.right (And.right (by assumption)))))) | exact And.right (And.right (And.right (And.right (And.right (And.right (And.right (by assumption))))))) | exact And.right (And.right (And.right (And.right (And.right (And.right (And.right (And.right (by assumption)))))))) | exact And.right (And.right (And.right (And.right (And.right (And.right (And.right (And.right (And.right (by assumption))))))))) | exact And.right (And.right (And.right (And.right (And.right (And.right (And.right (And.right (And.right (And.right (by assumption)))))))))) | exact And.right (And.right (And.right (And.right (And.right (And.right (And.right (And.right (And.right (And.right (And.right (by assumption))))))))))) | exact And.right (And.right (And.right (And.right (And.right (And.right (And.right (And.right (And.right (And.right (And.right (And.right (by assumption)))))))))))) | exact And.right (And.right (And.right (And.right (And.right (And.right (And.right (And.right (And.right (And.right (And.right (And.right (And.right (by assumption))))))))))))) | exact And.right (And.right (And.right (And.right (And.right (And.right (And.right (And.right (And.right (And.right (And.right (And.right (And.right (And.right (by assumption)))))))))))))) | exact And.right (And.right (And.right (And.right (And.right (And.right (And.right (And.right (And.right (And.right (And.right (And.right (And.right (And.right (And.right (by assumption))))))))))))))) | exact And.right (And.right (And.right (And.right (And.right (And.right (And.right (And.right (And.right (And.right (And.right (And.right (And.right (And.right (And.right (And.right (by assumption)))))))))))))))))
  k_with "x m k_all" => (first | exact fun q hq => Nat.ne_of_lt (allLt_mem (by k_extra "x m alt") q hq) | exact off1_mem (by k_extra "x m alt") | exact fun q hq => Nat.ne_of_lt (allLt_trans (by k_extra "x m alt") (by refine ltN ?_; omega) q hq))
  trivial
theorem Apart.cons3 {p : Addr × Obj} {add news : List (Addr × Obj)} (h : ∀ q ∈ news, q.1 ≠ p.1) (r : Apart add news) : Apart (p :: add) news := Apart.cons2 (fun q hq => (h q hq).symm) r
theorem ln_32 : True := by
  k_with "x m apart3" => ((repeat' (first | exact Apart.nil | refine Apart.cons3 ?_ ?_)) <;> ((try dsimp only); first | k_all | done))
  trivial
theorem range_len {us : List Value} : Builtin.Range.rangeSize 0 ((us.length : Nat) : Int) 1 = ((us.length : Nat) : Int) := by
  have := rangeSize_nat 0 ((us.length : Nat) : Int)
  simpa using this
section
variable {w : World} {h₀ h' : Heap} {L : Addr} {m : Str → Option Value} {s : Shared} {V dV : Addr} {t₁ t₂ t₃ t₄ t₅ : Tok} {kv iv : Value} {base : List (Addr × Obj)} {tk' : Nat}
theorem dressed_none (F : Fr h₀ L h' m) (N : News h₀ L h' ((V, instObj 149 dV) :: (dV, vecD w t₁ t₂ t₃ t₄ t₅ kv iv .none) :: base)) : Dressed w h₀ L m s V dV t₁ t₂ t₃ t₄ t₅ kv iv base { s with heap := h', toks := tk' } :=
  ⟨.none, Str.empty, V, [], [], h', tk', rfl, F, N, Apart.nil, ⟨.inl rfl, .inl rfl, ⟨[], .nil⟩, by simp⟩⟩
theorem dressed_some {AD W dW IW : Addr} {o : Obj} {x K : Str} {u₁ u₂ u₃ u₄ u₅ uk : Tok} {av' : Value} {us : List Value} {ss : List Str} {c : Nat} (pre : List (Addr × Obj)) (F : Fr h₀ L h' m)
    (N : News h₀ L h' (pre ++ (V, instObj 149 dV) :: (dV, vecD w t₁ t₂ t₃ t₄ t₅ kv iv (.ref AD)) :: base)) (ap : Apart pre ((V, instObj 149 dV) :: (dV, vecD w t₁ t₂ t₃ t₄ t₅ kv iv (.ref AD)) :: base))
    (hm : (AD, o) ∈ pre) (hd : o.IsDictOf (PySem.strKind prg w) [(x, .ref W)]) (lo : (AD == sysModules) = false) (h1 : (W, instObj 149 dW) ∈ pre) (h2 : (dW, vecD w u₁ u₂ u₃ u₄ u₅ (.str K uk) (.ref IW) av') ∈ pre) (h3 : (IW, listOf us.toArray c) ∈ pre)
    (hs : DatAll [] us (ss.map Dat.str)) (hl : us.length ≤ 8) : Dressed w h₀ L m s V dV t₁ t₂ t₃ t₄ t₅ kv iv base { s with heap := h', toks := tk' } :=
  ⟨.ref AD, x, W, us, pre, h', tk', rfl, F, N, ap, ⟨.inr ⟨AD, o, rfl, hm, hd, lo⟩, .inr ⟨K, av', ⟨dW, IW, u₁, u₂, u₃, u₄, u₅, uk, c, h1, h2, h3⟩⟩, ⟨ss, hs⟩, hl⟩⟩
end


theorem kind_is {x : Int} (h0 : 0 ≤ x) (h1 : x < 3) {K : Str} (h : ([Str.ofString "logical", Str.ofString "integer", Str.ofString "double"] : List Str).getD x.toNat Str.empty = K) :
    K = Str.ofString "logical" ∨ K = Str.ofString "integer" ∨ K = Str.ofString "double" := by
  have : x = 0 ∨ x = 1 ∨ x = 2 := by omega
  subst h
  rcases this with rfl | rfl | rfl
  · exact .inl rfl
  · exact .inr (.inl rfl)
  · exact .inr (.inr rfl)
theorem range_n {x : Int} (h0 : 0 ≤ x) : Builtin.Range.rangeSize 0 x 1 = ((x.toNat : Nat) : Int) := by
  have := rangeSize_nat 0 x
  simpa using this
noncomputable def OffA (stuff : List (Addr × Obj)) (as : List Addr) : Prop := ∀ p ∈ stuff, ∀ a ∈ as, p.1 ≠ a
theorem offA_at {stuff : List (Addr × Obj)} {as : List Addr} {d : Addr} (h : OffA stuff as) (hd : d ∈ as) : ∀ p ∈ stuff, p.1 ≠ d := fun p hp => h p hp d hd
theorem offA_of {stuff base : List (Addr × Obj)} (h : Apart stuff base) : OffA stuff (base.map (·.1)) := fun p hp a ha => by
  obtain ⟨q, hq, rfl⟩ := List.mem_map.mp ha
  exact h p hp q hq
theorem apart_off1 {D : Addr} {o : Obj} {add base : List (Addr × Obj)} (o1 : LCg.Off1 D (add ++ base)) (h : Apart add base) : Apart ((D, o) :: add) base :=
  Apart.cons2 (fun q hq => (off1_mem o1 q (List.mem_append.mpr (.inr hq))).symm) h
theorem Upd.app {d : Addr} {o o' : Obj} {add l l' : List (Addr × Obj)} (h : ∀ p ∈ add, p.1 ≠ d) (U : Upd d o o' l l') : Upd d o o' (add ++ l) (add ++ l') := by
  induction add with
  | nil => exact U
  | cons p r ih => exact .tail (h p (.head _)) (ih fun q hq => h q (.tail _ hq))
theorem ln_33 : True := by
  k_with "x m k_all" => ((refine' offA_at (by assumption) (by k_mem)))
  k_with "x m k_upd" => (((with_reducible refine' Upd.app (by exact fun p hp => (by assumption : Apart _ _) p hp _ (by k_mem)) (by k_upd))))
  trivial
theorem led_front {x : Addr × Obj} {add base : List (Addr × Obj)} : ∀ p ∈ base ++ (x :: add), p ∈ x :: (add ++ base) := by
  intro p hp
  simp only [List.mem_append, List.mem_cons] at hp ⊢
  rcases hp with hp | hp | hp
  · exact .inr (.inr hp)
  · exact .inl hp
  · exact .inr (.inl hp)
theorem led_norm {h₀ h : Heap} {L : Addr} {x : Addr × Obj} {add base : List (Addr × Obj)} (N : News h₀ L h (x :: (add ++ base))) : ∃ stuff, stuff = x :: add ∧ News h₀ L h (base ++ stuff) := ⟨_, rfl, cb_drop N led_front⟩
noncomputable abbrev KindOk (K : Str) (e : Ent) : Prop := if K = Str.ofString "double" then e.Dbl else e = .na ∨ ∃ i, e = .whole i
theorem ln_34 : True := by
  k_with "x call ref" => ((k_here; k_dflt (refine' c_lentry (by k_asm) (by k_asm) (by k_asm) (by k_asm) (by first | exact rfl | assumption) (by k_extra "x m room") (by k_extra "x m units") (by assumption) (by assumption) (by assumption) (by assumption) (by assumption))))
  trivial
theorem offA_app {a b : List (Addr × Obj)} {as : List Addr} (h : OffA a as) (k : OffA b as) : OffA (a ++ b) as := fun p hp => (List.mem_append.mp hp).elim (h p) (k p)
theorem norm6 {h₀ h : Heap} {L : Addr} {add pre stuff : List (Addr × Obj)} {c0 c1 c2 c3 c4 c5 : Addr × Obj} (N : News h₀ L h (add ++ (pre ++ c0 :: c1 :: c2 :: c3 :: c4 :: c5 :: stuff))) (ap : Apart add (pre ++ c0 :: c1 :: c2 :: c3 :: c4 :: c5 :: stuff))
    (hp : OffA pre [c0.1, c1.1, c2.1, c3.1, c4.1, c5.1]) (hoff : OffA stuff [c0.1, c1.1, c2.1, c3.1, c4.1, c5.1]) :
    ∃ stuff', News h₀ L h (c0 :: c1 :: c2 :: c3 :: c4 :: c5 :: stuff') ∧ OffA stuff' [c0.1, c1.1, c2.1, c3.1, c4.1, c5.1] ∧ (∀ p ∈ add, p ∈ stuff') ∧ (∀ p ∈ pre, p ∈ stuff') ∧ ∀ p ∈ stuff, p ∈ stuff' := by
  refine ⟨add ++ (pre ++ stuff), cb_drop N fun p hp => ?_, offA_app (fun p hp a ha => ?_) (offA_app hp hoff), fun p hp => List.mem_append.mpr (.inl hp), fun p hp => List.mem_append.mpr (.inr (List.mem_append.mpr (.inl hp))), fun p hp => List.mem_append.mpr (.inr (List.mem_append.mpr (.inr hp)))⟩
  · simp only [List.mem_append, List.mem_cons] at hp ⊢
    rcases hp with hp | hp | hp | hp | hp | hp | hp | hp | hp
    · exact .inr (.inr (.inl hp))
    · exact .inr (.inr (.inr (.inl hp)))
    · exact .inr (.inr (.inr (.inr (.inl hp))))
    · exact .inr (.inr (.inr (.inr (.inr (.inl hp)))))
    · exact .inr (.inr (.inr (.inr (.inr (.inr (.inl hp))))))
    · exact .inr (.inr (.inr (.inr (.inr (.inr (.inr (.inl hp)))))))
    · exact .inl hp
    · exact .inr (.inl hp)
    · exact .inr (.inr (.inr (.inr (.inr (.inr (.inr (.inr hp)))))))
  · have key : ∃ q ∈ pre ++ c0 :: c1 :: c2 :: c3 :: c4 :: c5 :: stuff, q.1 = a := by
      simp only [List.mem_cons, List.not_mem_nil, or_false] at ha
      rcases ha with rfl | rfl | rfl | rfl | rfl | rfl
      · exact ⟨c0, by simp, rfl⟩
      · exact ⟨c1, by simp, rfl⟩
      · exact ⟨c2, by simp, rfl⟩
      · exact ⟨c3, by simp, rfl⟩
      · exact ⟨c4, by simp, rfl⟩
      · exact ⟨c5, by simp, rfl⟩
    obtain ⟨q, hq, rfl⟩ := key
    exact ap p hp q hq
theorem ln_35 : True := by
  k_with "x m off" => (((repeat' (first | exact List.forall_mem_nil _ | refine List.forall_mem_cons.mpr ⟨?_, ?_⟩)) <;> k_ne))
  trivial
theorem cell_out {o : Obj} {x : Option Value} (h : o.data = Data.cell x) : ∃ y, o.data = Data.cell y := ⟨x, h⟩


theorem value_one {x : Str} {v : Value} : valueAt [(x, v)] x = some v := by simp [valueAt]
theorem item_one {prog : Program} {w : World} {A : Around} {E : Value → Shared → Prop} {s : Shared} {h₀ : Heap} {L : Addr} {news : List (Addr × Obj)} {d : Addr} {o : Obj} {k : Str} {tk : Tok} {v : Value} {value slice : PySem.Expr} {Q : Value → Shared → Prop}
    (N : News h₀ L s.heap news) (hp : (d, o) ∈ news) (hd : o.IsDictOf (PySem.strKind prog w) [(k, v)]) (h : Q v { s with toks := s.toks + 1 })
    (hs : subscripted slice false (.ref d) (.str k tk) = operate [.ref d, .str k tk] (getItem (.ref d) (.str k tk)) := by with_unfolding_all rfl) :
    wpAny (model prog w) A (subscriptTail value slice (.ref d) (.str k tk)) Q E s :=
  have hD := kda_dict N hp hd
  subscriptTail_builtinR (x := v) hD.typeIs slot_dict_getitem.lookup (wpAny_getItem_of (PySem.strKind_is _ _ _ _) hD.mapOf value_one ⟨rfl, h⟩) hs
theorem ln_36 : True := by
  k_with "x subscriptTail" => ((k_here; (with_reducible show wpAny _ _ (subscriptTail _ _ (Value.ref _) (Value.str _ _)) _ _ _); k_dflt (refine' item_one (by k_asm) (by k_mem) (by assumption) ?_)))
  k_with "x eval DictComp" => ((k_here; k_dflt (refine' dictcomp_one (by k_asm) (by with_unfolding_all rfl) (by decide) (by rfl) (by decide) (by rfl) (by decide) ?_ (by intro _; rfl))))
  trivial
/-- what is held of the dress: none, or a dict of one name upon a list of the texts -/
structure HeldOk (w : World) (news : List (Addr × Obj)) (av hv : Value) (x : Str) (us : List Value) : Prop where
  ex : (av = .none ∧ hv = .none) ∨ ((∃ AD, av = .ref AD) ∧ ∃ HD o IH c, hv = .ref HD ∧ (HD, o) ∈ news ∧ o.IsDictOf (PySem.strKind prg w) [(x, .ref IH)] ∧ (HD == sysModules) = false ∧ (IH, listOf us.toArray c) ∈ news)
theorem HeldOk.mono {w : World} {news news' : List (Addr × Obj)} {av hv : Value} {x : Str} {us : List Value} (h : HeldOk w news av hv x us) (s : ∀ q ∈ news, q ∈ news') : HeldOk w news' av hv x us := by
  rcases h.ex with h | ⟨h0, HD, o, IH, c, h1, h2, h3, h4, h5⟩
  · exact ⟨.inl h⟩
  · exact ⟨.inr ⟨h0, HD, o, IH, c, h1, s _ h2, h3, h4, s _ h5⟩⟩
noncomputable def HeldP (w : World) (h₀ : Heap) (L : Addr) (m : Str → Option Value) (s : Shared) (base : List (Addr × Obj)) (y : Str) (av : Value) (x : Str) (us : List Value) (s' : Shared) : Prop :=
  ∃ hv add h' tk', s' = { s with heap := h', toks := tk' } ∧ Fr h₀ L h' (fun z => if z = y then some hv else m z) ∧ News h₀ L h' (add ++ base) ∧ Apart add base ∧ HeldOk w add av hv x us
theorem cut_held {M : Model} {A : Around} {E : Value → Shared → Prop} {s : Shared} {st : Stmt} {rest : List Stmt} {env : Env} {Q : Flow → Shared → Prop} {w : World} {h₀ : Heap} {L : Addr} {m : Str → Option Value} {base nw : List (Addr × Obj)} {av : Value} {x : Str} {W : Addr} {us : List Value} (y : Str) (_d : DressOk w nw av x W us)
    (_F : Fr h₀ L s.heap m) (_N : News h₀ L s.heap base)
    (h1 : wpAny M A (exec st env) (fun f s' => f = .next ∧ HeldP w h₀ L m s base y av x us s') E s)
    (h2 : ∀ hv add h' tk', Fr h₀ L h' (fun z => if z = y then some hv else m z) → News h₀ L h' (add ++ base) → Apart add base → HeldOk w add av hv x us → wpAny M A (execs rest env) Q E { s with heap := h', toks := tk' }) :
    wpAny M A (execs (st :: rest) env) Q E s :=
  cut_st h1 fun s' ⟨hv, add, h', tk', e, F, N, a, d⟩ => by subst e; exact h2 hv add h' tk' F N a d
section
variable {w : World} {h₀ h' : Heap} {L : Addr} {m : Str → Option Value} {s : Shared} {base : List (Addr × Obj)} {tk' : Nat} {y x : Str} {av : Value} {us : List Value}
theorem held_none (F : Fr h₀ L h' (fun z => if z = y then some .none else m z)) (N : News h₀ L h' base) : HeldP w h₀ L m s base y .none x us { s with heap := h', toks := tk' } :=
  ⟨.none, [], h', tk', rfl, F, N, Apart.nil, ⟨.inl ⟨rfl, rfl⟩⟩⟩
theorem held_some {AD HD IH : Addr} {o : Obj} {c : Nat} (pre : List (Addr × Obj)) (F : Fr h₀ L h' (fun z => if z = y then some (.ref HD) else m z)) (N : News h₀ L h' (pre ++ base)) (ap : Apart pre base)
    (hm : (HD, o) ∈ pre) (hd : o.IsDictOf (PySem.strKind prg w) [(x, .ref IH)]) (lo : (HD == sysModules) = false) (h3 : (IH, listOf us.toArray c) ∈ pre) : HeldP w h₀ L m s base y (.ref AD) x us { s with heap := h', toks := tk' } :=
  ⟨.ref HD, pre, h', tk', rfl, F, N, ap, ⟨.inr ⟨⟨AD, rfl⟩, HD, o, IH, c, rfl, hm, hd, lo, h3⟩⟩⟩
end


/-- the tree calls nothing and leaves every object's dict as it is -/
noncomputable def Tame {α : Type} : Sem α → Prop
  | .rule _ k => ∀ u, Tame (k u)
  | .at _ k => ∀ u, Tame (k u)
  | .load _ _ k => ∀ o, Tame (k o)
  | .update _ _ f k => (∀ o, (f o).dict = o.dict ∧ (f o).cls = o.cls ∧ (o.isFreed = false → (f o).isFreed = false)) ∧ ∀ u, Tame (k u)
  | .alloc _ k => ∀ a, Tame (k a)
  | .loadIfAlive _ k => ∀ o, Tame (k o)
  | .point _ k => ∀ u, Tame (k u)
  | .fresh k => ∀ u, Tame (k u)
  | .ask k => ∀ u, Tame (k u)
  | .handled _ k => ∀ u, Tame (k u)
  | .stack k => ∀ u, Tame (k u)
  | .pure _ => True
  | .raise _ => True
  | .unsupported _ => True
  | .finish _ => True
  | .register _ _ => True
  | _ => False
/-- every object is still there, with its dict -/
noncomputable def DictsKept (h h' : Heap) : Prop := ∀ b o, h.get? b = some o → ∃ o', h'.get? b = some o' ∧ o'.dict = o.dict ∧ o'.cls = o.cls
theorem DictsKept.refl (h : Heap) : DictsKept h h := fun _ o e => ⟨o, e, rfl, rfl⟩
theorem DictsKept.trans {a b c : Heap} (x : DictsKept a b) (y : DictsKept b c) : DictsKept a c := fun b o e =>
  let ⟨o₁, e₁, d₁, c₁⟩ := x b o e
  let ⟨o₂, e₂, d₂, c₂⟩ := y b o₁ e₁
  ⟨o₂, e₂, d₂.trans d₁, c₂.trans c₁⟩
theorem DictsKept.push {h : Heap} (o : Obj) : DictsKept h (h.push o) := fun _ o' e => ⟨o', Heap.get?_push_of_some _ e, rfl, rfl⟩
theorem DictsKept.of_keeps {h h' : Heap} (k : ∀ b o, h.get? b = some o → h'.get? b = some o) : DictsKept h h' := fun b o e => ⟨o, k b o e, rfl, rfl⟩
theorem DictsKept.upd {h : Heap} {a : Addr} {f : Obj → Obj} (hf : ∀ o, (f o).dict = o.dict ∧ (f o).cls = o.cls ∧ (o.isFreed = false → (f o).isFreed = false)) : DictsKept h (h.update a f) := fun b o e => by
  by_cases q : a = b
  · subst q
    exact ⟨f o, Heap.get?_update_self f e ((hf o).2.2 (Heap.get?_some_iff.mp e).2), (hf o).1, (hf o).2.1⟩
  · exact ⟨o, by rw [Heap.get?_update_other _ _ q]; exact e, rfl, rfl⟩
theorem wp_tame {α : Type} {M : Model} {Γ : Ctx} {t : Sem α} {Q : α → Pos → Shared → Prop} {E : Value → Pos → Shared → Prop} {h₀ : Heap} (T : Tame t) :
    ∀ {p : Pos} {s : Shared}, DictsKept h₀ s.heap → Sem.wp M Γ t Q E p s → Sem.wp M Γ t (fun a p' s' => Q a p' s' ∧ DictsKept h₀ s'.heap) (fun e p' s' => E e p' s' ∧ DictsKept h₀ s'.heap) p s := by
  induction t with
  | pure a => intro p s k h; rw [Sem.wp] at h ⊢; exact ⟨h, k⟩
  | raise e => intro p s k h; rw [Sem.wp] at h ⊢; exact ⟨h, k⟩
  | rule _ k ih => intro p s kp h; rw [Sem.wp] at h ⊢; exact ih _ (T _) kp h
  | «at» _ k ih => intro p s kp h; rw [Sem.wp] at h ⊢; exact ih _ (T _) kp h
  | load a _ k ih => intro p s kp h; rw [Sem.wp] at h ⊢; obtain ⟨o, ho, h⟩ := h; exact ⟨o, ho, ih _ (T _) kp h⟩
  | update a _ f k ih => intro p s kp h; rw [Sem.wp] at h ⊢; obtain ⟨o, h⟩ := h; exact ⟨o, ih _ (T.2 _) (kp.trans (DictsKept.upd T.1)) h⟩
  | alloc o k ih => intro p s kp h; rw [Sem.wp] at h ⊢; exact ih _ (T _) (kp.trans (DictsKept.push _)) h
  | loadIfAlive a k ih => intro p s kp h; rw [Sem.wp] at h ⊢; exact ih _ (T _) kp h
  | point _ k ih => intro p s kp h; rw [Sem.wp] at h ⊢; exact ih _ (T _) kp h
  | fresh k ih => intro p s kp h; rw [Sem.wp] at h ⊢; exact ih _ (T _) kp h
  | ask k ih => intro p s kp h; rw [Sem.wp] at h ⊢; exact ih _ (T _) kp h
  | handled _ k ih => intro p s kp h; rw [Sem.wp] at h ⊢; exact ih _ (T _) kp h
  | stack k ih => intro p s kp h; rw [Sem.wp] at h ⊢; exact ih _ (T _) kp h
  | unsupported _ => intro p s kp h; rw [Sem.wp] at h; exact h.elim
  | finish _ => intro p s kp h; rw [Sem.wp] at h; exact h.elim
  | register _ _ _ => intro p s kp h; rw [Sem.wp] at h; exact h.elim
  | _ => exact T.elim
theorem wpAny_tame {α : Type} {M : Model} {A : Around} {t : Sem α} {Q : α → Shared → Prop} {E : Value → Shared → Prop} {s : Shared} (T : Tame t) (h : wpAny M A t Q E s) :
    wpAny M A t (fun a s' => Q a s' ∧ DictsKept s.heap s'.heap) (fun e s' => E e s' ∧ DictsKept s.heap s'.heap) s :=
  fun Γ p hΓ => wp_tame T (DictsKept.refl _) (h Γ p hΓ)
theorem Tame.bind {α β : Type} {t : Sem α} {f : α → Sem β} (T : Tame t) (U : ∀ a, Tame (f a)) : Tame (t >>= f) := by
  show Tame (Sem.bind t f)
  induction t with
  | pure a => exact U a
  | raise e => exact trivial
  | unsupported _ => exact trivial
  | finish _ => exact trivial
  | register _ _ _ => exact trivial
  | update a _ f k ih => exact ⟨T.1, fun u => ih u (T.2 u)⟩
  | rule _ k ih => exact fun u => ih u (T u)
  | «at» _ k ih => exact fun u => ih u (T u)
  | load a _ k ih => exact fun u => ih u (T u)
  | alloc o k ih => exact fun u => ih u (T u)
  | loadIfAlive a k ih => exact fun u => ih u (T u)
  | point _ k ih => exact fun u => ih u (T u)
  | fresh k ih => exact fun u => ih u (T u)
  | ask k ih => exact fun u => ih u (T u)
  | handled _ k ih => exact fun u => ih u (T u)
  | stack k ih => exact fun u => ih u (T u)
  | _ => exact T.elim
theorem tame_pure {α : Type} {a : α} : Tame (pure a : Sem α) := trivial
theorem tame_unsup {α : Type} {w : String} : Tame (unsupported w : Sem α) := trivial
theorem tame_mapFields (g : Array Value → Array Value) (o : Obj) : (Obj.mapFields g o).dict = o.dict ∧ (Obj.mapFields g o).cls = o.cls ∧ (o.isFreed = false → (Obj.mapFields g o).isFreed = false) := by
  obtain ⟨c, d, dt, sl⟩ := o
  cases dt <;> exact ⟨rfl, rfl, fun h => h⟩
theorem tame_slots (g : Obj → Array (Option Value)) (o : Obj) : ({ o with slots := g o } : Obj).dict = o.dict ∧ ({ o with slots := g o } : Obj).cls = o.cls ∧ (o.isFreed = false → ({ o with slots := g o } : Obj).isFreed = false) := by
  obtain ⟨c, d, dt, sl⟩ := o
  cases dt <;> exact ⟨rfl, rfl, fun h => h⟩
theorem tame_load (a : Addr) : Tame (load a) := fun _ => trivial
theorem tame_stack : Tame stack := fun _ => trivial
theorem tame_fieldsOf (v : Value) : Tame (fieldsOf v) := by
  unfold fieldsOf
  cases v <;> try exact trivial
  refine Tame.bind (tame_load _) fun o => ?_
  split <;> exact trivial
theorem tame_field (v : Value) (i : Nat) : Tame (field v i) := by
  unfold field
  refine Tame.bind (tame_fieldsOf _) fun vs => ?_
  split <;> exact trivial
theorem tame_updateField (a : Addr) (i : Nat) (x : Value) : Tame (updateField a i x) := by
  unfold updateField
  refine Tame.bind (tame_load _) fun o => ?_
  split
  · split
    · exact ⟨tame_mapFields _, fun _ => trivial⟩
    · exact trivial
  · exact trivial
theorem tame_setField (v : Value) (i : Nat) (x : Value) : Tame (setField v i x) := by
  unfold setField
  cases v <;> try exact trivial
  exact tame_updateField _ _ _
theorem tame_setFlight (e : Value) (f : Option Addr) : Tame (setFlight e f) := by
  unfold setFlight
  refine Tame.bind (tame_field _ _) fun tb => ?_
  split
  · exact tame_setField _ _ _
  · exact trivial
theorem tame_frameEnvs : Tame frameEnvs := Tame.bind tame_stack fun _ => trivial
theorem tame_under : Tame underTheClaimsCaller := Tame.bind tame_stack fun _ => trivial
theorem tame_keptBack (env : Env) (b : Bool) (l : List Env) : Tame (keptBack env b l) := by
  unfold keptBack
  cases l with
  | nil => dsimp only; split; exact trivial; exact Tame.bind tame_under fun _ => trivial
  | cons c r => exact trivial
theorem tame_behind (env : Env) (l : List Env) : Tame (behindIsImport env l) := by
  unfold behindIsImport
  split
  · exact trivial
  · split
    · exact trivial
    · exact Tame.bind (tame_field _ _) fun _ => trivial
theorem tame_ready : ∀ l : List Env, Tame (readyFrames l) := by
  intro l
  induction l with
  | nil => exact trivial
  | cons env outer ih =>
    unfold readyFrames
    split
    · refine Tame.bind (tame_load _) fun o => ?_
      split
      · exact trivial
      · refine Tame.bind (tame_behind _ _) fun b => Tame.bind (tame_keptBack _ _ _) fun k => Tame.bind ?_ fun _ => ih
        exact ⟨tame_slots _, fun _ => trivial⟩
    · exact trivial
theorem tame_frameOf (env : Env) : Tame (PySem.frameOf env) := by
  unfold PySem.frameOf
  refine Tame.bind tame_frameEnvs fun l => Tame.bind ?_ fun x => ?_
  · generalize List.dropWhile _ l = l'
    cases l' with
    | nil => exact trivial
    | cons env outer => exact Tame.bind (tame_ready _) fun _ => trivial
  · split <;> exact trivial
theorem tame_place (f : Addr) (b : Bool) : Tame (entryPlaceOf f b) := by
  unfold entryPlaceOf
  refine Tame.bind tame_stack fun l => ?_
  split <;> exact trivial
theorem tame_newFields (ty : String) (vs : List Value) : Tame (newFields ty vs) := by
  unfold newFields newObj
  dsimp only
  split
  · exact trivial
  · exact fun _ => trivial
theorem tame_note (e : Value) (env : Env) : Tame (noteFrame e env) := by
  unfold noteFrame
  split
  · refine Tame.bind (tame_field _ _) fun head => ?_
    split
    · refine Tame.bind (tame_field _ _) fun x => ?_
      split
      · exact trivial
      · exact Tame.bind (tame_setField _ _ _) fun _ => Tame.bind (tame_frameOf _) fun _ => Tame.bind (tame_place _ _) fun _ => Tame.bind (tame_newFields _ _) fun _ => tame_setField _ _ _
    · exact Tame.bind (tame_frameOf _) fun _ => Tame.bind (tame_place _ _) fun _ => Tame.bind (tame_newFields _ _) fun _ => tame_setField _ _ _
  · exact trivial
theorem tame_leaving (env : Env) (e : Value) : Tame (leaving env e) := Tame.bind (tame_note _ _) fun _ => tame_setFlight _ _


/-- raised and under way, with its own dict -/
structure RaisedD (base : Heap) (l : List Env) (e : Addr) (cls : Value) (t : Addr) (vs : List Value) (news : List (Addr × Obj)) (D : Addr) (h : Heap) : Prop where
  raised : RaisedK base l e cls t vs news h
  own : ∃ oe, h.get? e = some oe ∧ oe.dict = some D
/-- the exception's object as it is made -/
noncomputable abbrev excO (cls : Value) (t D : Addr) : Obj := { cls := cls, dict := some D, data := .fields #[.ref t, .none, .none, .none, .bool false, .none] }
section
variable {M : Model} {A : Around} {E : Value → Shared → Prop} {s' : Shared} {base g g₂ : Heap} {outer : List Env} {L e t D : Addr} {m : Str → Option Value} {env : Env} {Q : Unit → Shared → Prop} {news : List (Addr × Obj)} {cls : Value} {vs : List Value} {n : Nat}
theorem leave_firstD (K : Below A base outer g) (F : Fr g L s'.heap m) (N : News g L s'.heap ((e, excO cls t D) :: (t, { cls := .type "tuple", data := .seq vs.toArray n }) :: news)) (hne : ∀ q ∈ news, q.1 ≠ e ∧ q.1 ≠ t) (het : e ≠ t)
    (hf : env.frame = some L) (hk : env.scope.kind = .function)
    (hQ : ∀ h', RaisedD base outer e cls t vs news D h' → g.UpToSlots h' → Q () { s' with heap := h' }) :
    wpAny M (A.deeper env) (leaving env (.ref e)) Q E s' := by
  have K' := pushX K F hf hk
  have he := N (e, _) (.head _)
  have ht := N (t, _) (.tail _ (.head _))
  have inF : ∀ b ∈ (env :: outer).filterMap (·.frame), base.get? b = none ∧ (g.get? b = none → b = L) := fun b hb => by
    refine ⟨(K'.frames.mem hb).1, fun hg => ?_⟩
    obtain ⟨env', he', hf'⟩ := List.mem_filterMap.mp hb
    rcases List.mem_cons.mp he' with rfl | he'
    · rw [hf] at hf'; exact (Option.some.inj hf').symm
    · obtain ⟨o, ho, _⟩ := (K.frames.mem (List.mem_filterMap.mpr ⟨env', he', hf'⟩)).2
      rw [hg] at ho; cases ho
  generalize hfs : (env :: outer).filterMap (·.frame) ++ [e, t] = fs
  have sub : ∀ b ∈ fs, base.get? b = none := fun b hb => by
    rw [← hfs] at hb
    rcases List.mem_append.mp hb with hb | hb
    · exact (inF b hb).1
    · simp only [List.mem_cons, List.not_mem_nil, or_false] at hb
      rcases hb with rfl | rfl
      · exact fresh_of_stays K.stays he.2.2
      · exact fresh_of_stays K.stays ht.2.2
  have st : base.StaysIn (hideAll s'.heap fs) := fun b o q => hideAll_get _ (K'.stays b o q) fun hm => by
    rw [sub b hm] at q; cases q
  have hl : ∀ q ∈ news, (hideAll s'.heap fs).get? q.1 = some q.2 ∧ base.get? q.1 = none := fun q hq => by
    have z := N q (.tail _ (.tail _ hq))
    refine ⟨hideAll_get _ z.1 fun hm => ?_, fresh_of_stays K.stays z.2.2⟩
    rw [← hfs] at hm
    rcases List.mem_append.mp hm with hm | hm
    · exact z.2.1 ((inF _ hm).2 z.2.2)
    · simp only [List.mem_cons, List.not_mem_nil, or_false] at hm
      rcases hm with hm | hm
      · exact (hne q hq).1 hm
      · exact (hne q hq).2 hm
  have hin : ∀ env' ∈ (env :: outer), ∀ b, env'.frame = some b → b ∈ fs := fun env' he' b hb => by
    rw [← hfs]; exact List.mem_append_left _ (List.mem_filterMap.mpr ⟨env', he', hb⟩)
  have ee : e ∈ fs := by rw [← hfs]; exact List.mem_append_right _ (.head _)
  have te : t ∈ fs := by rw [← hfs]; exact List.mem_append_right _ (.tail _ (.head _))
  refine wpAny_mono (wpAny_tame (tame_leaving _ _) (wpAny_leaving_firstW (base := hideAll s'.heap fs) (a0 := .ref t) (Q := fun _ s₂ => ∃ h', s₂ = { s' with heap := h' } ∧ Heap.LeftW (hideAll s'.heap fs) (env :: outer) e cls (.ref t) s'.heap h') (E := E) (Around.frames_deeper K.stack) (funFrames_hide K'.frames hin) hf he.1 (fun b o q => of_hideAll _ q) (hideAll_none _ ee) rfl rfl rfl fun h' hL => ⟨h', rfl, hL⟩)) (fun _ s₂ z => ?_) fun _ _ z => z.1
  obtain ⟨⟨h', rfl, k1, ⟨_, _, k2⟩, k3, k4⟩, kd⟩ := z
  obtain ⟨oe, hoe, hod, -⟩ := kd e _ he.1
  obtain ⟨sl, hsl⟩ := k4 t _ ht.1 (fun vs q => by cases q)
  exact hQ h' ⟨⟨⟨_, st, hl, ⟨k1, hideAll_none _ ee, k2, k3⟩, hideAll_none _ te⟩, ⟨_, n, hsl, rfl, rfl⟩⟩, ⟨oe, hoe, hod⟩⟩ ((Heap.UpToSlots.of_keeps F.keep).trans k4)
theorem leave_onD (K : Below A base outer g) (F : Fr g L g₂ m) (R : RaisedD base (env :: outer) e cls t vs news D s'.heap) (hsm : g₂.UpToSlots s'.heap) (hf : env.frame = some L)
    (hQ : ∀ h', RaisedD base outer e cls t vs news D h' → g.UpToSlots h' → Q () { s' with heap := h' }) :
    wpAny M (A.deeper env) (leaving env (.ref e)) Q E s' := by
  obtain ⟨⟨⟨B, hB, hl, hfl, hnew⟩, htup⟩, ⟨oe, hoe, hod⟩⟩ := R
  refine wpAny_mono (wpAny_tame (tame_leaving _ _) (wpAny_leaves_onW (E := E) (Q := fun _ s₂ => ∃ h', s₂ = { s' with heap := h' } ∧ Heap.FlyingW B outer e cls (.ref t) h' ∧ s'.heap.UpToSlots h') (Around.frames_deeper K.stack) hf hfl fun h' x1 x2 => ⟨h', rfl, x1, x2⟩)) (fun _ s₂ z => ?_) fun _ _ z => z.1
  obtain ⟨⟨h', rfl, x1, x2⟩, kd⟩ := z
  obtain ⟨oe', hoe', hod', -⟩ := kd e _ hoe
  exact hQ h' ⟨⟨⟨B, hB, hl, x1, hnew⟩, htup.of_slots x2⟩, ⟨oe', hoe', hod'.trans hod⟩⟩ ((Heap.UpToSlots.of_keeps F.keep).trans (hsm.trans x2))
end


/-- an exception as its __new__ leaves it -/
noncomputable abbrev excN (cls : Value) (t : Addr) : Obj := { cls := cls, data := .fields #[.ref t, .none, .none, .none, .bool false, .none] }
section
variable {prog : Program} {w : World} {A : Around} {K : Frag} {C : Addr} {s : Shared} {h₀ : Heap} {L : Addr} {m : Str → Option Value} {news : List (Addr × Obj)} {E : Value → Shared → Prop} {Q : Value → Shared → Prop}
variable {nm q : Str} {N : Addr} {bs bm bmB : List Value} {hdct : Bool} {sn : List Str} {sub : List Value} {ab : Bool} {col : Option Bool} {dd : Option Addr} {k0 k1 k2 k3 k5 : Option Value} {B newId initId : String}
theorem make_exc {rest : List Value} {fI : Addr} (Fn : ExcBaseFacts B newId initId bmB) (hBn : bmB.contains (.type B) = true) (T : OwnTail s.heap bmB bm) (hC : s.heap.get? C = some (excClassObj nm q C N bs bm hdct sn sub ab col dd k0 k1 k2 k3 k5 newId))
    (F : Fr h₀ L s.heap m) (Nw : News h₀ L s.heap news) (X : K.In s.heap) (hi : findIn K (.ref C) "__init__" = some (some (.ref fI))) (hf : typeIn K (.ref fI) = some (.type "function")) (hrest : rest.length ≤ sizeLine)
    (h : ∀ e t h', Fr h₀ L h' m → News h₀ L h' ((e, excN (.ref C) t) :: (t, { cls := .type "tuple", data := .seq rest.toArray 0 }) :: news) → (∀ p ∈ news, p.1 < t) → t < e →
      codeAny (model prog w) (A.under (.builtin "type.__call__" ⟨.ref C :: rest, []⟩)) (.call (.ref fI) ⟨.ref e :: rest, []⟩) (InitBack e fun r s' => match r with | .ok (.ret v) => Q v s' | .ok _ => False | .error e => E e s') { s with heap := h' }) :
    wpAny (model prog w) A (call (.ref C) rest) Q E s := by
  obtain ⟨hh, g, d, t, os⟩ := s
  have f1 := tc_lookup
  have f2 := tc_bind (.ref C)
  have hT : (⟨hh, g, d, t, os⟩ : Shared).TypeIs (.ref C) "type" := ⟨_, hC, rfl⟩
  refine wpAny_call (codeAny_of_tree ?_)
  show wpAny _ _ (callAny (.ref C) _) _ _ _
  repeat (any_goals (first | assumption | with_reducible refine wpAny_loadPart_at hC ?_ | wp_step))
  refine ⟨rfl, ?_⟩
  refine codeAny_call_builtin_at (Code.quiet_builtin _ (by decide +kernel)) entry_typeCall (wpAny_check_type_call_sub hC ?_)
  repeat (first | with_reducible refine wpAny_loadPart_at hC ?_ | with_reducible refine wpAny_madeBy_exc hC ?_ | wp_step)
  refine codeAny_call_builtin_code (Code.quiet_builtin _ Fn.quiet) (wpAny_check_new_subU Fn hBn T hC ?_)
  refine codeAny_exc_new_subU Fn hBn Fn T hC ?_ hrest
  show wpAny _ _ _ _ _ _
  have k2 : ∀ b o, hh.get? b = some o → ((hh.push { cls := .type "tuple", data := .seq rest.toArray }).push (excN (.ref C) hh.objs.size)).get? b = some o := fun b o e => Heap.get?_push_of_some _ (Heap.get?_push_of_some _ e)
  have hC₁ := k2 _ _ hC
  have hget : ((hh.push { cls := .type "tuple", data := .seq rest.toArray }).push (excN (.ref C) hh.objs.size)).get? (hh.objs.size + 1) = some (excN (.ref C) hh.objs.size) := by heap_get
  have hcC : (Value.ref C :: bm).contains (.ref C) = true := by simp
  unfold isInstance
  repeat (first | with_reducible refine wpAny_loadPart_at hget ?_ | (with_reducible refine wpAny_isSubtype_exc hC₁ ?_; rw [hcC]) | wp_step)
  show wpAny _ _ (isSubtype (.ref C) (.ref C)) _ _ _
  refine wpAny_isSubtype_exc hC₁ ?_
  rw [hcC]
  repeat (first | with_reducible refine wpAny_loadPart_at hget ?_ | wp_step)
  show wpAny _ _ (typeLookup (.ref C) _) _ _ _
  refine (looks_findIn (X.keeps k2) hi).here ?_
  refine wpAny_holding (wpAny_bind ((bind_fn (X.keeps k2) _ hf).here ?_))
  have NN := (Nw.push F { cls := .type "tuple", data := .seq rest.toArray }).push (F.push _) (excN (.ref C) hh.objs.size)
  rw [Heap.size_push] at NN
  refine wpAny_bind (wpAny_call (codeAny_mono (h (hh.objs.size + 1) hh.objs.size _ ((F.push _).push _) NN (fun p hp => Heap.lt_size (Nw p hp).1) (Nat.lt_succ_self _)) fun r s' z => ?_))
  rcases r with e | (v | _ | _ | _) <;> first | exact z | exact z.elim | skip
  obtain ⟨rfl, z⟩ := z
  exact wpAny_pure (wpAny_pure z)
end


section
open PySem Builtin Builtin.ObjectAttr
variable {prog : Program} {w : World} {A : Around} {K : Frag} {C x : Addr} {s : Shared} {h₀ : Heap} {L : Addr} {m : Str → Option Value} {news : List (Addr × Obj)} {R : Result → Shared → Prop}
/-- the class stands over Exception -/
noncomputable def overExc (K : Frag) (C : Addr) : Bool := (clsIn K C).any fun cd => cd.hasDict && cd.mro == [.ref C, .ref 38, .type "Exception", .type "BaseException", .type "object"]
theorem exc_passes (self : Value) : refuseLoop self "__setattr__" [.type "Exception", .type "BaseException", .type "object"] = pure () := by kernel_rfl
theorem osa_new {ox : Obj} {name : Str} {tk : Tok} {v : Value} (F : Fr h₀ L s.heap m) (N : News h₀ L s.heap ((x, ox) :: news)) (hx : ∀ p ∈ news, p.1 ≠ x) (X : K.In s.heap)
    (hc : ox.cls = .ref C) (hdn : ox.dict = none) (hda : ∃ vs, ox.data = .fields vs) (hp : overExc K C = true) (ht : takerIn K C name = some none)
    (h : ∀ D h', Fr h₀ L h' m → News h₀ L h' ((x, { ox with dict := some D }) :: (D, dictOf [⟨PyData.keyHash w.params name, .str name s.toks, v⟩] 1) :: news) → (∀ p ∈ (x, ox) :: news, p.1 < D) → R (.ok (.ret .none)) { s with heap := h', toks := s.toks + 1 }) :
    codeAny (model prog w) A (.call (.builtin "object.__setattr__") ⟨[.ref x, .str name tk, v], []⟩) R s := by
  have SF := PySem.F.store_object
  obtain ⟨cd, hcd, ho⟩ := any_some hp
  rw [Bool.and_eq_true, beq_iff_eq] at ho
  obtain ⟨hhd, hmro⟩ := ho
  have I : InstAt s.heap x ox C none := ⟨(N _ (.head _)).1, hc, by obtain ⟨vs, e⟩ := hda; unfold notCls; rw [e], by rw [hdn]; trivial⟩
  have ne : cd.mro.isEmpty = false := by rw [hmro]; rfl
  have sub : Looks (model prog w) s.heap (isInstance (.ref x) (.type "object")) true := I.type.andThen (looks_mroIn X (by unfold mroIn; rw [hcd, Option.bind_some, if_neg (by rw [ne]; decide), hmro]; rfl))
  refine codeAny_call_builtin SF.slot.plain SF.entry (@check_slot (model prog w) _ _ s "object.__setattr__" "object" "__setattr__" (.ref x) [.str name tk, v] [] _ SF.kind SF.split sub (SF.args (.ref x) (.str name tk) v) ?_)
  obtain ⟨attr, ha, hr⟩ := Option.bind_eq_some_iff.mp ht
  have hm : Looks (model prog w) s.heap (mroOf (.ref C)) cd.mro := (looks_clsIn X hcd).andThen .now
  have L3 : Looks (model prog w) s.heap (storeTaker? attr) none := by
    cases attr with
    | none => exact .now
    | some a =>
      obtain ⟨b, hb, hb'⟩ := Option.map_eq_some_iff.mp hr
      refine (looks_takesIn X hb).andThen ?_
      cases b
      · exact .now
      · cases hb'
  rw [osa_eq, refuse_eq]
  refine wpAny_bind (wpAny_bind (I.type.here (wpAny_bind (hm.here ?_))))
  rw [hmro, refuseLoop_ref, refuseLoop_ref, exc_passes]
  refine wpAny_pure (wpAny_bind (I.type.here (wpAny_bind ((looks_findIn X ha).here (wpAny_bind (L3.here ?_))))))
  show wpAny _ _ (storeInOwnDict (.ref x) (.ref C) (.str name tk) name v attr.isSome) _ _ _
  obtain ⟨oc, odi, oda, osl⟩ := ox
  dsimp only at hc hdn hda
  subst hc hdn
  obtain ⟨vs, rfl⟩ := hda
  unfold storeInOwnDict
  refine wpAny_bind (wpAny_pure ?_)
  show wpAny _ _ (ownDictForStores (.ref x) >>= _) _ _ _
  have hxo := (N _ (.head _)).1
  have Np := News.push F N emptyDict
  have lt : ∀ p ∈ (x, (⟨.ref C, none, .fields vs, osl⟩ : Obj)) :: news, @LT.lt Nat _ p.1 s.heap.objs.size := fun p hp => Heap.lt_size (N p hp).1
  have hxD : x ≠ s.heap.objs.size := Nat.ne_of_lt (lt _ (.head _))
  obtain ⟨U1, U2⟩ := news_upd (pre := [(s.heap.objs.size, emptyDict)]) (post := news) (d := x) (f := fun o => { o with dict := some s.heap.objs.size }) (o' := ⟨.ref C, some s.heap.objs.size, .fields vs, osl⟩) (F.push emptyDict) Np
    (fun p hp => by rw [List.mem_singleton.mp hp]; exact Ne.symm hxD) hx rfl rfl
  obtain ⟨V1, V2⟩ := news_upd (pre := []) (d := s.heap.objs.size) (f := Obj.putName name (PyData.keyHash w.params name) (.str name s.toks) v) (o' := dictOf [⟨PyData.keyHash w.params name, .str name s.toks, v⟩] 1) U1 U2
    (fun p hp => nomatch hp) (fun p hp => by
      rcases List.mem_cons.mp hp with e | hp
      · rw [e]; exact hxD
      · exact Nat.ne_of_lt (lt p (.tail _ hp))) rfl rfl
  unfold ownDictForStores instanceDict
  refine wpAny_bind (wpAny_bind (wpAny_loadPart hxo (wpAny_bind ((looks_clsIn X hcd).here ?_))))
  rw [hhd]
  refine wpAny_bind (wpAny_alloc (wpAny_bind ?_))
  unfold update
  refine wpAny_updatePart (Heap.get?_push_of_some _ hxo) ?_
  refine wpAny_pure (a := some s.heap.objs.size) ?_
  show wpAny _ _ (storeInDict _ _ _ _) _ _ _
  unfold storeInDict
  refine wpAny_bind (wpAny_pure (wpAny_bind ?_))
  unfold nsSet
  have D := (U2 _ (.head _)).1
  have D' := (V2 _ (.head _)).1
  refine wpAny_bind (wpAny_bind (wpAny_askSetting (wpAny_pure (wpAny_bind (wpAny_mkText (wpAny_bind (wpAny_loadPart D ?_)))))))
  show wpAny _ _ (if aRefKeyMayBeTheName name #[] then _ else _) _ _ _
  have c0 : (!(#[] : Array DictEntry).any (·.key.isStr name) && (#[] : Array DictEntry).any (·.refKey)) = false := by simp
  rw [aRefKeyMayBeTheName_at, c0]
  refine wpAny_updatePart D ?_
  refine wpAny_bind (wpAny_lookBehind D' (pastItsLine_dict (by show 1 ≤ sizeLine + 1; omega)) ?_)
  refine wpAny_pure (h _ _ V1 (fun p hp => V2 p ?_) lt)
  rcases List.mem_cons.mp hp with e | hp
  · rw [e]; exact .tail _ (.head _)
  · rcases List.mem_cons.mp hp with e | hp
    · rw [e]; exact .head _
    · exact .tail _ (.tail _ hp)
theorem set_exc {ox : Obj} {name : Str} {v : Value} {E : Value → Shared → Prop} {Q : Unit → Shared → Prop} (F : Fr h₀ L s.heap m) (N : News h₀ L s.heap ((x, ox) :: news)) (hx : ∀ p ∈ news, p.1 ≠ x) (X : K.In h₀)
    (hc : ox.cls = .ref C) (hdn : ox.dict = none) (hda : ∃ vs, ox.data = .fields vs) (hp : overExc K C = true) (ht : takerIn K C name = some none) (hs : findIn K (.ref C) "__setattr__" = some (some (.builtin "object.__setattr__")))
    (h : ∀ D h', Fr h₀ L h' m → News h₀ L h' ((x, { ox with dict := some D }) :: (D, dictOf [⟨PyData.keyHash w.params name, .str name (s.toks + 1), v⟩] 1) :: news) → (∀ p ∈ (x, ox) :: news, p.1 < D) → Q () { s with heap := h', toks := s.toks + 1 + 1 }) :
    wpAny (model prog w) A (setAttr (.ref x) name v) Q E s := by
  have I : InstAt s.heap x ox C none := ⟨(N _ (.head _)).1, hc, by obtain ⟨vs, e⟩ := hda; unfold notCls; rw [e], by rw [hdn]; trivial⟩
  exact set_plain (X.keeps F.keep) I hs (osa_new (s := { s with toks := s.toks + 1 }) F N hx (X.keeps F.keep) hc hdn hda hp ht h)
end


/-- the object is no pair of ints -/
noncomputable def NoTup (o : Obj) : Prop := ∀ n d t u c, o ≠ tupo n d t u c
theorem notup_cell {o : Obj} {x : Option Value} (h : o.data = .cell x) : NoTup o := fun n d t u c e => by rw [e] at h; cases h
theorem notup_chain {o : Obj} (h : ChainIs o) : NoTup o := fun n d t u c e => by
  obtain ⟨vs, k, ns, rfl, -⟩ := h.ex
  have : (listOf vs.toArray k).cls = (tupo n d t u c).cls := by rw [e]
  simp [PySem.W.listOf] at this
theorem ents_off {add stuff : List (Addr × Obj)} {c0 c1 c2 c3 c4 c5 : Addr × Obj} {es : List Ent} (n0 : NoTup c0.2) (n1 : NoTup c1.2) (n2 : NoTup c2.2) (n3 : NoTup c3.2) (n4 : NoTup c4.2) (n5 : NoTup c5.2) :
    ∀ {vs : List Value}, DatAll (add ++ c0 :: c1 :: c2 :: c3 :: c4 :: c5 :: stuff) vs (es.map Ent.dat) → DatAll (add ++ stuff) vs (es.map Ent.dat) := by
  induction es with
  | nil => intro vs h; cases h; exact .nil
  | cons e es ih =>
    intro vs h
    cases h with
    | cons hd r =>
      refine .cons ?_ (ih r)
      cases e with
      | na => rw [ent_na hd]; exact .none
      | whole i => obtain ⟨t, rfl⟩ := ent_whole hd; exact .int i t
      | frac n d =>
        obtain ⟨x, t, u, c, rfl, hx⟩ := ent_frac hd
        refine ent_of_frac (t := t) (u := u) (c := c) ?_
        simp only [List.mem_append, List.mem_cons] at hx ⊢
        rcases hx with hx | hx | hx | hx | hx | hx | hx | hx
        · exact .inl hx
        · exact absurd (by rw [← hx]) (n0 n d t u c)
        · exact absurd (by rw [← hx]) (n1 n d t u c)
        · exact absurd (by rw [← hx]) (n2 n d t u c)
        · exact absurd (by rw [← hx]) (n3 n d t u c)
        · exact absurd (by rw [← hx]) (n4 n d t u c)
        · exact absurd (by rw [← hx]) (n5 n d t u c)
        · exact .inr hx
theorem ln_37 : True := by
  k_with "x m notup" => (first | exact notup_cell (by assumption) | exact notup_chain (by assumption))
  trivial
theorem ents_of {K : Str} {es : List Ent} (hK : K = Str.ofString "logical" ∨ K = Str.ofString "integer" ∨ K = Str.ofString "double") (h : ∀ e ∈ es, KindOk K e ∧ e.Ok) (hl : es.length ≤ 8) : EntsOk K es := by
  refine ⟨hK, fun e he => (h e he).2, ?_, hl⟩
  by_cases q : K = Str.ofString "double"
  · exact .inl ⟨q, fun e he => by have := (h e he).1; simpa only [KindOk, if_pos q] using this⟩
  · refine .inr ⟨q, fun e he => ?_⟩
    have := (h e he).1
    simp only [KindOk, if_neg q] at this
    rcases this with rfl | ⟨i, rfl⟩ <;> exact trivial
section
variable {prog : Program} {w : World} {A : Around} {E : Value → Shared → Prop} {s : Shared} {h₀ : Heap} {L : Addr} {news : List (Addr × Obj)} {va vb : Value} {d e : Dat} {Q : Value → Shared → Prop}
theorem kqd_shaped {d : Dat} (h : kqdOk 8 d = true) : SeqAt.shaped (kqdP d) = true := by
  have l := kqd_lay 8 d h
  unfold SeqAt.shaped
  rw [l.1, Bool.true_and]
  exact decide_eq_true (Nat.le_trans l.2 (by decide))
theorem ne_same (N : News h₀ L s.heap news) (Da : DatIn news va d) (Db : DatIn news vb d) (ok : kqdOk 8 d = true) (hu : A.units + 64 < cLine) (h : Q (.bool false) s) : wpAny (model prog w) A (compareOp .NotEq va vb) Q E s := by
  obtain ⟨as, ra⟩ := kqd_in N 8 Da ok
  obtain ⟨bs, rb⟩ := kqd_in N 8 Db ok
  have q := (kqd_eqv 8 d d 8 ok ok).mpr rfl
  exact ne_dataH ra rb (kqd_shaped ok) (kqd_shaped ok) hu (by rw [q]; exact h)
end
theorem ent_kqd (e : Ent) : kqdOk 7 e.dat = true := by cases e <;> simp [Ent.dat, kqdOk]
theorem pair_kqd {K : Str} {es : List Ent} (hK : PyData.strOk K = true) : kqdOk 8 (.tuple [.str K, .list (es.map Ent.dat)]) = true := by
  have : ∀ e : Ent, kqdOk 6 e.dat = true := fun e => by cases e <;> simp [Ent.dat, kqdOk]
  simp only [kqdOk, List.all_cons, hK, List.all_nil, Bool.and_true, Bool.true_and, List.all_eq_true, List.mem_map]
  rintro d ⟨e, _, rfl⟩
  exact this e
theorem ln_38 : True := by
  k_with "x m toCmp" => (repeat' (first | (k_unfold; (try dsimp only)) | (k_end; wrow_close) | ((fail_if_success (with_reducible show LCg.CompSrc _ _ _ _ _ _ _ _ _ _ _ _ _ _)); (fail_if_success (with_reducible show wpAny _ _ (compareOp CmpOp.NotEq (Value.ref _) (Value.ref _)) _ _ _)); first | walk1 | (dsimp only; walk1) | (leave1; (try dsimp only)))))
  k_with "x m toLoop" => (repeat' (first | (k_unfold; (try dsimp only)) | (k_end; wrow_close) | ((fail_if_success (with_reducible show LCg.CompSrc _ _ _ _ _ _ _ _ _ _ _ _ _ _)); (fail_if_success (with_reducible show wpAny _ _ (pyIter (Value.ref _)) _ _ _)); first | walk1 | (dsimp only; walk1) | (leave1; (try dsimp only)))))
  k_with "x call ref" => ((k_here; k_dflt (refine' c_lnear (by k_asm) (by k_asm) (by k_asm) (by k_asm) (by k_asm) (by first | exact rfl | assumption) (by k_extra "x m room") (by k_extra "x m units") (by assumption) (by assumption) (by assumption) (by omega) (by omega) (by assumption))))
  trivial
theorem datin_tuple {news : List (Addr × Obj)} {T : Addr} {u v : Value} {n : Nat} {d e : Dat} (hm : (T, ({ cls := .type "tuple", data := .seq #[u, v] n } : Obj)) ∈ news) (hu : DatIn news u d) (hv : DatIn news v e) : DatIn news (.ref T) (.tuple [d, e]) :=
  .tuple (vs := [u, v]) hm (.cons hu (.cons hv .nil))
theorem datin_list {news sub : List (Addr × Obj)} {I : Addr} {vs : List Value} {n : Nat} {ds : List Dat} (hm : (I, PySem.W.listOf vs.toArray n) ∈ news) (hd : DatAll sub vs ds) (hs : ∀ p ∈ sub, p ∈ news) : DatIn news (.ref I) (.list ds) :=
  .list hm (DatAll.mono hs hd)


/-- a loop over entries that lays one value for each at the end of a list -/
theorem due_loop {prog : Program} {w : World} {A : Around} {E : Value → Shared → Prop} {s : Shared} {env : Env} {h₀ : Heap} {x : Str} {body : List Stmt} {Q : Flow → Shared → Prop}
    {l DU : Addr} {ys : List Value} {nn : Nat} {m₀ : Str → Option Value} {base sub : List (Addr × Obj)} {es : List Ent} (f : Ent → Ent)
    (hh : A.handled = none) (hl : (l, PySem.W.listOf ys.toArray nn) ∈ base) (F : Fr h₀ env.locals s.heap m₀) (N : News h₀ env.locals s.heap ((DU, PySem.W.listOf #[] 0) :: base)) (hDU : ∀ p ∈ base, p.1 ≠ DU)
    (hd : DatAll sub ys (es.map Ent.dat)) (hs : ∀ p ∈ sub, p ∈ base) (he8 : es.length ≤ 8)
    (turn : ∀ e ∈ es, ∀ v ws k rest h tk (Q' : Flow → Shared → Prop), ws.length ≤ 8 → DatIn rest v e.dat → (∀ p ∈ rest, p.1 ≠ DU) → Fr h₀ env.locals h (fun y => if y = x then some v else m₀ y) → News h₀ env.locals h ((DU, PySem.W.listOf (List.toArray ws) k) :: rest) →
      (∀ v' add' k' h' tk', Fr h₀ env.locals h' (fun y => if y = x then some v else m₀ y) → News h₀ env.locals h' ((DU, PySem.W.listOf (ws.toArray.push v') k') :: (add' ++ rest)) → Apart add' ((DU, PySem.W.listOf (List.toArray ws) k) :: rest) →
        (v' = v ∧ f e = e ∨ DatIn add' v' (f e).dat) → Q' .next { s with heap := h', toks := tk' }) →
      wpAny (model prog w) A (execs body env) Q' E { s with heap := h, toks := tk })
    (done : ∀ ws k add mv h tk, DatAll (add ++ base) ws ((es.map f).map Ent.dat) → Apart add ((DU, PySem.W.listOf #[] 0) :: base) → Fr h₀ env.locals h (fun y => if y = x then mv else m₀ y) → News h₀ env.locals h ((DU, PySem.W.listOf (List.toArray ws) k) :: (add ++ base)) → Q .next { s with heap := h, toks := tk }) :
    wpAny (model prog w) A (pyIter (.ref l)) (fun it s₂ => LoopAtV prog w A h₀ env x body Q E it s₂) E s := by
  have hlen : ys.length = es.length := by rw [hd.length, List.length_map]
  refine kdl_iter (fun i m nx => (∀ y, y ≠ x → m y = m₀ y) ∧ ∃ ws k add, nx = (DU, PySem.W.listOf (List.toArray ws) k) :: (add ++ base) ∧ DatAll (add ++ base) ws (((es.take i).map f).map Ent.dat) ∧ Apart add ((DU, PySem.W.listOf #[] 0) :: base))
    hh (.tail _ hl) F N ⟨fun _ _ => rfl, [], 0, [], rfl, .nil, Apart.nil⟩ ?_ ?_
  · rintro i v m₁ news₁ h tk own hv hoff hin ⟨hm, ws, k, add, rfl, hdat, hap⟩ F₁ N₁
    have hi : i < ys.length := (List.getElem?_eq_some_iff.mp hv).1
    have hi' : i < es.length := hlen ▸ hi
    obtain ⟨v', hv', hdv⟩ := hd.get (k := i) (by rw [List.length_map]; exact hi')
    rw [hv] at hv'
    obtain rfl := Option.some.inj hv'
    rw [List.getElem_map] at hdv
    have F₂ : Fr h₀ env.locals h (fun y => if y = x then some v else m₀ y) := by
      have : (fun y => if y = x then some v else m₁ y) = fun y => if y = x then some v else m₀ y := by
        funext y
        by_cases q : y = x
        · rw [if_pos q, if_pos q]
        · rw [if_neg q, if_neg q, hm y q]
      rw [this] at F₁
      exact F₁
    have mb : ∀ p ∈ base, p ∈ (add ++ base) ++ own := fun p hp => List.mem_append.mpr (.inl (List.mem_append.mpr (.inr hp)))
    have hne : ∀ p ∈ (add ++ base) ++ own, p.1 ≠ DU := fun p hp => by
      rcases List.mem_append.mp hp with hp | hp
      · rcases List.mem_append.mp hp with hp | hp
        · exact hap p hp (DU, _) (.head _)
        · exact hDU p hp
      · exact hoff p hp DU (.head _)
    refine turn es[i] (List.getElem_mem hi') v ws k ((add ++ base) ++ own) h tk _ (by rw [hdat.length, List.length_map, List.length_map, List.length_take]; omega) (dat_mono hdv fun p hp => mb p (hs p hp)) hne F₂ N₁ ?_
    intro v' add' k' h' tk' F' N' ap' hr
    rw [List.push_toArray] at N'
    have hl' : (l, PySem.W.listOf ys.toArray nn) ∈ (DU, PySem.W.listOf (ws ++ [v']).toArray k') :: ((add' ++ add) ++ base) := .tail _ (List.mem_append.mpr (.inr hl))
    refine ⟨h', tk', _, _, (DU, PySem.W.listOf (ws ++ [v']).toArray k') :: ((add' ++ add) ++ base), rfl, F', N', fun p hp => ?_, fun p hp => .tail _ (List.mem_append.mpr (.inr (List.mem_append.mpr (.inr hp)))), fun p hp b hb => ?_, hl', fun y q => if_neg q, ws ++ [v'], k', add' ++ add, rfl, ?_, ?_⟩
    · rcases List.mem_cons.mp hp with e | hp
      · rw [e]; exact .head _
      · refine .tail _ ?_
        rcases List.mem_append.mp hp with hp | hp
        · rcases List.mem_append.mp hp with hp | hp
          · exact List.mem_append.mpr (.inl hp)
          · exact List.mem_append.mpr (.inr (List.mem_append.mpr (.inl (List.mem_append.mpr (.inl hp)))))
        · exact List.mem_append.mpr (.inr (mb p hp))
    · obtain ⟨q, hq, rfl⟩ := List.mem_map.mp hb
      rcases List.mem_cons.mp hq with e | hq
      · rw [e]; exact hoff p hp DU (.head _)
      · rcases List.mem_append.mp hq with hq | hq
        · rcases List.mem_append.mp hq with hq | hq
          · exact fun e => ap' q hq p (.tail _ (List.mem_append.mpr (.inr hp))) e.symm
          · exact hoff p hp q.1 (List.mem_map.mpr ⟨q, .tail _ (List.mem_append.mpr (.inl hq)), rfl⟩)
        · exact hoff p hp q.1 (List.mem_map.mpr ⟨q, .tail _ (List.mem_append.mpr (.inr hq)), rfl⟩)
    · rw [List.take_add_one, List.getElem?_eq_getElem hi', Option.toList_some, List.map_append, List.map_append]
      refine DatAll.append (DatAll.mono (fun p hp => ?_) hdat) (.cons ?_ .nil)
      · rw [List.append_assoc]; exact List.mem_append.mpr (.inr hp)
      · rcases hr with ⟨e1, e2⟩ | hr
        · rw [e1, e2]; exact dat_mono hdv fun p hp => List.mem_append.mpr (.inr (hs p hp))
        · exact dat_mono hr fun p hp => List.mem_append.mpr (.inl (List.mem_append.mpr (.inl hp)))
    · intro p hp q hq
      rcases List.mem_append.mp hp with hp | hp
      · rcases List.mem_cons.mp hq with e | hq
        · rw [e]; exact ap' p hp (DU, PySem.W.listOf (List.toArray ws) k) (.head _)
        · exact ap' p hp q (.tail _ (mb q hq))
      · exact hap p hp q hq
  · rintro m₁ news₁ h tk ⟨hm, ws, k, add, rfl, hdat, hap⟩ F₁ N₁
    rw [hlen, List.take_length] at hdat
    have e : m₁ = fun y => if y = x then m₁ x else m₀ y := by
      funext y
      by_cases q : y = x
      · rw [if_pos q, q]
      · rw [if_neg q, hm y q]
    rw [e] at F₁
    exact done ws k add (m₁ x) h tk hdat hap F₁ N₁
theorem sgf_eq {k n d : Int} (h1 : 0 < d) (h2 : n ≠ 0) : rhe (k - 1 - place n d) (.frac n d) = sgf k (.frac n d) := by
  simp only [rhe, sgf, if_pos h1, if_pos (show 0 < d ∧ n ≠ 0 from ⟨h1, h2⟩)]
theorem ln_39 : True := by
  k_with "x call ref" => ((k_here; k_dflt (refine' c_lnear_1 (by k_asm) (by k_asm) (by k_asm) (by k_asm) (by k_asm) (by first | exact rfl | assumption) (by k_extra "x m room") (by k_extra "x m units") (by k_mem) (by assumption) (by assumption) (by assumption) (by omega) (by omega) ?_; k_whole; intro D9 t9 u9 c9 h9 tk9 F9 N9 l9); (have l8 := l9); (try k_lt l8);(try k_sweep); (try dsimp only); (try k_fold)))
  trivial
theorem apart_one {p : Addr × Obj} {l : List (Addr × Obj)} (h : ∀ q ∈ l, q.1 < p.1) : Apart [p] l := Apart.cons h Apart.nil
theorem ln_40 : True := by
  k_with "x call builtin:list.append" => ((k_here; (with_reducible show wpAny _ _ (call (Value.builtin _) [Value.ref _, _]) _ _ _); k_dflt (refine' append_K (by k_asm) (by k_asm) (by k_upd) ?_ (by (rw [List.size_toArray, sizeLine_eq]; k_extra "x m size")); k_whole); intro h' F' N'; (try k_sweep)))
  trivial
theorem news_swap {h₀ h : Heap} {L : Addr} {a b : Addr × Obj} {r : List (Addr × Obj)} (N : News h₀ L h (a :: b :: r)) : News h₀ L h (b :: ([a] ++ r)) := cb_drop N fun p hp => by
  rcases List.mem_cons.mp hp with e | hp
  · rw [e]; exact .tail _ (.head _)
  · rcases List.mem_cons.mp hp with e | hp
    · rw [e]; exact .head _
    · exact .tail _ (.tail _ hp)


theorem sgf_stay {k n d : Int} (h : ¬ (0 < d ∧ n ≠ 0)) : sgf k (.frac n d) = .frac n d := by simp only [sgf, if_neg h]
theorem offA_six {a : List (Addr × Obj)} {c0 c1 c2 c3 c4 c5 : Addr × Obj} {stuff : List (Addr × Obj)} (h : Apart a (c0 :: c1 :: c2 :: c3 :: c4 :: c5 :: stuff)) : OffA a [c0.1, c1.1, c2.1, c3.1, c4.1, c5.1] := by
  intro p hp b hb
  simp only [List.mem_cons, List.not_mem_nil, or_false] at hb
  rcases hb with rfl | rfl | rfl | rfl | rfl | rfl
  · exact h p hp c0 (by simp)
  · exact h p hp c1 (by simp)
  · exact h p hp c2 (by simp)
  · exact h p hp c3 (by simp)
  · exact h p hp c4 (by simp)
  · exact h p hp c5 (by simp)
theorem norm_due {h₀ h : Heap} {L : Addr} {l' : Addr} {o o' : Obj} {add a20 stuff : List (Addr × Obj)} {c0 c1 c2 c3 c4 c5 : Addr × Obj} (N : News h₀ L h ((l', o) :: (add ++ (a20 ++ c0 :: c1 :: c2 :: c3 :: c4 :: c5 :: stuff))))
    (ap : Apart add ((l', o') :: (a20 ++ c0 :: c1 :: c2 :: c3 :: c4 :: c5 :: stuff))) (l20 : ∀ p ∈ a20 ++ c0 :: c1 :: c2 :: c3 :: c4 :: c5 :: stuff, p.1 < l') (ap20 : Apart a20 (c0 :: c1 :: c2 :: c3 :: c4 :: c5 :: stuff)) (hoff : OffA stuff [c0.1, c1.1, c2.1, c3.1, c4.1, c5.1]) :
    ∃ stuff', News h₀ L h (c0 :: c1 :: c2 :: c3 :: c4 :: c5 :: stuff') ∧ OffA stuff' [c0.1, c1.1, c2.1, c3.1, c4.1, c5.1] ∧ (l', o) ∈ stuff' ∧ (∀ p ∈ add, p ∈ stuff') ∧ (∀ p ∈ a20, p ∈ stuff') ∧ ∀ p ∈ stuff, p ∈ stuff' := by
  have ap' : Apart ((l', o) :: add) (a20 ++ c0 :: c1 :: c2 :: c3 :: c4 :: c5 :: stuff) := Apart.cons2 (fun q hq => Nat.ne_of_gt (l20 q hq)) (ap.sub fun q hq => .tail _ hq)
  obtain ⟨stuff', N', off, m1, m2, m3⟩ := norm6 (add := (l', o) :: add) (pre := a20) N ap' (offA_six ap20) hoff
  exact ⟨stuff', N', off, m1 _ (.head _), fun p hp => m1 p (.tail _ hp), m2, m3⟩
section
variable {prog : Program} {w : World} {A : Around} {E : Value → Shared → Prop} {s : Shared} {h₀ : Heap} {L : Addr} {news : List (Addr × Obj)} {Q : Value → Shared → Prop}
theorem lists_same {I J : Addr} {us : List Value} {c d : Nat} (N : News h₀ L s.heap news) (hI : (I, PySem.W.listOf us.toArray c) ∈ news) (hJ : (J, PySem.W.listOf us.toArray d) ∈ news) (hu : A.units < cLine) : SeqAt.EqAt A s (.ref I) (.ref J) true := by
  by_cases q : I = J
  · subst q; exact SeqAt.EqAt.same _
  · have := SeqAt.RcAt.lists (A := A) (s := s) (e := fun _ => true) (N.isList hI) (N.isList hJ) rfl hu fun j h1 h2 => SeqAt.EqAt.same _
    rw [show (List.range us.toArray.size).all (fun _ => true) = true by simp] at this
    exact SeqAt.EqAt.of_refs q this
/-- two dicts of one name upon lists of the same values -/
theorem ne_held {x : Str} {D H I J : Addr} {oD oH : Obj} {us : List Value} {c d : Nat} (N : News h₀ L s.heap news) (hD : (D, oD) ∈ news) (dD : oD.IsDictOf (PySem.strKind prog w) [(x, .ref I)]) (lD : (D == sysModules) = false)
    (hH : (H, oH) ∈ news) (dH : oH.IsDictOf (PySem.strKind prog w) [(x, .ref J)]) (lH : (H == sysModules) = false) (hI : (I, PySem.W.listOf us.toArray c) ∈ news) (hJ : (J, PySem.W.listOf us.toArray d) ∈ news)
    (hu : A.units < cLine) (hu' : A.in1.units < cLine) (h : Q (.bool false) s) : wpAny (model prog w) A (compareOp .NotEq (.ref D) (.ref H)) Q E s := by
  refine keq_ne (knd := PySem.strKind prog w) (r := true) lD lH (Heap.dictOf_iff.mpr ⟨oD, N.get hD, dD⟩) (Heap.dictOf_iff.mpr ⟨oH, N.get hH, dH⟩) hu (fun _ => ?_) (by simpa using h)
  exact .hit value_one (lists_same N hI hJ hu') .nil
end


/-- the class as it stands, with its line of classes and its maker -/
noncomputable def shapeIn (K : Frag) (C : Addr) (bm : List Value) (newId : String) : Prop := ∃ nm qn N bs hdct sn sub ab col dd k0 k1 k2 k3 k5,
    K.lookup C = some (excClassObj nm qn C N bs bm hdct sn sub ab col dd k0 k1 k2 k3 k5 newId)
theorem shape_of {K : Frag} {h : Heap} {C : Addr} {bm : List Value} {newId : String} (X : K.In h) (q : shapeIn K C bm newId) : ∃ nm qn N bs hdct sn sub ab col dd k0 k1 k2 k3 k5,
    h.get? C = some (excClassObj nm qn C N bs bm hdct sn sub ab col dd k0 k1 k2 k3 k5 newId) := by
  obtain ⟨nm, qn, N, bs, hdct, sn, sub, ab, col, dd, k0, k1, k2, k3, k5, e⟩ := q
  exact ⟨nm, qn, N, bs, hdct, sn, sub, ab, col, dd, k0, k1, k2, k3, k5, X _ _ e⟩
noncomputable abbrev excTail : List Value := [.type "Exception", .type "BaseException", .type "object"]
theorem over_58 {w : World} : overExc (K39 w.params) 58 = true := by kernel_rfl
theorem shape_58 {w : World} : shapeIn (K39 w.params) 58 (.ref 38 :: excTail) "Exception.__new__" :=
  ⟨_, _, _, _, _, _, _, _, _, _, _, _, _, _, _, by with_unfolding_all rfl⟩
theorem tail_58 {w : World} : tailIn (K39 w.params) excTail (.ref 38 :: excTail) = true := by kernel_rfl
noncomputable abbrev msgD (w : World) (tk : Tok) (v : Value) : Obj := dictOf [⟨PyData.keyHash w.params (Str.ofString "message"), .str (Str.ofString "message") tk, v⟩] 1
noncomputable abbrev oneTup (v : Value) : Obj := { cls := .type "tuple", data := .seq #[v] 0 }
theorem ln_41 : True := by
  k_with "x setAttr ref" => ((k_here; k_dflt (refine' set_exc (by k_asm) (by assumption) (by assumption) (by k_asm) (by exact rfl) (by exact rfl) (by exact ⟨_, rfl⟩) (by exact over_58) (by k_is) (by k_is) ?_; k_whole); intro D' h' F' N' l'))
  trivial
set_option maxHeartbeats 8000000 in
theorem c_refusal {w : World} {mean : ExcName → Option Value} {mg mb : Str → Option Value} {dp un : Nat} {gd : Option (List Code)} {cn : Str} {cs : Scope} {a : Addr} {ccd : Value} {cl : List (Str × Addr)} {outer : List Env} {A₀ : Around} {base h₀ : Heap} {L : Addr} {m : Str → Option Value} {s : Shared} {Q E : Value → Shared → Prop} {news : List (Addr × Obj)}
    {vm : Value} (B : Below A₀ base outer h₀) (F : Fr h₀ L s.heap m) (X : (K39 w.params).In h₀) (N : News h₀ L s.heap news) (T : Top view (looseW view []) mean mg mb h₀) (hk : cs.kind = .function) (_hdp : dp + 1 < recursionLimit) (_hun : un + 100 < cLine)
    (hret : ∀ e t D tk1 h' tk', Fr h₀ L h' m → News h₀ L h' ((e, excO (.ref 58) t D) :: (D, msgD w tk1 vm) :: (t, oneTup vm) :: news) → (∀ p ∈ news, p.1 < t) → t < e → e < D → Q (.ref e) { s with heap := h', toks := tk' }) :
    wpAny (model Challenge.rw_pq1313_01.row.prog w) (ktrTop dp un gd cn cs L a ccd cl outer) (call (.ref 58) [vm]) Q E s := by
  obtain ⟨nm, qn, N', bs, hdct, sn, sub, ab, col, dd, k0, k1, k2, k3, k5, hC⟩ := shape_of (X.keeps F.keep) (shape_58 (w := w))
  refine make_exc (K := K39 w.params) PySem.F.excBase_Exception rfl (tail_of_in (X.keeps F.keep) tail_58) hC F N (X.keeps F.keep) (by k_is) (by k_is) (by rw [sizeLine_eq]; exact Nat.le_of_ble_eq_true rfl) fun e t h1 F1 N1 l1 l2 => ?_
  have hx9 : ∀ p ∈ (t, ({ cls := .type "tuple", data := .seq [vm].toArray 0 } : Obj)) :: news, p.1 ≠ e := fun p hp => by
    rcases List.mem_cons.mp hp with q | hp
    · rw [q]; exact Nat.ne_of_lt l2
    · exact Nat.ne_of_lt (Nat.lt_trans (l1 p hp) l2)
  clear N
  k_dflt cell_enter
  k_steps
  rename News h₀ L _ _ => kN9
  rename ∀ p : Addr × Obj, p ∈ (e, _) :: _ → p.1 < _ => l9
  exact hret _ _ _ _ _ _ (by k_asm) kN9 l1 l2 (l9 _ (.head _))


section
variable {prog : Program} {w : World} {A : Around} {E : Value → Shared → Prop} {env : Env}
/-- raised: a fresh one with a dict of its own -/
theorem raiseStmt_D {s : Shared} {x : Sem Value} {K : Frag} {C : Addr} {bm : List Value} {newId : String} {Q : Flow → Shared → Prop} (q : shapeIn K C bm newId) (hbase : bm.contains (.type "BaseException") = true) (hh : A.handled = none)
    (h : wpAny (model prog w) A x (fun v s₁ => ∃ e t D, v = .ref e ∧ K.In s₁.heap ∧ s₁.heap.get? e = some (excO (.ref C) t D) ∧ E (.ref e) s₁) E s) :
    wpAny (model prog w) A (raiseStmt env (some x) none) Q E s := by
  have hcB : (Value.ref C :: bm).contains (.type "BaseException") = true := by rw [List.contains_cons, hbase, Bool.or_true]
  unfold raiseStmt
  refine wpAny_bind (wpAny_mono h (fun v s₁ h₁ => ?_) fun _ _ x => x)
  obtain ⟨e, t, D, rfl, X, he, hE⟩ := h₁
  obtain ⟨nm, qn, N', bs, hdct, sn, sub, ab, col, dd, k0, k1, k2, k3, k5, hC⟩ := shape_of X q
  obtain ⟨hp, g, d, tk, os⟩ := s₁
  repeat (first | with_reducible refine wpAny_loadPart_at he ?_ | with_reducible refine wpAny_loadPart_at hC ?_ | (with_reducible refine wpAny_isSubtype_exc hC ?_; rw [hcB]) | wp_step)
  exact wpAny_raiseNew_none hh hE
theorem Raise_D {s : Shared} {f : Expr} {pos : Pos} {K : Frag} {C : Addr} {bm : List Value} {newId : String} {Q : Flow → Shared → Prop} (q : shapeIn K C bm newId) (hbase : bm.contains (.type "BaseException") = true) (hh : A.handled = none)
    (h : wpAny (model prog w) A (eval f env) (fun v s₁ => ∃ e t D, v = .ref e ∧ K.In s₁.heap ∧ s₁.heap.get? e = some (excO (.ref C) t D) ∧ E (.ref e) s₁) E s) :
    wpAny (model prog w) A (exec (.Raise (some f) none pos) env) Q E s := by
  rw [arm_exec_Raise]
  exact wpAny_bind (wpAny_standAt (raiseStmt_D q hbase hh (wpAny_bind (wpAny_mono h (fun v s₃ h₃ => wpAny_bind (wpAny_standAt (wpAny_pure h₃))) fun _ _ x => x))))
theorem Raise_58 {s : Shared} {f : Expr} {pos : Pos} {Q : Flow → Shared → Prop} (q : shapeIn (K39 w.params) 58 (.ref 38 :: excTail) "Exception.__new__") (hh : A.handled = none)
    (h : wpAny (model prog w) A (eval f env) (fun v s₁ => ∃ e t D, v = .ref e ∧ (K39 w.params).In s₁.heap ∧ s₁.heap.get? e = some (excO (.ref 58) t D) ∧ E (.ref e) s₁) E s) :
    wpAny (model prog w) A (exec (.Raise (some f) none pos) env) Q E s := Raise_D q rfl hh h
end
theorem inst_exc {h₀ h : Heap} {L e D C : Addr} {news : List (Addr × Obj)} {oe od : Obj} (N : News h₀ L h news) (he : (e, oe) ∈ news) (hc : oe.cls = .ref C) (hd : oe.dict = some D) (hf : ∃ vs, oe.data = .fields vs) (hD : (D, od) ∈ news) : InstAt h e oe C (some od) :=
  ⟨(N _ he).1, hc, by obtain ⟨vs, q⟩ := hf; unfold notCls; rw [q], by rw [hd]; exact (N _ hD).1⟩
section
variable {prog : Program} {w : World} {A₀ : Around} {E : Value → Shared → Prop} {s' : Shared} {h₀ G : Heap} {outer : List Env} {L a e t D C : Addr} {m : Str → Option Value} {name : Str} {scope : Scope} {cd : Value} {cl : List (Str × Addr)}
  {vs : List Value} {n : Str} {b₀ : Stmt} {suite : List Stmt} {pos np : Pos} {rest : List ExceptHandler} {Q : Flow → Shared → Prop} {news : List (Addr × Obj)} {KF : Frag} {bm : List Value} {newId : String}
  {p : Program} {loose : List Str} {mean : ExcName → Option Value} {mg mb : Str → Option Value} {x : Str}
theorem caught_D (R : RaisedD h₀ (envX name scope L a cd cl :: outer) e (.ref C) t vs news D s'.heap) (F : Fr h₀ L G m) (hsm : G.UpToSlots s'.heap) (K : Below A₀ h₀ outer h₀)
    (X : KF.In h₀) (T : Top p loose mean mg mb h₀) (ex : nsIn KF mainGlobals x = some (some (.ref C))) (q : shapeIn KF C bm newId) (hbase : bm.contains (.type "BaseException") = true)
    (k : ∀ h' tk oe, oe.cls = .ref C → oe.dict = some D → (∃ vs, oe.data = .fields vs) → Fr h₀ L h' (fun y => if y = n then some (.ref e) else m y) → News h₀ L h' ((e, oe) :: news) →
      wpAny (model prog w) ((A₀.deeper (envX name scope L a cd cl)).mark (some (.ref e))) (execs (b₀ :: suite) (envX name scope L a cd cl))
        (fun f s₄ => wpAny (model prog w) (A₀.deeper (envX name scope L a cd cl)) (do bindName (envX name scope L a cd cl) n .none; unbindBehindTheSuite (envX name scope L a cd cl) n pos) (fun _ s₅ => Q f s₅) E s₄)
        (AsSuiteRaised (model prog w) ((A₀.deeper (envX name scope L a cd cl)).mark (some (.ref e))) (envX name scope L a cd cl) n pos (notedBy (model prog w) ((A₀.deeper (envX name scope L a cd cl)).mark (some (.ref e))) (envX name scope L a cd cl) (cameBackBy (model prog w) (A₀.deeper (envX name scope L a cd cl)) (envX name scope L a cd cl) E)))
        { s' with heap := h', toks := tk })
    (hk : scope.kind = .function := by rfl) (hlo : (envX name scope L a cd cl).kindOf n = some .local := by rfl) (hx : (envX name scope L a cd cl).kindOf x = some .globalImplicit := by rfl) (hd : (x == ("__debug__" : Str)) = false := by decide) :
    wpAny (model prog w) (A₀.deeper (envX name scope L a cd cl)) (noteFrame (.ref e) (envX name scope L a cd cl))
      (fun _ s₂ => wpAny (model prog w) (A₀.deeper (envX name scope L a cd cl)) (setFlight (.ref e) none) (fun _ s₃ =>
        wpAny (model prog w) (A₀.deeper (envX name scope L a cd cl)) (handleBy (.ref e) (envX name scope L a cd cl) (.ExceptHandler (some (.Name x np)) (some n) (b₀ :: suite) pos :: rest)) Q E s₃) E s₂) E s' := by
  obtain ⟨⟨⟨B, hB, hl, hfl, hnew⟩, htup⟩, ⟨oe₀, hoe₀, hod₀⟩⟩ := R
  have hL : B.get? L = none := by
    obtain ⟨_, ⟨L', _, hf, hn', _⟩, _⟩ := hfl.2.2.1
    obtain rfl : L = L' := Option.some.inj hf
    exact hn'
  refine wpAny_mono (wpAny_tame (tame_note _ _) (wpAny_looks_onW (E := E) (Q := fun _ s₂ => ∃ h₄, s₂ = { s' with heap := h₄ } ∧ Heap.HeldW B (envX name scope L a cd cl :: outer) e (.ref C) (.ref t) L h₄ ∧ s'.heap.UpToSlots h₄) (Around.frames_deeper K.stack) rfl hfl fun h₄ a1 a2 => ⟨h₄, rfl, a1, a2⟩)) (fun _ s₂ z => ?_) fun _ _ z => z.1
  obtain ⟨⟨h₄, rfl, hheld₄, hsm₄⟩, kd₄⟩ := z
  obtain ⟨oe₄, hoe₄, hod₄, -⟩ := kd₄ e _ hoe₀
  refine wpAny_mono (wpAny_tame (tame_setFlight _ _) (wpAny_landsW (E := E) (Q := fun _ s₂ => ∃ h₅, s₂ = { s' with heap := h₅ } ∧ Heap.FlyingW B (envX name scope L a cd cl :: outer) e (.ref C) (.ref t) h₅ ∧ h₄.UpToSlots h₅) hheld₄ fun h₅ a1 a2 => ⟨h₅, rfl, a1, a2⟩)) (fun _ s₂ z => ?_) fun _ _ z => z.1
  obtain ⟨⟨h₅, rfl, hheld, hsm₅'⟩, kd₅⟩ := z
  obtain ⟨oe₅, hoe₅, hod₅, -⟩ := kd₅ e _ hoe₄
  have hsm₅ := hsm₄.trans hsm₅'
  have hheld' := flyingW_base hB hheld
  have F₅ := F.of_stays hheld'.1 (hsm.trans hsm₅)
  obtain ⟨ob, hob, hobc⟩ := hheld'.there
  refine wpAny_handleBy_cons (codeAny_handlers_test (nameX_K F₅ X (topRead_of T) ex ?_ hk hx hd)) (by intro q; cases q)
  obtain ⟨nm, qn, N', bs, hdct, sn, sub, ab, col, dd, k0, k1, k2, k3, k5, hC⟩ := shape_of (X.keeps F₅.keep) q
  refine wpAny_excMatches_sub_self hC hob hobc hbase (codeAny_handlers_suite_as ?_)
  refine wpAny_mono (wpAny_tame (tame_setFlight _ _) (lands_againW (Q := fun _ s₂ => ∃ h₆, s₂ = { s' with heap := h₆ } ∧ Heap.FlyingW B (envX name scope L a cd cl :: outer) e (.ref C) (.ref t) h₆ ∧ h₅.UpToSlots h₆) hheld fun h₆ a1 a2 => ⟨h₆, rfl, a1, a2⟩)) (fun _ s₂ z => ?_) fun _ _ z => z.1
  obtain ⟨⟨h₆, rfl, hfl₆, hsm₆⟩, kd₆⟩ := z
  obtain ⟨oe₆, hoe₆, hod₆, -⟩ := kd₆ e _ hoe₅
  have hfl₆' := flyingW_base hB hfl₆
  have F₆ := F.of_stays hfl₆'.1 ((hsm.trans hsm₅).trans hsm₆)
  obtain ⟨oe, ws, hoe, hoec, hoed, hoe0⟩ := hfl₆'.first
  have hdict : oe.dict = some D := by
    rw [hoe₆] at hoe
    cases hoe
    rw [hod₆, hod₅, hod₄, hod₀]
  have Nl : News h₀ L h₆ news := fun q hq => ⟨hfl₆.1 _ _ (hl q hq).1, (fun z => by have := (hl q hq).1; rw [z, hL] at this; cases this), (hl q hq).2⟩
  have N₆ := News.more F₆ Nl hoe (fun es n q => by rw [hoed] at q; cases q) hfl₆'.2.1
  refine storeX_L F₆ N₆ (fun h₇ F₇ N₇ => ?_) hk hlo
  exact k h₇ _ oe hoec hdict ⟨ws, hoed⟩ F₇ N₇
end


theorem ln_42 : True := by
  k_with "x exec Raise some none" => ((k_here; k_dflt (refine' Raise_58 shape_58 (by first | exact rfl | assumption) ?_; k_whole)))
  k_with "x call ref" => ((k_here; k_dflt (refine' c_refusal (by k_asm) (by k_asm) (by k_asm) (by k_asm) (by k_asm) (by first | exact rfl | assumption) (by k_extra "x m room") (by k_extra "x m units")  ?_; k_whole; intro e9 t9 D9 tk9 h9 tk8 F9 N9 l1 l2 l3); (try k_sweep); (try dsimp only); (try k_fold)))
  trivial
/-- what stands behind a call that raises the refusal -/
noncomputable abbrev RefusalRet (w : World) (base : Heap) (env : Env) (outer : List Env) (h₀ : Heap) (L : Addr) (m : Str → Option Value) (news : List (Addr × Obj)) (s : Shared) (E : Value → Shared → Prop) : Prop :=
  ∀ e t D tk1 tkm g h' tk', RaisedD base (env :: outer) e (.ref 58) t [.str (Str.ofString "non-numeric argument to mathematical function") tkm] ((D, msgD w tk1 (.str (Str.ofString "non-numeric argument to mathematical function") tkm)) :: news) D h' →
    g.UpToSlots h' → Fr h₀ L g m → E (.ref e) { s with heap := h', toks := tk' }
section
variable {M : Model} {w : World} {A : Around} {E : Value → Shared → Prop} {s' : Shared} {base g : Heap} {outer : List Env} {L e t D : Addr} {m : Str → Option Value} {env : Env} {Q : Unit → Shared → Prop} {xs news : List (Addr × Obj)} {v : Value} {tk1 : Tok}
theorem leave_refusal (K : Below A base outer g) (F : Fr g L s'.heap m) (N : News g L s'.heap ((e, excO (.ref 58) t D) :: (D, msgD w tk1 v) :: (t, oneTup v) :: (xs ++ news))) (l1 : ∀ p ∈ xs ++ news, p.1 < t) (l2 : t < e) (l3 : e < D)
    (hf : env.frame = some L) (hk : env.scope.kind = .function)
    (hQ : ∀ h', RaisedD base outer e (.ref 58) t [v] ((D, msgD w tk1 v) :: news) D h' → g.UpToSlots h' → Q () { s' with heap := h' }) :
    wpAny M (A.deeper env) (leaving env (.ref e)) Q E s' := by
  refine leave_firstD (vs := [v]) (n := 0) (news := (D, msgD w tk1 v) :: news) K F (cb_drop N fun p hp => ?_) (fun q hq => ?_) (Ne.symm (Nat.ne_of_lt l2)) hf hk hQ
  · rcases List.mem_cons.mp hp with q | hp
    · rw [q]; exact .head _
    · rcases List.mem_cons.mp hp with q | hp
      · rw [q]; exact .tail _ (.tail _ (.head _))
      · rcases List.mem_cons.mp hp with q | hp
        · rw [q]; exact .tail _ (.head _)
        · exact .tail _ (.tail _ (.tail _ (List.mem_append.mpr (.inr hp))))
  · rcases List.mem_cons.mp hq with q' | hq
    · rw [q']; exact ⟨Ne.symm (Nat.ne_of_lt l3), Ne.symm (Nat.ne_of_lt (Nat.lt_trans l2 l3))⟩
    · have := l1 q (List.mem_append.mpr (.inr hq))
      exact ⟨Nat.ne_of_lt (Nat.lt_trans this l2), Nat.ne_of_lt this⟩
end
set_option maxHeartbeats 8000000 in
theorem c_check_math_bad {w : World} {mean : ExcName → Option Value} {mg mb : Str → Option Value} {dp un : Nat} {gd : Option (List Code)} {cn : Str} {cs : Scope} {a : Addr} {ccd : Value} {cl : List (Str × Addr)} {outer : List Env} {A₀ : Around} {base h₀ : Heap} {L : Addr} {m : Str → Option Value} {s : Shared} {Q E : Value → Shared → Prop} {news : List (Addr × Obj)}
    {K : Str} {V dV I : Addr} {t₁ t₂ t₃ t₄ t₅ tk : Tok} {av : Value} (B : Below A₀ base outer h₀) (F : Fr h₀ L s.heap m) (X : (K39 w.params).In h₀) (N : News h₀ L s.heap news) (T : Top view (looseW view []) mean mg mb h₀) (hk : cs.kind = .function) (_hdp : dp + 2 < recursionLimit) (_hun : un + 200 < cLine)
    (hV : (V, instObj 149 dV) ∈ news) (hd : (dV, vecD w t₁ t₂ t₃ t₄ t₅ (.str K tk) (.ref I) av) ∈ news)
    (hK : K = Str.ofString "character" ∨ K = Str.ofString "list")
    (hraise : RefusalRet w base (envX cn cs L a ccd cl) outer h₀ L m news s E) :
    wpAny (model Challenge.rw_pq1313_01.row.prog w) (ktrTop dp un gd cn cs L a ccd cl outer) (call (.ref 160) [.ref V]) Q E s := by
  rcases hK with rfl | rfl
  all_goals (
    refine wpAny_call ?_
    k_dflt cell_enter
    k_steps
    all_goals (try (rename News _ _ _ _ => kN9; exact (kN9 _ (.head _)).1))
    rename News _ _ _ _ => kN9
    refine leave_refusal (xs := [_]) (by assumption) (by k_asm) kN9 (by assumption) (by assumption) (by assumption) rfl rfl fun h7 R7 U7 => hraise _ _ _ _ _ _ h7 _ R7 U7 (by assumption))
theorem RaisedD.sub {base : Heap} {l : List Env} {e t D : Addr} {cls : Value} {vs : List Value} {news news' : List (Addr × Obj)} {h : Heap} (R : RaisedD base l e cls t vs news D h) (s : ∀ q ∈ news', q ∈ news) : RaisedD base l e cls t vs news' D h := by
  obtain ⟨⟨⟨B, hB, hl, hfl, hnew⟩, htup⟩, o⟩ := R
  exact ⟨⟨⟨B, hB, fun q hq => hl q (s q hq), hfl, hnew⟩, htup⟩, o⟩
theorem drop2 {a b : Addr × Obj} {r : List (Addr × Obj)} : ∀ q ∈ a :: r, q ∈ a :: b :: r := fun q hq => by
  rcases List.mem_cons.mp hq with e | hq
  · rw [e]; exact .head _
  · exact .tail _ (.tail _ hq)
theorem ln_43 : True := by
  k_with "x call ref" => ((k_here; k_dflt (refine' c_check_math_bad (by k_asm) (by k_asm) (by k_asm) (by k_asm) (by k_asm) (by first | exact rfl | assumption) (by k_extra "x m room") (by k_extra "x m units") (by k_mem) (by k_mem) (by (first | assumption | exact .inl rfl | exact .inr rfl)) ?_; k_whole; intro e9 t9 D9 tk9 tkm9 g9 h9 tk8 R9 U9 FG9); (try k_sweep); (try dsimp only); (try k_fold)))
  trivial
set_option maxHeartbeats 8000000 in
theorem c_rt_bad {w : World} {mean : ExcName → Option Value} {mg mb : Str → Option Value} {dp un : Nat} {gd : Option (List Code)} {cn : Str} {cs : Scope} {a : Addr} {ccd : Value} {cl : List (Str × Addr)} {outer : List Env} {A₀ : Around} {base h₀ : Heap} {L : Addr} {m : Str → Option Value} {s : Shared} {Q E : Value → Shared → Prop} {news : List (Addr × Obj)}
    {K : Str} {V dV I : Addr} {t₁ t₂ t₃ t₄ t₅ tk tp : Tok} {av : Value} {p : Int} (B : Below A₀ base outer h₀) (F : Fr h₀ L s.heap m) (X : (K39 w.params).In h₀) (N : News h₀ L s.heap news) (T : Top view (looseW view []) mean mg mb h₀) (hk : cs.kind = .function) (_hdp : dp + 5 < recursionLimit) (_hun : un + 500 < cLine)
    (hV : (V, instObj 149 dV) ∈ news) (hd : (dV, vecD w t₁ t₂ t₃ t₄ t₅ (.str K tk) (.ref I) av) ∈ news)
    (hK : K = Str.ofString "character" ∨ K = Str.ofString "list")
    (hraise : RefusalRet w base (envX cn cs L a ccd cl) outer h₀ L m news s E) :
    wpAny (model Challenge.rw_pq1313_01.row.prog w) (ktrTop dp un gd cn cs L a ccd cl outer) (call (.ref 170) [.ref V, .int p tp]) Q E s := by
  refine wpAny_call ?_
  k_dflt (k_extra "x m enterC")
  k_steps
  exact leave_onD (by assumption) (by assumption) (by assumption) (by assumption) rfl fun h7 R7 U7 => hraise _ _ _ _ _ _ h7 _ (R7.sub drop2) U7 (by assumption)

set_option maxHeartbeats 8000000 in
theorem c_st_bad {w : World} {mean : ExcName → Option Value} {mg mb : Str → Option Value} {dp un : Nat} {gd : Option (List Code)} {cn : Str} {cs : Scope} {a : Addr} {ccd : Value} {cl : List (Str × Addr)} {outer : List Env} {A₀ : Around} {base h₀ : Heap} {L : Addr} {m : Str → Option Value} {s : Shared} {Q E : Value → Shared → Prop} {news : List (Addr × Obj)}
    {K : Str} {V dV I : Addr} {t₁ t₂ t₃ t₄ t₅ tk tp : Tok} {av : Value} {p : Int} (B : Below A₀ base outer h₀) (F : Fr h₀ L s.heap m) (X : (K39 w.params).In h₀) (N : News h₀ L s.heap news) (T : Top view (looseW view []) mean mg mb h₀) (hk : cs.kind = .function) (_hdp : dp + 5 < recursionLimit) (_hun : un + 500 < cLine)
    (hV : (V, instObj 149 dV) ∈ news) (hd : (dV, vecD w t₁ t₂ t₃ t₄ t₅ (.str K tk) (.ref I) av) ∈ news)
    (hK : K = Str.ofString "character" ∨ K = Str.ofString "list")
    (hraise : RefusalRet w base (envX cn cs L a ccd cl) outer h₀ L m news s E) :
    wpAny (model Challenge.rw_pq1313_01.row.prog w) (ktrTop dp un gd cn cs L a ccd cl outer) (call (.ref 175) [.ref V, .int p tp]) Q E s := by
  refine wpAny_call ?_
  k_dflt (k_extra "x m enterC")
  k_steps
  exact leave_onD (by assumption) (by assumption) (by assumption) (by assumption) rfl fun h7 R7 U7 => hraise _ _ _ _ _ _ h7 _ (R7.sub drop2) U7 (by assumption)



/-- what a turn of a loop over a list leaves behind -/
noncomputable def TurnEnd (h₀ : Heap) (L I : Addr) (it : Obj) (s : Shared) (J : (Str → Option Value) → List (Addr × Obj) → Prop) (f : Flow) (s' : Shared) : Prop :=
  f = .next ∧ ∃ h' tk' m' nx', s' = { s with heap := h', toks := tk' } ∧ Fr h₀ L h' m' ∧ News h₀ L h' ((I, it) :: nx') ∧ (∀ p ∈ nx', p.1 ≠ I) ∧ J m' nx'
section
variable {prog : Program} {w : World} {A : Around} {E : Value → Shared → Prop} {s : Shared} {env : Env} {h₀ : Heap} {target : Expr} {body : List Stmt} {Q : Flow → Shared → Prop}
theorem items_turns {I : Addr} {keep : Addr × Obj} {J : Nat → (Str → Option Value) → List (Addr × Obj) → Prop} (hJl : ∀ i m nx, J i m nx → keep ∈ nx) {vs : List Value}
    (turn : ∀ i v m nx it h tk, vs[i]? = some v → J i m nx → (∀ p ∈ nx, p.1 ≠ I) → Fr h₀ env.locals h m → News h₀ env.locals h ((I, it) :: nx) →
      wpAny (model prog w) A (assign target env v) (fun _ s₂ => wpAny (model prog w) A (execs body env) (TurnEnd h₀ env.locals I it s (J (i + 1))) E s₂) E { s with heap := h, toks := tk })
    (done : ∀ h tk m nx, J vs.length m nx → Fr h₀ env.locals h m → News h₀ env.locals h nx → Q .next { s with heap := h, toks := tk }) :
    ∀ (xs : List Value) (i : Nat) m nx, vs.drop i = xs → J i m nx → (∀ p ∈ nx, p.1 ≠ I) → i ≤ vs.length → ItemsRest prog w A E h₀ env target body Q s [(I, "list_iterator")] [keep] (xs.map .val) m nx := by
  intro xs
  induction xs with
  | nil =>
    intro i m nx e hJ _ hi
    have : i = vs.length := Nat.le_antisymm hi (List.drop_eq_nil_iff.mp e)
    subst this
    exact ItemsRest.zero fun h tk F N => done h tk m nx hJ F N
  | cons v xs ih =>
    intro i m nx e hJ ho hi
    have hlt : i < vs.length := by
      rcases Nat.lt_or_ge i vs.length with h | h
      · exact h
      · rw [List.drop_eq_nil_of_le h] at e; cases e
    have hv : vs[i]? = some v := by
      rw [List.drop_eq_getElem_cons hlt] at e
      rw [List.getElem?_eq_getElem hlt, (List.cons.inj e).1]
    have hd : vs.drop (i + 1) = xs := by
      rw [List.drop_eq_getElem_cons hlt] at e
      exact (List.cons.inj e).2
    refine ItemsRest.val fun h tk F => AllObj.cons fun it _ => AllObj.nil fun N => ?_
    refine wpAny_mono (turn i v m nx it h tk hv hJ ho F N) (fun _ s₂ h₂ => wpAny_mono h₂ (fun f s₃ p => ?_) fun _ _ e => e) fun _ _ e => e
    obtain ⟨rfl, h', tk', m', nx', rfl, F', N', ho', hJ'⟩ := p
    exact ⟨h', tk', m', nx', rfl, F', N', fun p hp q hq => by rw [List.mem_singleton.mp hq]; exact ho' p hp, ⟨hJl _ _ _ hJ', trivial⟩, ih (i + 1) m' nx' hd hJ' ho' hlt⟩
theorem list_turns {L ax : Addr} {vs : List Value} {n : Nat} {m₀ : Str → Option Value} {news : List (Addr × Obj)} (J : Nat → (Str → Option Value) → List (Addr × Obj) → Prop)
    (hL : env.locals = L) (hh : A.handled = none) (F : Fr h₀ L s.heap m₀) (N : News h₀ L s.heap news) (h0 : J 0 m₀ news) (hJl : ∀ i m nx, J i m nx → (ax, PySem.W.listOf vs.toArray n) ∈ nx)
    (turn : ∀ I i v m nx it h tk, vs[i]? = some v → J i m nx → (∀ p ∈ nx, p.1 ≠ I) → Fr h₀ L h m → News h₀ L h ((I, it) :: nx) →
      wpAny (model prog w) A (assign target env v) (fun _ s₂ => wpAny (model prog w) A (execs body env) (TurnEnd h₀ L I it s (J (i + 1))) E s₂) E { s with heap := h, toks := tk })
    (done : ∀ h tk m nx, J vs.length m nx → Fr h₀ L h m → News h₀ L h nx → Q .next { s with heap := h, toks := tk }) :
    wpAny (model prog w) A (pyIter (.ref ax)) (fun it s₂ => TurnsAt prog w A h₀ env target body Q E it s₂) E s := by
  subst hL
  exact iter_listTurns (n := n) hh F N (hJl _ _ _ h0) rfl rfl fun I hI => items_turns hJl (turn I) done vs 0 m₀ news rfl h0 (fun p hp => Nat.ne_of_lt (hI p hp)) (Nat.zero_le _)
/-- behind a turn of a loop whose name is a cell -/
structure CellEnd (h₀ : Heap) (L I a : Addr) (it : Obj) (pre post : List (Addr × Obj)) (m₀ : Str → Option Value) (s : Shared) (f : Flow) (s' : Shared) : Prop where
  ex : f = .next ∧ ∃ h' tk' o' y', s' = { s with heap := h', toks := tk' } ∧ o'.data = .cell y' ∧ Fr h₀ L h' m₀ ∧ News h₀ L h' ((I, it) :: (pre ++ (a, o') :: post))
theorem cell_end {L I a : Addr} {it o' : Obj} {y' : Option Value} {pre post l : List (Addr × Obj)} {m₀ : Str → Option Value} {h' : Heap} {tk' : Nat} (F : Fr h₀ L h' m₀) (hc : o'.data = .cell y') (N : News h₀ L h' l) (hs : ∀ p ∈ (I, it) :: (pre ++ (a, o') :: post), p ∈ l) :
    CellEnd h₀ L I a it pre post m₀ s .next { s with heap := h', toks := tk' } := ⟨rfl, h', tk', o', y', rfl, hc, F, cb_drop N hs⟩
/-- a loop over a list whose name is a cell: the turns leave all but the cell as it was -/
theorem cell_turns {L ax a : Addr} {vs : List Value} {n : Nat} {m₀ : Str → Option Value} {post : List (Addr × Obj)} {o₀ : Obj} {y₀ : Option Value} (pre : List (Addr × Obj))
    (hL : env.locals = L) (hh : A.handled = none) (F : Fr h₀ L s.heap m₀) (N : News h₀ L s.heap (pre ++ (a, o₀) :: post)) (hc : o₀.data = .cell y₀) (hm : (ax, PySem.W.listOf vs.toArray n) ∈ pre)
    (turn : ∀ v ∈ vs, ∀ I it o y h tk, o.data = .cell y → (∀ p ∈ pre ++ (a, o) :: post, p.1 ≠ I) → Fr h₀ L h m₀ → News h₀ L h ((I, it) :: (pre ++ (a, o) :: post)) →
      wpAny (model prog w) A (assign target env v) (fun _ s₂ => wpAny (model prog w) A (execs body env) (CellEnd h₀ L I a it pre post m₀ s) E s₂) E { s with heap := h, toks := tk })
    (done : ∀ o y h tk, o.data = .cell y → Fr h₀ L h m₀ → News h₀ L h (pre ++ (a, o) :: post) → Q .next { s with heap := h, toks := tk }) :
    wpAny (model prog w) A (pyIter (.ref ax)) (fun it s₂ => TurnsAt prog w A h₀ env target body Q E it s₂) E s := by
  refine list_turns (vs := vs) (n := n) (fun _ m nx => m = m₀ ∧ ∃ o y, o.data = .cell y ∧ nx = pre ++ (a, o) :: post) hL hh F N ⟨rfl, o₀, y₀, hc, rfl⟩ ?_ ?_ ?_
  · rintro i m nx ⟨_, o, y, _, rfl⟩
    exact List.mem_append.mpr (.inl hm)
  · rintro I i v m nx it h tk hv ⟨rfl, o, y, ho, rfl⟩ hne F₁ N₁
    refine wpAny_mono (turn v (List.mem_of_getElem? hv) I it o y h tk ho hne F₁ N₁) (fun _ s₂ h₂ => wpAny_mono h₂ (fun f s₃ p => ?_) fun _ _ e => e) fun _ _ e => e
    obtain ⟨rfl, h', tk', o', y', rfl, hc', F', N'⟩ := p.ex
    refine ⟨rfl, h', tk', m, _, rfl, F', N', fun p hp => ?_, rfl, o', y', hc', rfl⟩
    rcases List.mem_append.mp hp with hp | hp
    · exact hne p (List.mem_append.mpr (.inl hp))
    · rcases List.mem_cons.mp hp with e | hp
      · rw [e]; exact hne (a, o) (List.mem_append.mpr (.inr (.head _)))
      · exact hne p (List.mem_append.mpr (.inr (.tail _ hp)))
  · rintro h tk m nx ⟨rfl, o, y, ho, rfl⟩ F₁ N₁
    exact done o y h tk ho F₁ N₁
end

theorem ln_44 : True := by
  k_with "x exec For Name List cons nil" => ((k_here; (rename Fr _ _ _ _ => lF'); (with_unfolding_all refine' For_turns lF' ?_; k_whole)))
  trivial

theorem one_of3 {w : World} {stuff : List (Addr × Obj)} {v av av1 av2 : Value} {x K1 K2 K3 : Str} {W R1 R2 R3 : Addr} {us1 us2 us3 : List Value} (hv : v ∈ [Value.ref R1, .ref R2, .ref R3]) (v1 : VecAt w stuff R1 K1 us1 av1) (a1 : AttrTo w stuff av av1 x W)
    (v2 : VecAt w stuff R2 K2 us2 av2) (a2 : AttrTo w stuff av av2 x W) (v3 : VecAt w stuff R3 K3 us3 av) (a3 : AttrAt w stuff av x W) : ∃ Rm Km usm avm, v = .ref Rm ∧ VecAt w stuff Rm Km usm avm ∧ AttrTo w stuff av avm x W := by
  simp only [List.mem_cons, List.not_mem_nil, or_false] at hv
  rcases hv with rfl | rfl | rfl
  · exact ⟨_, _, _, _, rfl, v1, a1⟩
  · exact ⟨_, _, _, _, rfl, v2, a2⟩
  · exact ⟨_, _, _, _, rfl, v3, And.intro Iff.rfl a3⟩
theorem list_kqd {es : List Ent} : kqdOk 8 (.list (es.map Ent.dat)) = true := by
  have : ∀ e : Ent, kqdOk 7 e.dat = true := ent_kqd
  simp only [kqdOk, List.all_eq_true, List.mem_map]
  rintro d ⟨e, _, rfl⟩
  exact this e


theorem get_exc {prog : Program} {w : World} {A : Around} {E : Value → Shared → Prop} {s : Shared} {K : Frag} {x C : Addr} {ox od : Obj} {name : Str} {expr : Bool} {Q : Value → Shared → Prop} {h₀ : Heap} {L : Addr} {m : Str → Option Value} {v : Value} {attr : Option Value}
    (F : Fr h₀ L s.heap m) (X : K.In h₀) (I : InstAt s.heap x ox C (some od)) (hga : findIn K (.ref C) "__getattribute__" = some (some (.builtin "BaseException.__getattribute__"))) (hgg : findIn K (.ref C) "__getattr__" = some none)
    (sub : mroIn K C (.type "BaseException") = some true) (hh : hasDictIn K C = true) (ha : findIn K (.ref C) name = some attr) (hn : noGet K attr = true) (hl : lookIn name od = some (some v)) (hv : handedIn v = true) (h : Q v { s with toks := s.toks + 1 }) :
    wpAny (model prog w) A (getAttr (.ref x) name expr) Q E s := by
  have X' := X.keeps F.keep
  have hf := findObj_own hh ha hn hl
  obtain ⟨hp, g, d, t, os⟩ := s
  have L0 := I.type (M := model prog w)
  have L1 := looks_findIn (M := model prog w) X' hga
  have L2 := looks_findIn (M := model prog w) X' hgg
  have L3 := looks_find (M := model prog w) X' I hf
  have L4 := looks_mroIn (M := model prog w) X' sub
  have f3 := PySem.F.excAttr_ValueError.ga.bind (.ref x)
  have hx0 : (expr && onTheHeap (Value.builtin "BaseException.__getattribute__")) = false := by cases expr <;> rfl
  have hx2 : (Value.builtin "BaseException.__getattribute__" == Value.builtin "object.__getattribute__") = false := by decide +kernel
  have hx1 : (onTheHeap (Value.ref C) && Value.builtin "BaseException.__getattribute__" == Value.builtin "object.__getattribute__") = false := by rw [hx2]; rfl
  have hk : builtinKind "BaseException.__getattribute__" = some .slot := by decide +kernel
  have hsplit : splitId "BaseException.__getattribute__" = some ("BaseException", "__getattribute__") := by decide +kernel
  have hargs := PySem.F.args_bexc_ga (.ref x) (.str name t)
  unfold getAttr getAttrBy
  refine wpAny_bind (wpAny_mkText (wpAny_holding (wpAny_bind (L0.at (wpAny_bind (L1.at ?_))))))
  dsimp only
  rw [hx1, if_neg (by decide)]
  unfold getAttrByItsOwn hookBefore
  rw [if_pos (show onTheHeap (.ref C) = true from rfl)]
  refine wpAny_bind (L2.at (wpAny_bind (wpAny_attempt (wpAny_holding ?_))))
  unfold callGetattribute
  rw [hx0, if_neg (by decide)]
  unfold boundAndCalled
  rw [f3]
  refine wpAny_bind (wpAny_pure (wpAny_call (codeAny_call_builtin PySem.F.excAttr_ValueError.ga.plain PySem.F.entry_bexc_ga ?_)))
  simp only [checkBuiltinCall, hk, hsplit]
  refine wpAny_bind ?_
  unfold isInstance
  refine wpAny_bind (L0.at (L4.at ?_))
  have ha0 := PySem.F.args_bexc_ga (.ref x) (.str name t)
  rw [if_neg (by decide)]
  refine wpAny_bind (wpAny_pure ?_)
  repeat (first | (with_reducible refine wpAny_bind (L0.at ?_)) | (with_reducible refine wpAny_bind (L3.at ?_)) | with_reducible refine L0.at ?_ | with_reducible refine L3.at ?_ | wp_step)
  show wpAny _ _ (handedOut v) _ _ _
  rw [handedOut_of hv]
  exact wpAny_pure h
theorem ga_58 {w : World} : findIn (K39 w.params) (.ref 58) "__getattribute__" = some (some (.builtin "BaseException.__getattribute__")) := by kernel_rfl
theorem gg_58 {w : World} : findIn (K39 w.params) (.ref 58) "__getattr__" = some none := by kernel_rfl
theorem sub_58 {w : World} : mroIn (K39 w.params) 58 (.type "BaseException") = some true := by kernel_rfl


theorem c_vector {w : World} {mean : ExcName → Option Value} {mg mb : Str → Option Value} {dp un : Nat} {gd : Option (List Code)} {cn : Str} {cs : Scope} {a : Addr} {ccd : Value} {cl : List (Str × Addr)} {outer : List Env} {A₀ : Around} {base h₀ : Heap} {L : Addr} {m : Str → Option Value} {s : Shared} {Q E : Value → Shared → Prop} {news : List (Addr × Obj)}
    {K : Str} {tk : Tok} {I : Addr} (B : Below A₀ base outer h₀) (F : Fr h₀ L s.heap m) (X : (K39 w.params).In h₀) (N : News h₀ L s.heap news) (T : Top view (looseW view []) mean mg mb h₀) (hk : cs.kind = .function) (_hdp : dp + 1 < recursionLimit) (_hun : un + 100 < cLine)
    (hret : ∀ V dV t₁ t₂ t₃ t₄ t₅ h' tk', Fr h₀ L h' m → News h₀ L h' ((V, instObj 149 dV) :: (dV, vecD w t₁ t₂ t₃ t₄ t₅ (.str K tk) (.ref I) .none) :: news) → Q (.ref V) { s with heap := h', toks := tk' }) :
    wpAny (model Challenge.rw_pq1313_01.row.prog w) (ktrTop dp un gd cn cs L a ccd cl outer) (call (.ref 149) [.str K tk, .ref I]) Q E s :=
  c_vectorL B F X N T hk _hdp _hun fun V dV t₁ t₂ t₃ t₄ t₅ h' tk' F' N' _ _ => hret V dV t₁ t₂ t₃ t₄ t₅ h' tk' F' N'


section
variable {M : Model} {A : Around} {E : Value → Shared → Prop} {s : Shared} {name : Str} {scope : Scope} {L a : Addr} {cd : Value} {cl : List (Str × Addr)} {h₀ : Heap} {m : Str → Option Value} {news : List (Addr × Obj)}
theorem name_goesX {n : Str} {pos : Pos} {Q : Unit → Shared → Prop} (F : Fr h₀ L s.heap m) (N : News h₀ L s.heap news)
    (h : ∀ h' v, Fr h₀ L h' (fun x => if x = n then v else m x) → News h₀ L h' news → Q () { s with heap := h', toks := s.toks + 1 })
    (hk : scope.kind = .function := by rfl) (hl : (envX name scope L a cd cl).kindOf n = some .local := by rfl) :
    wpAny M A (do bindName (envX name scope L a cd cl) n .none; unbindBehindTheSuite (envX name scope L a cd cl) n pos) Q E s :=
  wpAny_nameGoes_keeps hl F.ns (by show (scope.kind == .class || (scope.kind == .module && L != mainGlobals)) = false; rw [hk]; rfl) fun h' v hn hs => h h' v (F.set hn hs) (N.set hs)
end
/-- behind a turn that leaves the ledger as it was -/
structure FixEnd (h₀ : Heap) (L I : Addr) (it : Obj) (news : List (Addr × Obj)) (K : (Str → Option Value) → Prop) (s : Shared) (f : Flow) (s' : Shared) : Prop where
  ex : f = .next ∧ ∃ h' tk' m', s' = { s with heap := h', toks := tk' } ∧ Fr h₀ L h' m' ∧ News h₀ L h' ((I, it) :: news) ∧ K m'
theorem fix_end {h₀ h' : Heap} {L I : Addr} {it : Obj} {news l : List (Addr × Obj)} {K : (Str → Option Value) → Prop} {s : Shared} {m' : Str → Option Value} {tk' : Nat} (F : Fr h₀ L h' m') (N : News h₀ L h' l) (hs : ∀ p ∈ (I, it) :: news, p ∈ l) (k : K m') :
    FixEnd h₀ L I it news K s .next { s with heap := h', toks := tk' } := ⟨rfl, h', tk', m', rfl, F, cb_drop N hs, k⟩
section
variable {prog : Program} {w : World} {A : Around} {E : Value → Shared → Prop} {s : Shared} {env : Env} {h₀ : Heap} {target : Expr} {body : List Stmt} {Q : Flow → Shared → Prop}
/-- a loop over a list display whose turns leave the ledger as it was -/
theorem fix_turns {L ax : Addr} {vs : List Value} {n : Nat} {m₀ : Str → Option Value} {news : List (Addr × Obj)} (K : (Str → Option Value) → Prop)
    (hL : env.locals = L) (hh : A.handled = none) (F : Fr h₀ L s.heap m₀) (N : News h₀ L s.heap news) (hm : (ax, PySem.W.listOf vs.toArray n) ∈ news) (k0 : K m₀)
    (turn : ∀ v ∈ vs, ∀ I m it h tk, K m → (∀ p ∈ news, p.1 ≠ I) → Fr h₀ L h m → News h₀ L h ((I, it) :: news) →
      wpAny (model prog w) A (assign target env v) (fun _ s₂ => wpAny (model prog w) A (execs body env) (FixEnd h₀ L I it news K s) E s₂) E { s with heap := h, toks := tk })
    (done : ∀ h tk m, K m → Fr h₀ L h m → News h₀ L h news → Q .next { s with heap := h, toks := tk }) :
    wpAny (model prog w) A (pyIter (.ref ax)) (fun it s₂ => TurnsAt prog w A h₀ env target body Q E it s₂) E s := by
  refine list_turns (vs := vs) (n := n) (fun _ m nx => K m ∧ nx = news) hL hh F N ⟨k0, rfl⟩ ?_ ?_ ?_
  · rintro i m nx ⟨_, rfl⟩
    exact hm
  · rintro I i v m nx it h tk hv ⟨k, rfl⟩ hne F₁ N₁
    refine wpAny_mono (turn v (List.mem_of_getElem? hv) I m it h tk k hne F₁ N₁) (fun _ s₂ h₂ => wpAny_mono h₂ (fun f s₃ p => ?_) fun _ _ e => e) fun _ _ e => e
    obtain ⟨rfl, h', tk', m', rfl, F', N', k'⟩ := p.ex
    exact ⟨rfl, h', tk', m', nx, rfl, F', N', hne, k', rfl⟩
  · rintro h tk m nx ⟨k, rfl⟩ F₁ N₁
    exact done h tk m k F₁ N₁
end
theorem keeps_name {m : Str → Option Value} {x : Str} {v : Value} (h : m x = some v) : ∃ m' : Str → Option Value, m = fun z => if z = x then some v else m' z :=
  ⟨m, funext fun z => by by_cases q : z = x <;> simp [q, h]⟩
theorem of_two {v x y : Value} (h : v ∈ [x, y]) : v = x ∨ v = y := by simpa using h
/-- a Vector that the two functions refuse -/
structure BadAt (w : World) (news : List (Addr × Obj)) (V : Addr) : Prop where
  ex : ∃ (K : Str) (dV I : Addr) (t₁ t₂ t₃ t₄ t₅ tk : Tok) (av : Value), (V, instObj 149 dV) ∈ news ∧ (dV, vecD w t₁ t₂ t₃ t₄ t₅ (.str K tk) (.ref I) av) ∈ news ∧ (K = Str.ofString "character" ∨ K = Str.ofString "list")
theorem bad_two {w : World} {h₀ h : Heap} {L l' V1 d1 V2 d2 I1 I2 : Addr} {lo : Obj} {x y : Addr × Obj} {t₁ t₂ t₃ t₄ t₅ tk u₁ u₂ u₃ u₄ u₅ uk : Tok} {av bv : Value}
    (N : News h₀ L h [(l', lo), (V1, instObj 149 d1), (d1, vecD w t₁ t₂ t₃ t₄ t₅ (.str (Str.ofString "list") tk) (.ref I1) av), x, (V2, instObj 149 d2), (d2, vecD w u₁ u₂ u₃ u₄ u₅ (.str (Str.ofString "character") uk) (.ref I2) bv), y]) :
    ∃ base, News h₀ L h base ∧ (l', lo) ∈ base ∧ ∀ v ∈ [Value.ref V2, .ref V1], ∃ V, v = .ref V ∧ BadAt w base V := by
  refine ⟨_, N, .head _, fun v hv => ?_⟩
  rcases of_two hv with rfl | rfl
  · exact ⟨_, rfl, ⟨_, _, _, _, _, _, _, _, _, _, .tail _ (.tail _ (.tail _ (.tail _ (.head _)))), .tail _ (.tail _ (.tail _ (.tail _ (.tail _ (.head _))))), .inl rfl⟩⟩
  · exact ⟨_, rfl, ⟨_, _, _, _, _, _, _, _, _, _, .tail _ (.head _), .tail _ (.tail _ (.head _)), .inr rfl⟩⟩

theorem ln_45 : True := by
  k_with "x bind" => ((k_here; (with_reducible show wpAny _ _ (do bindName _ _ Value.none; unbindBehindTheSuite _ _ _) _ _ _); k_dflt (refine' name_goesX (by k_asm) (by k_asm) ?_; k_whole); intro h' v' F' N'))
  k_with "x exec Try" => ((k_here; (with_reducible show wpAny _ _ (exec (Stmt.Try _ (_ :: _) _ [] _) _) _ _ _); refine wpAny_Try_except ?_; k_whole))
  k_with "x noteFrame ref" => ((k_here; k_dflt (refine' caught_D (by assumption) (by assumption) (by assumption) (by assumption) (by assumption) (by assumption) (by k_is) shape_58 rfl ?_; k_whole); intro h' tk' oe' c' d' f' F' N'; (try dsimp only); (try k_fold)))
  k_with "x getAttr ref" => ((k_here; (with_reducible show wpAny _ _ (getAttr (Value.ref _) (PySem.Str.ofString "message") _) _ _ _); k_dflt (refine' get_exc (K := K39 _) (by k_asm) (by k_asm) (inst_exc (by k_asm) (by k_mem) (by assumption) (by assumption) (by assumption) (by k_mem)) (by exact ga_58) (by exact gg_58) (by exact sub_58) (by k_is) (by k_is) (by k_is) (by exact rfl) (by k_handed) ?_; k_whole)))
  k_with "x m toTry" => (repeat' (first | (k_unfold; (try dsimp only)) | (k_end; wrow_close) | ((fail_if_success (with_reducible show wpAny _ _ (noteFrame (Value.ref _) _) _ _ _)); first | walk1 | (dsimp only; walk1) | (leave1; (try dsimp only)))))
  k_with "x call ref" => ((k_here; k_dflt (refine' c_rt_bad (by k_asm) (by k_asm) (by k_asm) (by k_asm) (by k_asm) (by first | exact rfl | assumption) (by k_extra "x m room") (by k_extra "x m units") (by k_mem) (by k_mem) (by assumption) ?_; k_whole; intro e9 t9 D9 tk9 tkm9 g9 h9 tk8 R9 U9 FG9); (try k_sweep); (try dsimp only); (try k_fold)))
  k_with "x call ref" => ((k_here; k_dflt (refine' c_st_bad (by k_asm) (by k_asm) (by k_asm) (by k_asm) (by k_asm) (by first | exact rfl | assumption) (by k_extra "x m room") (by k_extra "x m units") (by k_mem) (by k_mem) (by assumption) ?_; k_whole; intro e9 t9 D9 tk9 tkm9 g9 h9 tk8 R9 U9 FG9); (try k_sweep); (try dsimp only); (try k_fold)))
  k_with "x m toFor" => (repeat' (first | (k_unfold; (try dsimp only)) | (k_end; wrow_close) | ((fail_if_success (with_reducible show wpAny _ _ (exec (Stmt.For _ _ _ _ _) _) _ _ _)); first | walk1 | (dsimp only; walk1) | (leave1; (try dsimp only)))))
  k_with "x m vec" => ((k_here; k_dflt (refine' c_vector (by k_asm) (by k_asm) (by k_asm) (by k_asm) (by k_asm) (by first | exact rfl | assumption) (by k_extra "x m room") (by k_extra "x m units")  ?_; k_whole; intro V9 d9 t1 t2 t3 t4 t5 h9 tk9 F9 N9); (try k_sweep); (try dsimp only); (try k_fold)))
  trivial

theorem ln_46 : True := by
  k_with "x call ref" => ((k_here; k_dflt (refine' c_vectorL (by k_asm) (by k_asm) (by k_asm) (by k_asm) (by k_asm) (by first | exact rfl | assumption) (by k_extra "x m room") (by k_extra "x m units")  ?_; k_whole; intro V9 dV9 t19 t29 t39 t49 t59 h9 tk9 F9 N9 l9 l8); (try k_lt l9); (try k_lt2 l8);(try k_sweep); (try dsimp only); (try k_fold)))
  trivial
set_option maxHeartbeats 8000000 in
theorem final : PySem.Challenge.rw_pq1313_01.Holds := by
  w_on
  o_law
  o_head (kHook K39 [3, 27, 28, 37, 38, 54, 55, 57, 58, 67, 68, 74, 75, 81, 82, 88, 89, 95, 96, 102, 103, 109, 110, 116, 117, 123, 124, 132, 138, 139, 148, 149, 159, 160, 164, 165, 169, 170, 174, 175, 181, 182, 188, 189, 195, 196, 202, 203, 209, 210, 216, 217] (fun _ => by kernel_rfl))
  case hw => w_witness2
  w_top off
  show WalkO view [] (XL view []) _ _ _ _ _
  k_go0
  all_goals (try k_fold)
  k_with "table" => skip
  k_extra "x m toComp"
  rename IsRange _ _ _ _ _ _ _ _ => rg8
  rename (_ : Int) < 8 => hi8
  rename (_ : Int) < 3 => hi3
  rename ChainIs (popO (popO _)) => ch8
  rename News _ _ _ _ => N8
  generalize hK9 : List.getD _ _ _ = K at *
  have hK := kind_is (by assumption) hi3 hK9
  
  clear hK9
  refine LCg.CompSrc.range (by rfl) (by k_asm) (cb_drop N8 fun p hp => List.Mem.tail _ hp) rg8 (small_one (by omega) (by omega) (by omega) (by omega)) (range_n (by assumption)) (by rw [sizeLine_eq]; k_extra "x m size") fun g => comp_draw (KindOk K) ?hCr ?step ?fin _ ch8
  case hCr => first | k_all | done
  case step =>
    intro v oC add I oI C' oC' D ys m₂ h tk Q' E' hch hns hmx F9 N9 hC9 hret9
    k_steps
  case fin =>
    intro ys add oC es hch hda hes hlen hap D h tk F9 N9 o1
    dsimp only
    have hap' := apart_off1 (o := LCg.lst ys) o1 hap
    have hoff := offA_of hap'
    dsimp only [List.map] at hoff
    have hys : ys.length ≤ 8 := by rw [hda.length, List.length_map]; omega
    obtain ⟨stuff, hst, N10⟩ := led_norm N9
    have hD : (D, LCg.lst ys) ∈ stuff := by rw [hst]; exact .head _
    have hda' : DatAll stuff ys (es.map Ent.dat) := DatAll.mono (fun p hp => by rw [hst]; exact .tail _ hp) hda
    rw [← hst] at hoff
    simp only [List.cons_append, List.nil_append] at N10
    clear hst hda hap hap' o1 N9
    obtain ⟨m₁, F10⟩ : ∃ m₁ : Str → Option Value, Fr _ _ h (fun z => if z = Str.ofString "entries" then some (.ref D) else m₁ z) := ⟨_, F9⟩
    clear F9
    repeat ((with_reducible rename Fr _ _ _ (bindL _ _ _) => hF9); clear hF9)
    try ((with_reducible rename _ = Data.cell (bindC _ _ _ _) => hc9); obtain ⟨_, hc8⟩ := cell_out hc9; clear hc9)
    try ((with_reducible rename _ = Data.cell (bindC _ _ _ _) => hc9); obtain ⟨_, hc8⟩ := cell_out hc9; clear hc9)
    try ((with_reducible rename _ = Data.cell (bindC _ _ _ _) => hc9); obtain ⟨_, hc8⟩ := cell_out hc9; clear hc9)
    try ((with_reducible rename _ = Data.cell (bindC _ _ _ _) => hc9); obtain ⟨_, hc8⟩ := cell_out hc9; clear hc9)
    try ((with_reducible rename _ = Data.cell (bindC _ _ _ _) => hc9); obtain ⟨_, hc8⟩ := cell_out hc9; clear hc9)
    try ((with_reducible rename CellsAre _ _ _ => hc9); clear hc9)
    try ((with_reducible rename Dflts _ _ _ _ _ _ => hc9); clear hc9)
    try ((with_reducible rename Heap.CodeRec _ _ _ => hc9); clear hc9)
    k_extra "x m toIf"
    k_dflt (refine' cut_dress ?cF ?cN ?ch1 ?ch2)
    case cF => k_asm
    case cN => k_asm
    case ch1 =>
      refine with_post fun Q9 hQ9 => ?_
      k_extra "x m toComp"
      all_goals (try (
        rename IsRange _ _ _ _ _ _ _ _ => rg9
        refine LCg.CompSrc.range (by rfl) (by k_asm) (by k_asm) rg9 (small_one (by omega) (by omega) (by omega) (by omega)) range_len (by rw [sizeLine_eq]; k_extra "x m size") fun g => comp_strs ?step2 ?fin2))
      case step2 =>
        intro i v I oI C' oC' D8 ys8 m₂ h8 tk8 Q' E' hi8 hp8 hns hmx F9 N9 hret9
        obtain ⟨t8, rfl⟩ := hp8
        k_steps
        exact hret9 _ _ _ _ F9 N9
      case fin2 =>
        intro ys8 ss8 hs8 hl8
        k_extra "x m toComp"
        rename News _ _ _ _ => kN9
        refine hQ9 _ _ (And.intro rfl ?_)
        refine' dressed_some [_, _, _, _] ?dF kN9 ?dA ?dm ?dd ?dl ?d1 ?d2 ?d3 hs8 ?d4
        case dF => k_asm
        case dm => k_mem
        case dd => assumption
        case dl => assumption
        case d1 => k_mem
        case d2 => k_mem
        case d3 => k_mem
        case d4 => omega
        case dA => k_extra "x m apart3"
      · rename News _ _ _ _ => kN9
        refine hQ9 _ _ (And.intro rfl ?_)
        refine' dressed_some [_, _, _, _] ?dF kN9 ?dA ?dm ?dd ?dl ?d1 ?d2 ?d3 (show DatAll [] [Value.str (Str.ofString "m") _] ([Str.ofString "m"].map Dat.str) from .cons (.str _ _) .nil) ?d4
        case dF => k_asm
        case dm => k_mem
        case dd => assumption
        case dl => assumption
        case d1 => k_mem
        case d2 => k_mem
        case d3 => k_mem
        case d4 => exact Nat.le_of_ble_eq_true rfl
        case dA => k_extra "x m apart3"
      · rename News _ _ _ _ => kN9
        exact hQ9 _ _ (And.intro rfl (dressed_none (by k_asm) kN9))
    case ch2 =>
      intro av x W us add h' tk' F9 N9 ap9 dr9
      dsimp only
      obtain ⟨stuff2, N10, hoff2, i1, i2, i3⟩ := norm6 (pre := [_, _, _]) N9 ap9 (by k_extra "x m off") hoff
      have hV := i2 _ (.head _)
      have hdV := i2 _ (.tail _ (.head _))
      have hI := i2 _ (.tail _ (.tail _ (.head _)))
      have hD2 := i3 _ hD
      have hda2 := DatAll.mono i3 hda'
      have dr2 := dr9.mono i1
      clear i1 i2 i3 N9 ap9 dr9 hoff hD hda'
      k_dflt (refine' cut_held (Str.ofString "held") dr2 ?hF N10 ?hh1 ?hh2)
      case hF => k_asm
      case hh1 =>
        refine with_post fun Q9 hQ9 => ?_
        have hus := dr2.len
        rcases dr2.at_ with hav | ⟨AD, oAD, hav, hAD, hdo, hlo⟩
        · subst hav
          k_extra "x m toComp"
          rename News _ _ _ _ => kN9
          exact hQ9 _ _ (And.intro rfl (held_none (by k_asm) kN9))
        · subst hav
          obtain ⟨KW, avW, ⟨dW, IW, u₁, u₂, u₃, u₄, u₅, uk, cW, hW, hdW, hIW⟩⟩ := dr2.vec.resolve_left (fun h => nomatch h)
          k_extra "x m toComp"
          refine ⟨AD, oAD, x, .ref W, _, rfl, rfl, Top.nolimit (by k_asm), by k_asm, by k_asm, by k_mem, hdo, hlo, ?_⟩
          intro I oI C' oC' D8 oD8 m₂ h8 tk8 t8 E' hns hmx F8 N8
          refine with_post fun Q8 hQ8 => ?_
          k_steps
          rename News _ _ _ _ => kN9
          refine hQ8 _ _ ?_
          refine ⟨_, _, [_], rfl, by k_asm, kN9, (fun q hq p hp => by rw [List.mem_singleton.mp hp]; exact allLt_mem (by assumption) q hq), ?_⟩
          intro D5 oD5 h5 tk5 F5 N5 hd5 lo5 ne5
          k_steps
          rename News _ _ _ _ => kN8
          exact hQ9 _ _ (And.intro rfl (held_some [(D5, oD5), _] (by k_asm) kN8 (Apart.cons3 (fun q hq => ne5 q (.tail _ hq)) (Apart.cons3 (fun q hq => Nat.ne_of_lt (allLt_mem (l := (I, oI) :: (C', oC') :: (D8, oD8) :: _) (by assumption) q (.tail _ (.tail _ (.tail _ hq))))) Apart.nil)) (.head _) hd5 lo5 (.tail _ (.head _))))
      case hh2 =>
        intro hv add h' tk' F9 N9 ap9 hd9
        dsimp only
        obtain ⟨stuff3, N11, hoff3, i1, -, i3⟩ := norm6 (pre := []) N9 ap9 (by k_extra "x m off") hoff2
        have hV3 := i3 _ hV
        have hdV3 := i3 _ hdV
        have hI3 := i3 _ hI
        have hD3 := i3 _ hD2
        have hda3 := DatAll.mono i3 hda2
        have dr3 := dr2.mono i3
        have he3 := hd9.mono i1
        clear i1 i3 N9 ap9 hd9 dr2 hda2 hD2 hI hdV hV hoff2
        k_extra "x m toIf"
        have hle : es.length ≤ 8 := by omega
        have hsz : ys.toArray.size = es.length := by rw [List.size_toArray, hda3.length, List.length_map]
        refine LCg.CompSrc.ledger (by rfl) (by k_asm) N11 (by k_mem) (by rw [hsz, sizeLine_eq]; k_extra "x m size") fun g => comp_ents dbl (DatAll.mono (fun p hp => by k_mem) hda3) (fun i v h => by simpa using h) (fun add => .inr ⟨_, List.mem_append.mpr (.inr (by k_mem)), rfl, _, rfl⟩) ?step3 ?fin3 _ hsz
        case step3 =>
          intro e he v add I oI C' oC' D8 ys8 m₂ h8 tk8 Q' E' hdv hns hmx F8 N8 hret8
          obtain ⟨hke, hok⟩ := hes e he
          rcases e with _ | i | ⟨n, d⟩
          · obtain rfl := ent_na hdv
            by_cases hKd : K = Str.ofString "double"
            all_goals ((try subst hKd); k_steps; exact EntRet.same hret8 (by k_asm) (by k_asm))
          · obtain ⟨t, rfl⟩ := ent_whole hdv
            have hKd : K ≠ Str.ofString "double" := by rintro rfl; exact absurd hke (by simp [KindOk, Ent.Dbl])
            k_steps
            all_goals (rename News _ _ _ _ => kN9; exact EntRet.one hret8 (by k_asm) kN9 (allLt_mem (by assumption)))
          · obtain ⟨y8, t, u, c, rfl, hx⟩ := ent_frac hdv
            rcases hK with rfl | rfl | rfl
            · simp only [KindOk, if_neg (show ¬ Str.ofString "logical" = Str.ofString "double" by decide)] at hke
              rcases hke with h | ⟨_, h⟩ <;> cases h
            · simp only [KindOk, if_neg (show ¬ Str.ofString "integer" = Str.ofString "double" by decide)] at hke
              rcases hke with h | ⟨_, h⟩ <;> cases h
            · k_steps
              all_goals exact EntRet.same hret8 (by k_asm) (by k_asm)
        case fin3 =>
          intro ys9 add9 hd9 ap9 D9 h9 tk9 F8 N8 o8
          dsimp only
          obtain ⟨stuff4, N12, hoff4, i1, -, i3⟩ := norm6 (add := (_, _) :: add9) (pre := []) N8 (apart_off1 o8 ap9) (by k_extra "x m off") hoff3
          have hD9 := i1 _ (.head _)
          have hd4 : DatAll stuff4 ys9 ((es.map dbl).map Ent.dat) := DatAll.mono (fun p hp => (List.mem_append.mp hp).elim (fun hp => i1 _ (.tail _ hp)) (i3 _)) (ents_off (by k_extra "x m notup") (by k_extra "x m notup") (by k_extra "x m notup") (by k_extra "x m notup") (by k_extra "x m notup") (by k_extra "x m notup") hd9)
          have hV4 := i3 _ hV3
          have hdV4 := i3 _ hdV3
          have hI4 := i3 _ hI3
          have hD4 := i3 _ hD3
          have hda4 := DatAll.mono i3 hda3
          have dr4 := dr3.mono i3
          have he4 := he3.mono i3
          have hat4 := dr4.at_
          have heo : EntsOk K es := ents_of hK hes hle
          clear i1 i3 N8 ap9 hd9 o8 dr3 he3 hda3 hD3 hI3 hdV3 hV3 hoff3 N11
          k_extra "x m toIf"
          rename VecAt _ _ _ _ _ _ => vec13
          rename AttrTo _ _ _ _ _ _ => at13
          rename DatAll _ _ (List.map Ent.dat (rtE _ _ _ _ _)) => dat13
          rename Apart _ _ => ap13
          rename News _ _ _ _ => N13
          rename (_ : Int) < 13 => hi13
          rename (0 : Int) ≤ _ => lo13
          obtain ⟨stuff5, N14, hoff5, i1, i2, i3⟩ := norm6 (pre := []) N13 ap13 (by k_extra "x m off") hoff4
          have hV5 := i3 _ hV4
          have hdV5 := i3 _ hdV4
          have hI5 := i3 _ hI4
          have hD5 := i3 _ hD4
          have hda5 := DatAll.mono i3 hda4
          have dr5 := dr4.mono i3
          have he5 := he4.mono i3
          have hat5 := hat4.mono i3
          have hD59 := i3 _ hD9
          have hd5 := DatAll.mono i3 hd4
          have vec5 := vec13.mono i1
          have at5 : AttrTo _ _ _ _ _ _ := And.intro at13.1 (at13.2.mono i1)
          have dat5 : DatAll stuff5 _ _ := DatAll.mono (fun p hp => (List.mem_append.mp hp).elim (i1 _) (i3 _)) (ents_off (by k_extra "x m notup") (by k_extra "x m notup") (by k_extra "x m notup") (by k_extra "x m notup") (by k_extra "x m notup") (by k_extra "x m notup") dat13)
          clear i1 i2 i3 N13 ap13 hoff4 dat13 at13 vec13 hd4 hD9 hat4 he4 dr4 hda4 hD4 hI4 hdV4 hV4
          k_dflt (refine' cut_same ?sF N14 ?st1 ?st2)
          case sF => k_asm
          case st1 =>
            refine with_post fun Q9 hQ9 => ?_
            obtain ⟨dR, IR, r₁, r₂, r₃, r₄, r₅, rk, cR, hR, hdR, hIR⟩ := vec5.ex
            rename Int => p5
            by_cases hp : K = Str.ofString "double" ∨ p5 - 6 < 0
            · simp only [rtK, rtE, if_pos hp] at dat5 hdR
              k_extra "x m atTest"
              k_dflt (refine' cut_test false ?tt1 ?tt2)
              case tt1 =>
                refine with_post fun Q8 hQ8 => ?_
                by_cases hKd : K = Str.ofString "double"
                all_goals (
                  first
                  | subst hKd
                  | (have hp' := hp.resolve_left hKd)
                  k_steps
                  exact hQ8 _ _ ⟨rfl, _, rfl⟩)
              case tt2 =>
                intro tk5
                dsimp only
                k_extra "x m toCmp"
                rename News _ _ _ _ => N15
                have hsz9 : ys9.toArray.size = (es.map dbl).length := by rw [List.size_toArray, hd5.length, List.length_map]
                refine LCg.CompSrc.ledger (by rfl) (by k_asm) N15 (by k_mem) (by rw [hsz9, List.length_map, sizeLine_eq]; k_extra "x m size") fun g => comp_ents (rhe (p5 - 6)) (DatAll.mono (fun p hp => by k_mem) hd5) (fun i v h => by simpa using h) (fun add => .inr ⟨_, List.mem_append.mpr (.inr (by k_mem)), rfl, _, rfl⟩) ?step4 ?fin4 _ hsz9
                case step4 =>
                  intro e he v add I oI C' oC' D8 ys8 m₂ h8 tk8 Q' E' hdv hns hmx F8 N8 hret8
                  obtain ⟨hok8, hdb8⟩ := dbls_ok heo.ok e he
                  k_steps
                case fin4 =>
                  intro ys10 add10 hda10 ap10 D10 h10 tk10 F10 N10 o10
                  dsimp only
                  k_extra "x m toCmp"
                  rename News _ _ _ _ => N16
                  refine' ne_same N16 (d := .tuple [.str (Str.ofString "double"), .list (((es.map dbl).map (rhe (p5 - 6))).map Ent.dat)]) ?qa ?qb ?qo ?qu ?_
                  case qa => exact datin_tuple (by k_mem) (.str _ _) (datin_list (by k_mem) dat5 (fun p hp => by k_mem))
                  case qb => exact datin_tuple (by k_mem) (.str _ _) (datin_list (by k_mem) hda10 (fun p hp => by k_mem))
                  case qo => exact pair_kqd (by decide +kernel)
                  case qu => first | k_extra "x m units" | ke_room
                  k_steps
                  all_goals exact hQ9 _ _ (same_end (by k_asm) N16 (fun p hp => by k_mem))
            · simp only [rtK, rtE, if_neg hp] at dat5 hdR
              obtain ⟨hp1, hp2⟩ := not_or.mp hp
              all_goals (
                k_extra "x m toCmp"
                rename News _ _ _ _ => N16
                refine' ne_same N16 (d := .tuple [.str (Str.ofString "integer"), .list (es.map Ent.dat)]) ?qa ?qb ?qo ?qu ?_
                case qa => exact datin_tuple (by k_mem) (.str _ _) (datin_list (by k_mem) dat5 (fun p hp => by k_mem))
                case qb => exact datin_tuple (by k_mem) (.str _ _) (datin_list (by k_mem) hda5 (fun p hp => by k_mem))
                case qo => exact pair_kqd (by decide +kernel)
                case qu => first | k_extra "x m units" | ke_room
                k_steps
                all_goals exact hQ9 _ _ (same_end (by k_asm) N16 (fun p hp => by k_mem)))
          case st2 =>
            intro h' tk' F9 N9
            dsimp only
            k_extra "x m toLoop"
            rename VecAt _ _ _ (rtK _ _ 10) _ _ => vec20
            rename AttrTo _ (_ : List (Addr × Obj)) _ _ _ _ => at20
            rename DatAll _ _ (List.map Ent.dat (rtE _ _ _ _ 10)) => dat20
            rename Apart _ _ => ap20
            rename News _ _ _ _ => N20
            rename (_ : Int) < 11 => hi20
            rename (0 : Int) ≤ _ => lo20
            rename (∀ p : Addr × Obj, p ∈ _ → p.1 < _) => l20
            try clear F9
            try clear N9
            try clear N14
            rename Int => q20
            k_dflt (refine' due_loop (sgf (1 + q20)) ?dh ?dl ?dF N20 ?dD hd5 ?ds ?d8 ?turn ?done)
            case dh => rfl
            case dl => k_mem
            case dF => k_asm
            case dD => exact fun p hp => Nat.ne_of_lt (l20 p hp)
            case ds => exact fun p hp => by k_mem
            case d8 => rw [List.length_map]; exact hle
            case turn =>
              intro e he v ws k rest h8 tk8 Q' hws hdv hne F8 N8 hret8
              obtain ⟨hok, hdb⟩ := dbls_ok heo.ok e he
              rcases e with _ | i | ⟨n, d⟩
              · obtain rfl := ent_na hdv
                k_steps
                rename News _ _ _ _ => kN9
                exact hret8 _ [] _ _ _ (by k_asm) kN9 Apart.nil (.inl ⟨rfl, rfl⟩)
              · exact hdb.elim
              · obtain ⟨y8, t, u, c, rfl, hx⟩ := ent_frac hdv
                obtain ⟨hb1, hb2, hb3⟩ := hok
                by_cases hz : 0 < d ∧ n ≠ 0
                · obtain ⟨hz1, hz2⟩ := hz
                  k_steps
                  all_goals (try (exfalso; omega; done))
                  rename News _ _ _ _ => kN9
                  rename (∀ p : Addr × Obj, p ∈ (_, PySem.W.listOf _ _) :: _ → p.1 < _) => l9
                  refine hret8 _ _ _ _ _ (by k_asm) (news_swap kN9) (apart_one (p := (_, _)) l9) (.inr ?_)
                  rw [← sgf_eq hz1 hz2]
                  simp only [rhe, if_pos hz1]
                  exact ent_of_frac (.head _)
                · have hz' : d = 0 ∨ n = 0 := by omega
                  rcases hz' with rfl | rfl
                  all_goals (
                    k_steps
                    all_goals (try (exfalso; omega; done))
                    all_goals (
                      rename News _ _ _ _ => kN9
                      exact hret8 _ [] _ _ _ (by k_asm) kN9 Apart.nil (.inl ⟨rfl, sgf_stay hz⟩)))
            case done =>
              intro ws k add mv h8 tk8 hda20 ap21 F20 N21
              dsimp only [envOfC] at F20 N21
              dsimp only
              k_extra "x m toIf"
              obtain ⟨stuff6, N22, hoff6, mdue, i1, i2, i3⟩ := norm_due N21 ap21 l20 ap20 hoff5
              have hV6 := i3 _ hV5
              have hdV6 := i3 _ hdV5
              have hI6 := i3 _ hI5
              have hD6 := i3 _ hD5
              have hda6 := DatAll.mono i3 hda5
              have dr6 := dr5.mono i3
              have he6 := he5.mono i3
              have hat6 := hat5.mono i3
              have vec6 := vec5.mono i3
              have at6 : AttrTo _ _ _ _ _ _ := And.intro at5.1 (at5.2.mono i3)
              have vec26 := vec20.mono i2
              have at26 : AttrTo _ _ _ _ _ _ := And.intro at20.1 (at20.2.mono i2)
              have dat26 : DatAll stuff6 _ _ := DatAll.mono (fun p hp => (List.mem_append.mp hp).elim (i2 _) (i3 _)) (ents_off (by k_extra "x m notup") (by k_extra "x m notup") (by k_extra "x m notup") (by k_extra "x m notup") (by k_extra "x m notup") (by k_extra "x m notup") dat20)
              rw [← List.append_assoc] at hda20
              have due26 : DatAll stuff6 _ _ := DatAll.mono (fun p hp => (List.mem_append.mp hp).elim (fun hp => (List.mem_append.mp hp).elim (i1 _) (i2 _)) (i3 _)) (ents_off (by k_extra "x m notup") (by k_extra "x m notup") (by k_extra "x m notup") (by k_extra "x m notup") (by k_extra "x m notup") (by k_extra "x m notup") hda20)
              clear i1 i2 i3 N21 ap21 l20 ap20 hoff5 dat20 hda20 at20 vec20 at5 vec5 hat5 he5 dr5 hda5 hD5 hI5 hdV5 hV5 dat5 hd5 hD59
              k_dflt (refine' cut_same ?uF N22 ?tst2 ?rest2)
              case uF => k_asm
              case tst2 =>
                refine with_post fun Q9 hQ9 => ?_
                obtain ⟨dR, IR, r₁, r₂, r₃, r₄, r₅, rk, cR, hR, hdR, hIR⟩ := vec26.ex
                by_cases hp : K = Str.ofString "double" ∨ 1 + q20 < 10
                · simp only [rtK, rtE, if_pos hp] at dat26 hdR
                  k_extra "x m atTest"
                  k_dflt (refine' cut_test false ?tt1 ?tt2)
                  case tt1 =>
                    refine with_post fun Q8 hQ8 => ?_
                    by_cases hKd : K = Str.ofString "double"
                    all_goals (
                      first
                      | subst hKd
                      | (have hp' := hp.resolve_left hKd)
                      k_steps
                      exact hQ8 _ _ ⟨rfl, _, rfl⟩)
                  case tt2 =>
                    intro tk5
                    dsimp only
                    k_extra "x m toCmp"
                    rename News _ _ _ _ => N16
                    refine' ne_same N16 (d := .tuple [.str (Str.ofString "double"), .list (((es.map dbl).map (sgf (1 + q20))).map Ent.dat)]) ?qa ?qb ?qo ?qu ?_
                    case qa => exact datin_tuple (by k_mem) (.str _ _) (datin_list (by k_mem) dat26 (fun p hp => by k_mem))
                    case qb => exact datin_tuple (by k_mem) (.str _ _) (datin_list (by k_mem) due26 (fun p hp => by k_mem))
                    case qo => exact pair_kqd (by decide +kernel)
                    case qu => first | k_extra "x m units" | ke_room
                    k_steps
                    all_goals exact hQ9 _ _ (same_end (by k_asm) N16 (fun p hp => by k_mem))
                · simp only [rtK, rtE, if_neg hp] at dat26 hdR
                  obtain ⟨hp1, hp2⟩ := not_or.mp hp
                  all_goals (
                    k_extra "x m toCmp"
                    rename News _ _ _ _ => N16
                    refine' ne_same N16 (d := .tuple [.str (Str.ofString "integer"), .list (es.map Ent.dat)]) ?qa ?qb ?qo ?qu ?_
                    case qa => exact datin_tuple (by k_mem) (.str _ _) (datin_list (by k_mem) dat26 (fun p hp => by k_mem))
                    case qb => exact datin_tuple (by k_mem) (.str _ _) (datin_list (by k_mem) hda6 (fun p hp => by k_mem))
                    case qo => exact pair_kqd (by decide +kernel)
                    case qu => first | k_extra "x m units" | ke_room
                    k_steps
                    all_goals exact hQ9 _ _ (same_end (by k_asm) N16 (fun p hp => by k_mem)))
              case rest2 =>
                intro h' tk' F9 N9
                dsimp only
                clear N22 F20
                k_extra "x m toLoop"
                rename News _ _ _ _ => N30
                k_dflt (refine' cell_turns (vs := [_, _, _]) [_, _] ?tL rfl ?tF N30 hc8 (.head _) ?tTurn ?tDone)
                case tL => rfl
                case tF => k_asm
                case tTurn =>
                  intro v hv I it o y h tk ho hne F9 N9
                  refine with_post2 fun Q9 hQ9 => ?_
                  obtain ⟨Rm, Km, usm, avm, rfl, vecM, atM⟩ := one_of3 hv vec6 at6 vec26 at26 (VecAt.mk ⟨_, _, _, _, _, _, _, _, _, hV6, hdV6, hI6⟩) hat6
                  simp only [List.cons_append, List.nil_append] at N9 hne
                  have hI9 := hne (_, o) (.tail _ (.tail _ (.head _)))
                  dsimp only at hI9
                  have hI8 := Ne.symm hI9
                  clear hne
                  k_extra "x m toIf"
                  obtain ⟨dR, IR, r₁, r₂, r₃, r₄, r₅, rk, cR, hR, hdR, hIR⟩ := vecM.ex
                  rcases he6.ex with ⟨hn, hvn⟩ | ⟨⟨AD0, hav0⟩, HD, oH, IH, cH, hvH, hHD, hHo, hHl, hIH⟩
                  · have hn' := atM.1.mp hn
                    subst hvn
                    rw [hn'] at hdR
                    k_steps
                    all_goals (rename News _ _ _ _ => kN9; exact hQ9 _ _ (cell_end (by k_asm) (by assumption) kN9 (fun p hp => by k_mem)))
                  · rcases atM.2 with h0 | ⟨AD, oAD, hav, hAD, hdo, hlo⟩
                    · exact absurd (hav0.symm.trans (atM.1.mpr h0)) (fun h => nomatch h)
                    · rw [hav] at hdR
                      subst hvH
                      obtain ⟨KW, avW, ⟨dW, IW, u₁, u₂, u₃, u₄, u₅, uk, cW, hW, hdW, hIW⟩⟩ := dr6.vec.resolve_left (fun h => nomatch (hav0.symm.trans h))
                      have hus := dr6.len
                      k_extra "x m toCmp"
                      refine ⟨AD, oAD, x, .ref W, _, rfl, rfl, Top.nolimit (by k_asm), by k_asm, by k_asm, by k_mem, hdo, hlo, ?_⟩
                      intro I oI C' oC' D8 oD8 m₂ h8 tk8 t8 E' hns hmx F8 N8
                      refine with_post fun Q8 hQ8 => ?_
                      k_steps
                      rename News _ _ _ _ => kN9
                      refine hQ8 _ _ ?_
                      refine ⟨_, _, [_], rfl, by k_asm, kN9, (fun q hq p hp => by rw [List.mem_singleton.mp hp]; exact allLt_mem (by assumption) q hq), ?_⟩
                      intro D5 oD5 h5 tk5 F5 N5 hd5 lo5 ne5
                      k_extra "x m toCmp"
                      rename News _ _ _ _ => kN8
                      refine' ne_held kN8 ?qa hd5 lo5 ?qb hHo hHl ?qc ?qd ?qe ?qf ?_
                      case qa => k_mem
                      case qb => k_mem
                      case qc => k_mem
                      case qd => k_mem
                      case qe => first | ktr_units | ke_room
                      case qf => first | ktr_units | ke_room
                      k_steps
                      all_goals (rename News _ _ _ _ => kN9; exact hQ9 _ _ (cell_end (by k_asm) (by assumption) kN9 (fun p hp => by k_mem)))
                case tDone =>
                  intro o y h tk ho F9 N9
                  simp only [List.cons_append, List.nil_append] at N9
                  dsimp only
                  clear N30
                  k_extra "x m toCmp"
                  rename News _ _ _ _ => N16
                  refine' ne_same N16 (d := .list (es.map Ent.dat)) ?qa ?qb list_kqd ?qu ?_
                  case qa => exact datin_list (by k_mem) hda6 (fun p hp => by k_mem)
                  case qb => exact datin_list (n := ys.length) (vs := ys) (by k_mem) hda6 (fun p hp => by k_mem)
                  case qu => first | k_extra "x m units" | ke_room
                  k_extra "x m toFor"
                  rename News _ _ _ _ => N16
                  have N41 : News _ _ _ [] := cb_drop N16 (fun p hp => nomatch hp)
                  clear N16
                  clear hc8
                  clear ho
                  iterate 3 (try clear hV6 hdV6 hI6 hD6 hda6)
                  try clear vec6 at6
                  try clear vec26 at26 dat26 due26
                  try clear hat6
                  try clear he6
                  try clear dr6
                  try clear hes
                  try clear heo
                  try clear hK
                  k_extra "x m toVec"
                  k_extra "x m vec"
                  k_extra "x m toVec"
                  k_extra "x m vec"
                  k_extra "x m toLoop"
                  rename News _ _ _ _ => N40
                  obtain ⟨base9, N50, hl50, hb50⟩ := bad_two N40
                  clear N40
                  k_dflt (refine' fix_turns (vs := [_, _]) (fun _ => True) ?oL rfl ?oF N50 ?oM trivial ?oT ?oD)
                  case oL => rfl
                  case oF => k_asm
                  case oM => exact hl50
                  case oT =>
                    clear N50
                    intro v hv I m9 it h tk _ hne F9 N9
                    refine with_post2 fun Q9 hQ9 => ?_
                    obtain ⟨V9, rfl, bad9⟩ := hb50 v hv
                    obtain ⟨K9, dV9, I9, t91, t92, t93, t94, t95, tk9, av9, hV9, hd9, hK9⟩ := bad9.ex
                    k_extra "x m toLoop"
                    rename News _ _ _ _ => N60
                    k_dflt (refine' fix_turns (vs := [_, _]) (fun m => m (Str.ofString "wrong") = some (.ref V9)) ?iL rfl ?iF N60 ?iM ?i0 ?iT ?iD)
                    case iL => rfl
                    case iF => k_asm
                    case iM => exact .head _
                    case i0 => rfl
                    case iT =>
                      clear N60
                      intro v hv I8 m8 it8 h8 tk8 hm8 hne8 F8 N8
                      refine with_post2 fun Q8 hQ8 => ?_
                      obtain ⟨m7, rfl⟩ := keeps_name hm8
                      rcases of_two hv with rfl | rfl
                      all_goals (
                        k_extra "x m toTry"
                        walk_at "noteFrame ref"
                        k_steps
                        rename News _ _ _ _ => kN9
                        rename Fr _ _ _ _ => kF9
                        exact hQ8 _ _ (fix_end kF9 kN9 (fun p hp => .tail _ (.tail _ hp)) rfl))
                    case iD =>
                      intro h8 tk8 m8 hm8 F8 N8
                      dsimp only
                      k_steps
                      exact hQ9 _ _ (fix_end F8 N8 (fun p hp => .tail _ hp) trivial)
                  case oD =>
                    intro h tk m9 _ F9 N9
                    dsimp only
                    k_steps


end Mine
set_option maxRecDepth 100000 in
set_option maxHeartbeats 8000000 in
theorem PySem.Challenge.cw_pq1313_01_holds : PySem.Challenge.rw_pq1313_01.Holds := by
  exact Mine.final
