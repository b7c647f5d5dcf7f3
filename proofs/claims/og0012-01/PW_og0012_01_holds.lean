import PyProof.Rows.All
import Wide.All
import OpenK.AllK
import Wide.FinOn
import PySem.Challenge.RW_og0012_01
set_option Elab.async false
set_option compiler.extract_closed false
set_option hygiene false in
local macro_rules | `(tactic| walk_at "MEM") => `(tactic| (first | assumption | grind [upd, Grow]))
set_option hygiene false in
local macro_rules | `(tactic| walk_at "NE2") => `(tactic| (repeat' (first | refine List.forall_mem_cons.mpr ⟨⟨by dsimp only; decide, by dsimp only; decide⟩, ?_⟩ | exact List.forall_mem_nil _)))
set_option hygiene false in
local macro_rules | `(tactic| walk_at "WEAK") => `(tactic| (repeat' (first | refine List.forall_mem_cons.mpr ⟨rfl, ?_⟩ | exact List.forall_mem_nil _)))
set_option hygiene false in
local macro_rules | `(tactic| walk_at "STEP") => `(tactic| (first | (with_reducible (first | refine sts_cons ?_ | refine st_ret ?_ | refine as_name ?_ | refine ass_nil ?_ | refine as_attr ?_ | refine as_sub ?_ | refine ev_int ?_ | refine ev_str ?_ | refine ev_bool ?_ | refine ev_none ?_ | refine ev_binop ?_ | refine ev_unop ?_ | refine ev_sub ?_ | refine evs_nil ?_ | refine tst_not ?_ | refine tst_bool ?_ | refine tsts_and ?_ | refine tsts_or ?_ | refine tsts_and_nil ?_ | refine tsts_or_nil ?_ | refine tru_bool ?_ | refine bin_add ?_ | refine bin_sub ?_ | refine cmp_lt ?_ | refine cmp_gt ?_ | refine cmp_le ?_ | refine cmp_ge ?_ | refine cmp_eq ?_ | refine cmp_ne ?_ | refine cmp_eqS ?_ | refine cmp_neS ?_ | refine ifs_nil ?_ | refine iteT ?_ | refine iteF ?_)) | ((with_reducible show Sts _ _ _ _ _ _ _ _); refine sts_cons ?_) | ((with_reducible refine' st_assign ?_ ?_ ?_ ?_); (case refine'_2 => rfl); (case refine'_3 => rfl); (case refine'_4 => rfl)) | ((with_reducible refine' st_expr ?_ ?_); (case refine'_2 => rfl)) | ((with_reducible refine' ass_cons ?_ ?_); (case refine'_2 => rfl)) | ((with_reducible refine' sto_local ?_ ?_); (case refine'_1 => with_reducible assumption)) | ((with_reducible refine' sto_cell ?_ ?_ ?_); (case refine'_1 => with_reducible assumption); (case refine'_2 => rfl)) | ((with_reducible refine' ev_local ?_ ?_ ?_ ?_); (case refine'_2 => first | with_reducible assumption | rfl); (case refine'_3 => with_reducible assumption); (case refine'_5 => decide)) | ((with_reducible refine' ev_cell ?_ ?_ ?_ ?_); (case refine'_2 => first | with_reducible assumption | rfl); (case refine'_3 => with_reducible assumption); (case refine'_5 => decide)) | ((with_reducible refine' ev_cmp ?_ ?_); (case refine'_2 => with_unfolding_all rfl)) | ((with_reducible refine' evs_cons ?_ ?_); (case refine'_2 => rfl)) | ((with_reducible refine' tst_cmp ?_ ?_); (case refine'_2 => with_unfolding_all rfl)) | ((with_reducible refine' tst_val ?_ ?_); (case refine'_2 => (intro _ _; rfl))) | ((with_reducible refine' ev_attr ?_ ?_); (case refine'_2 => rfl))))
set_option hygiene false in
local macro_rules | `(tactic| walk_at "GO") => `(tactic| (repeat (first | walk_at "STEP" | ((with_reducible refine st_if ?_)))))
set_option hygiene false in
local macro_rules | `(tactic| walk_at "GON") => `(tactic| (repeat walk_at "STEP"))
section
-- H1
set_option Elab.async false
set_option maxRecDepth 100000
set_option maxHeartbeats 8000000
set_option autoImplicit false
set_option linter.unusedVariables false
namespace Mine
open PySem PySem.W PySem.Calls PyProof.Rows
/-- the run of the top, on a tree -/
noncomputable def runT (tb : String → Option Builtin) (p : Program) (w : World) (n₀ : Nat) (ann : Option Value) : Nat → SharedT → Thread → Option SharedT
  | 0, _, _ => none
  | n + 1, s, t => match through t with
    | true => some s
    | false => match stepOk n₀ ann t with
      | false => none
      | true => match stepT (denote tb) p w s t with
        | some (s', t') => runT tb p w n₀ ann n s' t'
        | none => none
theorem runT_top {tb : String → Option Builtin} {p : Program} {w : World} {n₀ : Nat} {ann : Option Value} : ∀ (n : Nat) (s s' : SharedT) (t : Thread), runT tb p w n₀ ann n s t = some s' → topRun tb p w n₀ ann n s.abs t = some s'.abs
  | 0, _, _, _, h => by cases h
  | n + 1, s, s', t, h => by
    unfold runT at h
    unfold topRun
    cases ht : through t with
    | true => rw [ht] at h; cases h; rfl
    | false =>
      rw [ht] at h
      cases hk : stepOk n₀ ann t with
      | false => rw [hk] at h; cases h
      | true =>
        rw [hk] at h
        cases hs : stepT (denote tb) p w s t with
        | none => rw [hs] at h; cases h
        | some r =>
          obtain ⟨s₂, t₂⟩ := r
          rw [hs] at h
          dsimp only at h ⊢
          rw [stepT_spec hs]
          exact runT_top n s₂ s' t₂ h
noncomputable abbrev pw : Program := PySem.Challenge.pw_og0012_01
noncomputable def dof : Option Stmt → Arguments × List Stmt × Scope
  | some (.FunctionDef _ a b _ _ _ s _ _ _) => (a, b, s)
  | _ => (⟨[], [], none, [], [], none, []⟩, [], default)
noncomputable def cof : Option Stmt → List Stmt
  | some (.ClassDef _ _ _ b _ _ _ _ _ _ _) => b
  | _ => []
noncomputable def topDef (i : Nat) : Arguments × List Stmt × Scope := dof (PySem.Challenge.pw_og0012_01.main.body[i]?)
noncomputable def methDef (i j : Nat) : Arguments × List Stmt × Scope := dof ((cof (PySem.Challenge.pw_og0012_01.main.body[i]?))[j]?)
noncomputable def en (P : Params) (x : Str) (t : Nat) (v : Value) : DictEntry := ⟨PyData.keyHash P x, .str x t, v⟩
noncomputable def ge_0 (P : Params) : DictEntry := en P "__name__" 165 (.str "law_og0012_01" 756)
noncomputable def ge_1 (P : Params) : DictEntry := en P "__doc__" 166 .none
noncomputable def ge_2 (P : Params) : DictEntry := en P "__package__" 167 .none
noncomputable def ge_3 (P : Params) : DictEntry := en P "__loader__" 168 (.builtin "__main__.__loader__#opaque")
noncomputable def ge_4 (P : Params) : DictEntry := en P "__spec__" 169 .none
noncomputable def ge_5 (P : Params) : DictEntry := en P "__annotations__" 170 (.ref 6)
noncomputable def ge_6 (P : Params) : DictEntry := en P "__builtins__" 171 (.ref 4)
noncomputable def ge_7 (P : Params) : DictEntry := en P "__file__" 173 (.str "/claim/cut.py" 172)
noncomputable def ge_8 (P : Params) : DictEntry := en P "__cached__" 174 .none
noncomputable def ge_9 (P : Params) : DictEntry := en P "_wall" 193 (.ref 21)
noncomputable def ge_10 (P : Params) : DictEntry := en P "size_of" 208 (.ref 28)
noncomputable def ge_11 (P : Params) : DictEntry := en P "Var" 262 (.ref 66)
noncomputable def ge_12 (P : Params) : DictEntry := en P "Lit" 316 (.ref 108)
noncomputable def ge_13 (P : Params) : DictEntry := en P "App" 369 (.ref 148)
noncomputable def ge_14 (P : Params) : DictEntry := en P "Lam" 423 (.ref 190)
noncomputable def ge_15 (P : Params) : DictEntry := en P "Con" 476 (.ref 230)
noncomputable def ge_16 (P : Params) : DictEntry := en P "Prim" 529 (.ref 270)
noncomputable def ge_17 (P : Params) : DictEntry := en P "base_of" 539 (.ref 281)
noncomputable def ge_18 (P : Params) : DictEntry := en P "Fresh" 588 (.ref 314)
noncomputable def ge_19 (P : Params) : DictEntry := en P "Walker" 663 (.ref 363)
noncomputable def ge_20 (P : Params) : DictEntry := en P "strong_groups" 669 (.ref 372)
noncomputable def ge_21 (P : Params) : DictEntry := en P "is_atom" 678 (.ref 379)
noncomputable def ge_22 (P : Params) : DictEntry := en P "used_names" 690 (.ref 386)
noncomputable def ge_23 (P : Params) : DictEntry := en P "recursive_names" 698 (.ref 391)
noncomputable def ge_24 (P : Params) : DictEntry := en P "arities_of" 704 (.ref 396)
noncomputable def ge_25 (P : Params) : DictEntry := en P "cells_of" 710 (.ref 401)
noncomputable def ge_26 (P : Params) : DictEntry := en P "TopFunctions" 755 (.ref 425)
noncomputable def ge_27 (P : Params) : DictEntry := en P "_law_pool" 768 (.ref 436)
noncomputable def ge_28 (P : Params) : DictEntry := en P "_law_take" 777 (.ref 443)
noncomputable def ge_29 (P : Params) : DictEntry := en P "_law_one" 785 (.ref 450)
noncomputable def ge_30 (P : Params) : DictEntry := en P "_law_body" 797 (.ref 457)
noncomputable def ge_31 (P : Params) : DictEntry := en P "_law_top" 803 (.ref 462)
noncomputable def ge_32 (P : Params) : DictEntry := en P "_law_named" 813 (.ref 469)
noncomputable def ge_33 (P : Params) : DictEntry := en P "_law_led" 825 (.ref 476)
noncomputable def ge_34 (P : Params) : DictEntry := en P "_law_many" 831 (.ref 481)
noncomputable def ge_35 (P : Params) : DictEntry := en P "law" 837 (.ref 486)
noncomputable def ko_3 (P : Params) : Obj := ⟨(.type "dict"), none, (.dict (List.toArray [ge_0 P, ge_1 P, ge_2 P, ge_3 P, ge_4 P, ge_5 P, ge_6 P, ge_7 P, ge_8 P, ge_9 P, ge_10 P, ge_11 P, ge_12 P, ge_13 P, ge_14 P, ge_15 P, ge_16 P, ge_17 P, ge_18 P, ge_19 P, ge_20 P, ge_21 P, ge_22 P, ge_23 P, ge_24 P, ge_25 P, ge_26 P, ge_27 P, ge_28 P, ge_29 P, ge_30 P, ge_31 P, ge_32 P, ge_33 P, ge_34 P, ge_35 P]) 36), #[]⟩
noncomputable def ko_27 (P : Params) : Obj := ⟨(.type "code"), none, (.fields #[(.str "size_of" 196), (.str "size_of" 197), (.str "/claim/cut.py" 198), (.int 5 0), (.int 2 0), (.int 0 0), (.int 0 0), (.int 3 0), (.ref 22), (.bool true), (.int 181 0), (.ref 23), .none, (.ref 24), (.ref 25), (.ref 26), (.int 206 0), (.int 5 0), (.str "/claim/cut.py" 207)]), #[]⟩
noncomputable def ko_28 (P : Params) : Obj := ⟨(.type "function"), none, (.func (fnOf "size_of" "size_of" (topDef 2).1 (topDef 2).2.1 (topDef 2).2.2 .none .none .none (.str "lazycore.core_walk" 194) none (.ref 27) .none)), #[]⟩
noncomputable def ko_41 (P : Params) : Obj := ⟨(.type "code"), none, (.fields #[(.str "__init__" 223), (.str "Var.__init__" 224), (.str "/claim/cut.py" 225), (.int 16 0), (.int 2 0), (.int 0 0), (.int 0 0), (.int 3 0), (.ref 36), (.bool true), (.int 181 0), (.ref 37), .none, (.ref 38), (.ref 39), (.ref 40), (.int 228 0), (.int 16 0), (.str "/claim/cut.py" 229)]), #[]⟩
noncomputable def ko_42 (P : Params) : Obj := ⟨(.type "function"), none, (.func (fnOf "__init__" "Var.__init__" (methDef 4 0).1 (methDef 4 0).2.1 (methDef 4 0).2.2 .none .none .none (.str "lazycore.core" 209) none (.ref 41) .none)), #[]⟩
noncomputable def ko_55 (P : Params) : Obj := ⟨(.type "code"), none, (.fields #[(.str "parts" 238), (.str "Var.parts" 239), (.str "/claim/cut.py" 240), (.int 22 0), (.int 1 0), (.int 0 0), (.int 0 0), (.int 3 0), (.ref 50), (.bool true), (.int 181 0), (.ref 51), .none, (.ref 52), (.ref 53), (.ref 54), (.int 242 0), (.int 22 0), (.str "/claim/cut.py" 243)]), #[]⟩
noncomputable def ko_56 (P : Params) : Obj := ⟨(.type "function"), none, (.func (fnOf "parts" "Var.parts" (methDef 4 2).1 (methDef 4 2).2.1 (methDef 4 2).2.2 .none .none .none (.str "lazycore.core" 209) none (.ref 55) .none)), #[]⟩
noncomputable def ko_65 (P : Params) : Obj := ⟨(.type "dict"), none, (.dict (List.toArray [en P "__module__" 218 (.str "lazycore.core" 209), en P "__firstlineno__" 222 (.int 14 221), en P "__init__" 230 (.ref 42), en P "groups" 237 (.ref 49), en P "parts" 244 (.ref 56), en P "rebuilt" 253 (.ref 63), en P "__static_attributes__" 255 (.ref 64), en P "__dict__" 257 (.ref 67), en P "__weakref__" 259 (.ref 68), en P "__doc__" 260 .none]) 4), #[]⟩
noncomputable def ko_66 (P : Params) : Obj := ⟨(.type "type"), none, (.cls ⟨"Var", [(.type "object")], [(.ref 66), (.type "object")], 65, "Var", true, [], [], false, none, false⟩), #[none, none, some (.str "Var" 211), some (.str "Var" 219), some (.builtin "object.__new__"), some (.bool true)]⟩
noncomputable def ko_83 (P : Params) : Obj := ⟨(.type "code"), none, (.fields #[(.str "__init__" 275), (.str "Lit.__init__" 276), (.str "/claim/cut.py" 277), (.int 29 0), (.int 3 0), (.int 0 0), (.int 0 0), (.int 3 0), (.ref 78), (.bool true), (.int 181 0), (.ref 79), .none, (.ref 80), (.ref 81), (.ref 82), (.int 281 0), (.int 29 0), (.str "/claim/cut.py" 282)]), #[]⟩
noncomputable def ko_84 (P : Params) : Obj := ⟨(.type "function"), none, (.func (fnOf "__init__" "Lit.__init__" (methDef 5 0).1 (methDef 5 0).2.1 (methDef 5 0).2.2 .none .none .none (.str "lazycore.core" 209) none (.ref 83) .none)), #[]⟩
noncomputable def ko_97 (P : Params) : Obj := ⟨(.type "code"), none, (.fields #[(.str "parts" 291), (.str "Lit.parts" 292), (.str "/claim/cut.py" 293), (.int 36 0), (.int 1 0), (.int 0 0), (.int 0 0), (.int 3 0), (.ref 92), (.bool true), (.int 181 0), (.ref 93), .none, (.ref 94), (.ref 95), (.ref 96), (.int 295 0), (.int 36 0), (.str "/claim/cut.py" 296)]), #[]⟩
noncomputable def ko_98 (P : Params) : Obj := ⟨(.type "function"), none, (.func (fnOf "parts" "Lit.parts" (methDef 5 2).1 (methDef 5 2).2.1 (methDef 5 2).2.2 .none .none .none (.str "lazycore.core" 209) none (.ref 97) .none)), #[]⟩
noncomputable def ko_107 (P : Params) : Obj := ⟨(.type "dict"), none, (.dict (List.toArray [en P "__module__" 270 (.str "lazycore.core" 209), en P "__firstlineno__" 274 (.int 27 273), en P "__init__" 283 (.ref 84), en P "groups" 290 (.ref 91), en P "parts" 297 (.ref 98), en P "rebuilt" 306 (.ref 105), en P "__static_attributes__" 309 (.ref 106), en P "__dict__" 311 (.ref 109), en P "__weakref__" 313 (.ref 110), en P "__doc__" 314 .none]) 4), #[]⟩
noncomputable def ko_108 (P : Params) : Obj := ⟨(.type "type"), none, (.cls ⟨"Lit", [(.type "object")], [(.ref 108), (.type "object")], 107, "Lit", true, [], [], false, none, false⟩), #[none, none, some (.str "Lit" 263), some (.str "Lit" 271), some (.builtin "object.__new__"), some (.bool true)]⟩
noncomputable def ko_125 (P : Params) : Obj := ⟨(.type "code"), none, (.fields #[(.str "__init__" 329), (.str "App.__init__" 330), (.str "/claim/cut.py" 331), (.int 43 0), (.int 3 0), (.int 0 0), (.int 0 0), (.int 3 0), (.ref 120), (.bool true), (.int 181 0), (.ref 121), .none, (.ref 122), (.ref 123), (.ref 124), (.int 335 0), (.int 43 0), (.str "/claim/cut.py" 336)]), #[]⟩
noncomputable def ko_126 (P : Params) : Obj := ⟨(.type "function"), none, (.func (fnOf "__init__" "App.__init__" (methDef 6 0).1 (methDef 6 0).2.1 (methDef 6 0).2.2 .none .none .none (.str "lazycore.core" 209) none (.ref 125) .none)), #[]⟩
noncomputable def ko_137 (P : Params) : Obj := ⟨(.type "code"), none, (.fields #[(.str "parts" 345), (.str "App.parts" 346), (.str "/claim/cut.py" 347), (.int 50 0), (.int 1 0), (.int 0 0), (.int 0 0), (.int 3 0), (.ref 134), (.bool true), (.int 181 0), (.ref 135), .none, .none, .none, (.ref 136), (.int 348 0), (.int 50 0), (.str "/claim/cut.py" 349)]), #[]⟩
noncomputable def ko_138 (P : Params) : Obj := ⟨(.type "function"), none, (.func (fnOf "parts" "App.parts" (methDef 6 2).1 (methDef 6 2).2.1 (methDef 6 2).2.2 .none .none .none (.str "lazycore.core" 209) none (.ref 137) .none)), #[]⟩
noncomputable def ko_147 (P : Params) : Obj := ⟨(.type "dict"), none, (.dict (List.toArray [en P "__module__" 324 (.str "lazycore.core" 209), en P "__firstlineno__" 328 (.int 41 327), en P "__init__" 337 (.ref 126), en P "groups" 344 (.ref 133), en P "parts" 350 (.ref 138), en P "rebuilt" 359 (.ref 145), en P "__static_attributes__" 362 (.ref 146), en P "__dict__" 364 (.ref 149), en P "__weakref__" 366 (.ref 150), en P "__doc__" 367 .none]) 4), #[]⟩
noncomputable def ko_148 (P : Params) : Obj := ⟨(.type "type"), none, (.cls ⟨"App", [(.type "object")], [(.ref 148), (.type "object")], 147, "App", true, [], [], false, none, false⟩), #[none, none, some (.str "App" 317), some (.str "App" 325), some (.builtin "object.__new__"), some (.bool true)]⟩
noncomputable def ko_165 (P : Params) : Obj := ⟨(.type "code"), none, (.fields #[(.str "__init__" 382), (.str "Lam.__init__" 383), (.str "/claim/cut.py" 384), (.int 57 0), (.int 3 0), (.int 0 0), (.int 0 0), (.int 3 0), (.ref 160), (.bool true), (.int 181 0), (.ref 161), .none, (.ref 162), (.ref 163), (.ref 164), (.int 388 0), (.int 57 0), (.str "/claim/cut.py" 389)]), #[]⟩
noncomputable def ko_166 (P : Params) : Obj := ⟨(.type "function"), none, (.func (fnOf "__init__" "Lam.__init__" (methDef 7 0).1 (methDef 7 0).2.1 (methDef 7 0).2.2 .none .none .none (.str "lazycore.core" 209) none (.ref 165) .none)), #[]⟩
noncomputable def ko_179 (P : Params) : Obj := ⟨(.type "code"), none, (.fields #[(.str "parts" 398), (.str "Lam.parts" 399), (.str "/claim/cut.py" 400), (.int 64 0), (.int 1 0), (.int 0 0), (.int 0 0), (.int 3 0), (.ref 174), (.bool true), (.int 181 0), (.ref 175), .none, (.ref 176), (.ref 177), (.ref 178), (.int 402 0), (.int 64 0), (.str "/claim/cut.py" 403)]), #[]⟩
noncomputable def ko_180 (P : Params) : Obj := ⟨(.type "function"), none, (.func (fnOf "parts" "Lam.parts" (methDef 7 2).1 (methDef 7 2).2.1 (methDef 7 2).2.2 .none .none .none (.str "lazycore.core" 209) none (.ref 179) .none)), #[]⟩
noncomputable def ko_189 (P : Params) : Obj := ⟨(.type "dict"), none, (.dict (List.toArray [en P "__module__" 377 (.str "lazycore.core" 209), en P "__firstlineno__" 381 (.int 55 380), en P "__init__" 390 (.ref 166), en P "groups" 397 (.ref 173), en P "parts" 404 (.ref 180), en P "rebuilt" 413 (.ref 187), en P "__static_attributes__" 416 (.ref 188), en P "__dict__" 418 (.ref 191), en P "__weakref__" 420 (.ref 192), en P "__doc__" 421 .none]) 4), #[]⟩
noncomputable def ko_190 (P : Params) : Obj := ⟨(.type "type"), none, (.cls ⟨"Lam", [(.type "object")], [(.ref 190), (.type "object")], 189, "Lam", true, [], [], false, none, false⟩), #[none, none, some (.str "Lam" 370), some (.str "Lam" 378), some (.builtin "object.__new__"), some (.bool true)]⟩
noncomputable def ko_207 (P : Params) : Obj := ⟨(.type "code"), none, (.fields #[(.str "__init__" 436), (.str "Con.__init__" 437), (.str "/claim/cut.py" 438), (.int 71 0), (.int 3 0), (.int 0 0), (.int 0 0), (.int 3 0), (.ref 202), (.bool true), (.int 181 0), (.ref 203), .none, (.ref 204), (.ref 205), (.ref 206), (.int 442 0), (.int 71 0), (.str "/claim/cut.py" 443)]), #[]⟩
noncomputable def ko_208 (P : Params) : Obj := ⟨(.type "function"), none, (.func (fnOf "__init__" "Con.__init__" (methDef 8 0).1 (methDef 8 0).2.1 (methDef 8 0).2.2 .none .none .none (.str "lazycore.core" 209) none (.ref 207) .none)), #[]⟩
noncomputable def ko_219 (P : Params) : Obj := ⟨(.type "code"), none, (.fields #[(.str "parts" 452), (.str "Con.parts" 453), (.str "/claim/cut.py" 454), (.int 78 0), (.int 1 0), (.int 0 0), (.int 0 0), (.int 3 0), (.ref 216), (.bool true), (.int 181 0), (.ref 217), .none, .none, .none, (.ref 218), (.int 455 0), (.int 78 0), (.str "/claim/cut.py" 456)]), #[]⟩
noncomputable def ko_220 (P : Params) : Obj := ⟨(.type "function"), none, (.func (fnOf "parts" "Con.parts" (methDef 8 2).1 (methDef 8 2).2.1 (methDef 8 2).2.2 .none .none .none (.str "lazycore.core" 209) none (.ref 219) .none)), #[]⟩
noncomputable def ko_229 (P : Params) : Obj := ⟨(.type "dict"), none, (.dict (List.toArray [en P "__module__" 431 (.str "lazycore.core" 209), en P "__firstlineno__" 435 (.int 69 434), en P "__init__" 444 (.ref 208), en P "groups" 451 (.ref 215), en P "parts" 457 (.ref 220), en P "rebuilt" 466 (.ref 227), en P "__static_attributes__" 469 (.ref 228), en P "__dict__" 471 (.ref 231), en P "__weakref__" 473 (.ref 232), en P "__doc__" 474 .none]) 4), #[]⟩
noncomputable def ko_230 (P : Params) : Obj := ⟨(.type "type"), none, (.cls ⟨"Con", [(.type "object")], [(.ref 230), (.type "object")], 229, "Con", true, [], [], false, none, false⟩), #[none, none, some (.str "Con" 424), some (.str "Con" 432), some (.builtin "object.__new__"), some (.bool true)]⟩
noncomputable def ko_247 (P : Params) : Obj := ⟨(.type "code"), none, (.fields #[(.str "__init__" 489), (.str "Prim.__init__" 490), (.str "/claim/cut.py" 491), (.int 85 0), (.int 3 0), (.int 0 0), (.int 0 0), (.int 3 0), (.ref 242), (.bool true), (.int 181 0), (.ref 243), .none, (.ref 244), (.ref 245), (.ref 246), (.int 495 0), (.int 85 0), (.str "/claim/cut.py" 496)]), #[]⟩
noncomputable def ko_248 (P : Params) : Obj := ⟨(.type "function"), none, (.func (fnOf "__init__" "Prim.__init__" (methDef 9 0).1 (methDef 9 0).2.1 (methDef 9 0).2.2 .none .none .none (.str "lazycore.core" 209) none (.ref 247) .none)), #[]⟩
noncomputable def ko_259 (P : Params) : Obj := ⟨(.type "code"), none, (.fields #[(.str "parts" 505), (.str "Prim.parts" 506), (.str "/claim/cut.py" 507), (.int 92 0), (.int 1 0), (.int 0 0), (.int 0 0), (.int 3 0), (.ref 256), (.bool true), (.int 181 0), (.ref 257), .none, .none, .none, (.ref 258), (.int 508 0), (.int 92 0), (.str "/claim/cut.py" 509)]), #[]⟩
noncomputable def ko_260 (P : Params) : Obj := ⟨(.type "function"), none, (.func (fnOf "parts" "Prim.parts" (methDef 9 2).1 (methDef 9 2).2.1 (methDef 9 2).2.2 .none .none .none (.str "lazycore.core" 209) none (.ref 259) .none)), #[]⟩
noncomputable def ko_269 (P : Params) : Obj := ⟨(.type "dict"), none, (.dict (List.toArray [en P "__module__" 484 (.str "lazycore.core" 209), en P "__firstlineno__" 488 (.int 83 487), en P "__init__" 497 (.ref 248), en P "groups" 504 (.ref 255), en P "parts" 510 (.ref 260), en P "rebuilt" 519 (.ref 267), en P "__static_attributes__" 522 (.ref 268), en P "__dict__" 524 (.ref 271), en P "__weakref__" 526 (.ref 272), en P "__doc__" 527 .none]) 4), #[]⟩
noncomputable def ko_270 (P : Params) : Obj := ⟨(.type "type"), none, (.cls ⟨"Prim", [(.type "object")], [(.ref 270), (.type "object")], 269, "Prim", true, [], [], false, none, false⟩), #[none, none, some (.str "Prim" 477), some (.str "Prim" 485), some (.builtin "object.__new__"), some (.bool true)]⟩
noncomputable def ko_290 (P : Params) : Obj := ⟨(.type "tuple"), none, (.seq #[(.ref 289)] 0), #[]⟩
noncomputable def ko_296 (P : Params) : Obj := ⟨(.type "code"), none, (.fields #[(.str "__init__" 552), (.str "Fresh.__init__" 553), (.str "/claim/cut.py" 554), (.int 103 0), (.int 2 0), (.int 0 0), (.int 0 0), (.int 3 0), (.ref 291), (.bool true), (.int 181 0), (.ref 292), .none, (.ref 293), (.ref 294), (.ref 295), (.int 557 0), (.int 103 0), (.str "/claim/cut.py" 558)]), #[]⟩
noncomputable def ko_297 (P : Params) : Obj := ⟨(.type "function"), none, (.func (fnOf "__init__" "Fresh.__init__" (methDef 12 0).1 (methDef 12 0).2.1 (methDef 12 0).2.2 (.ref 290) .none .none (.str "lazycore.fresh" 530) none (.ref 296) .none)), #[]⟩
noncomputable def ko_303 (P : Params) : Obj := ⟨(.type "code"), none, (.fields #[(.str "avoid" 560), (.str "Fresh.avoid" 561), (.str "/claim/cut.py" 562), (.int 108 0), (.int 2 0), (.int 0 0), (.int 0 0), (.int 3 0), (.ref 298), (.bool true), (.int 181 0), (.ref 299), .none, (.ref 300), (.ref 301), (.ref 302), (.int 566 0), (.int 108 0), (.str "/claim/cut.py" 567)]), #[]⟩
noncomputable def ko_304 (P : Params) : Obj := ⟨(.type "function"), none, (.func (fnOf "avoid" "Fresh.avoid" (methDef 12 1).1 (methDef 12 1).2.1 (methDef 12 1).2.2 .none .none .none (.str "lazycore.fresh" 530) none (.ref 303) .none)), #[]⟩
noncomputable def ko_313 (P : Params) : Obj := ⟨(.type "dict"), none, (.dict (List.toArray [en P "__module__" 547 (.str "lazycore.fresh" 530), en P "__firstlineno__" 551 (.int 101 550), en P "__init__" 559 (.ref 297), en P "avoid" 568 (.ref 304), en P "next" 578 (.ref 311), en P "__static_attributes__" 581 (.ref 312), en P "__dict__" 583 (.ref 315), en P "__weakref__" 585 (.ref 316), en P "__doc__" 586 .none]) 4), #[]⟩
noncomputable def ko_314 (P : Params) : Obj := ⟨(.type "type"), none, (.cls ⟨"Fresh", [(.type "object")], [(.ref 314), (.type "object")], 313, "Fresh", true, [], [], false, none, false⟩), #[none, none, some (.str "Fresh" 540), some (.str "Fresh" 548), some (.builtin "object.__new__"), some (.bool true)]⟩
noncomputable def ko_331 (P : Params) : Obj := ⟨(.type "code"), none, (.fields #[(.str "__init__" 603), (.str "Walker.__init__" 604), (.str "/claim/cut.py" 605), (.int 122 0), (.int 2 0), (.int 0 0), (.int 0 0), (.int 3 0), (.ref 326), (.bool true), (.int 181 0), (.ref 327), .none, (.ref 328), (.ref 329), (.ref 330), (.int 608 0), (.int 122 0), (.str "/claim/cut.py" 609)]), #[]⟩
noncomputable def ko_332 (P : Params) : Obj := ⟨(.type "function"), none, (.func (fnOf "__init__" "Walker.__init__" (methDef 14 0).1 (methDef 14 0).2.1 (methDef 14 0).2.2 .none .none .none (.str "lazycore.groups" 589) none (.ref 331) .none)), #[]⟩
noncomputable def ko_338 (P : Params) : Obj := ⟨(.type "code"), none, (.fields #[(.str "enter" 611), (.str "Walker.enter" 612), (.str "/claim/cut.py" 613), (.int 130 0), (.int 2 0), (.int 0 0), (.int 0 0), (.int 3 0), (.ref 333), (.bool true), (.int 181 0), (.ref 334), .none, (.ref 335), (.ref 336), (.ref 337), (.int 616 0), (.int 130 0), (.str "/claim/cut.py" 617)]), #[]⟩
noncomputable def ko_339 (P : Params) : Obj := ⟨(.type "function"), none, (.func (fnOf "enter" "Walker.enter" (methDef 14 1).1 (methDef 14 1).2.1 (methDef 14 1).2.2 .none .none .none (.str "lazycore.groups" 589) none (.ref 338) .none)), #[]⟩
noncomputable def ko_345 (P : Params) : Obj := ⟨(.type "code"), none, (.fields #[(.str "leave" 619), (.str "Walker.leave" 620), (.str "/claim/cut.py" 621), (.int 136 0), (.int 2 0), (.int 0 0), (.int 0 0), (.int 3 0), (.ref 340), (.bool true), (.int 181 0), (.ref 341), .none, (.ref 342), (.ref 343), (.ref 344), (.int 625 0), (.int 136 0), (.str "/claim/cut.py" 626)]), #[]⟩
noncomputable def ko_346 (P : Params) : Obj := ⟨(.type "function"), none, (.func (fnOf "leave" "Walker.leave" (methDef 14 2).1 (methDef 14 2).2.1 (methDef 14 2).2.2 .none .none .none (.str "lazycore.groups" 589) none (.ref 345) .none)), #[]⟩
noncomputable def ko_352 (P : Params) : Obj := ⟨(.type "code"), none, (.fields #[(.str "walk" 628), (.str "Walker.walk" 629), (.str "/claim/cut.py" 630), (.int 145 0), (.int 2 0), (.int 0 0), (.int 0 0), (.int 3 0), (.ref 347), (.bool true), (.int 181 0), (.ref 348), .none, (.ref 349), (.ref 350), (.ref 351), (.int 637 0), (.int 145 0), (.str "/claim/cut.py" 638)]), #[]⟩
noncomputable def ko_353 (P : Params) : Obj := ⟨(.type "function"), none, (.func (fnOf "walk" "Walker.walk" (methDef 14 3).1 (methDef 14 3).2.1 (methDef 14 3).2.2 .none .none .none (.str "lazycore.groups" 589) none (.ref 352) .none)), #[]⟩
noncomputable def ko_359 (P : Params) : Obj := ⟨(.type "code"), none, (.fields #[(.str "look" 640), (.str "Walker.look" 641), (.str "/claim/cut.py" 642), (.int 160 0), (.int 4 0), (.int 0 0), (.int 0 0), (.int 3 0), (.ref 354), (.bool true), (.int 181 0), (.ref 355), .none, (.ref 356), (.ref 357), (.ref 358), (.int 647 0), (.int 160 0), (.str "/claim/cut.py" 648)]), #[]⟩
noncomputable def ko_360 (P : Params) : Obj := ⟨(.type "function"), none, (.func (fnOf "look" "Walker.look" (methDef 14 4).1 (methDef 14 4).2.1 (methDef 14 4).2.2 .none .none .none (.str "lazycore.groups" 589) none (.ref 359) .none)), #[]⟩
noncomputable def ko_362 (P : Params) : Obj := ⟨(.type "dict"), none, (.dict (List.toArray [en P "__module__" 598 (.str "lazycore.groups" 589), en P "__firstlineno__" 602 (.int 120 601), en P "__init__" 610 (.ref 332), en P "enter" 618 (.ref 339), en P "leave" 627 (.ref 346), en P "walk" 639 (.ref 353), en P "look" 649 (.ref 360), en P "__static_attributes__" 656 (.ref 361), en P "__dict__" 658 (.ref 364), en P "__weakref__" 660 (.ref 365), en P "__doc__" 661 .none]) 4), #[]⟩
noncomputable def ko_363 (P : Params) : Obj := ⟨(.type "type"), none, (.cls ⟨"Walker", [(.type "object")], [(.ref 363), (.type "object")], 362, "Walker", true, [], [], false, none, false⟩), #[none, none, some (.str "Walker" 591), some (.str "Walker" 599), some (.builtin "object.__new__"), some (.bool true)]⟩
noncomputable def ko_371 (P : Params) : Obj := ⟨(.type "code"), none, (.fields #[(.str "strong_groups" 664), (.str "strong_groups" 665), (.str "/claim/cut.py" 666), (.int 166 0), (.int 2 0), (.int 0 0), (.int 0 0), (.int 3 0), (.ref 368), (.bool true), (.int 181 0), (.ref 369), .none, .none, .none, (.ref 370), (.int 667 0), (.int 166 0), (.str "/claim/cut.py" 668)]), #[]⟩
noncomputable def ko_372 (P : Params) : Obj := ⟨(.type "function"), none, (.func (fnOf "strong_groups" "strong_groups" (topDef 15).1 (topDef 15).2.1 (topDef 15).2.2 .none .none .none (.str "lazycore.groups" 589) none (.ref 371) .none)), #[]⟩
noncomputable def ko_378 (P : Params) : Obj := ⟨(.type "code"), none, (.fields #[(.str "is_atom" 672), (.str "is_atom" 673), (.str "/claim/cut.py" 674), (.int 183 0), (.int 1 0), (.int 0 0), (.int 0 0), (.int 3 0), (.ref 373), (.bool true), (.int 181 0), (.ref 374), .none, (.ref 375), (.ref 376), (.ref 377), (.int 676 0), (.int 183 0), (.str "/claim/cut.py" 677)]), #[]⟩
noncomputable def ko_379 (P : Params) : Obj := ⟨(.type "function"), none, (.func (fnOf "is_atom" "is_atom" (topDef 17).1 (topDef 17).2.1 (topDef 17).2.2 .none .none .none (.str "lazycore.occurrences" 670) none (.ref 378) .none)), #[]⟩
noncomputable def ko_385 (P : Params) : Obj := ⟨(.type "code"), none, (.fields #[(.str "used_names" 679), (.str "used_names" 680), (.str "/claim/cut.py" 681), (.int 185 0), (.int 1 0), (.int 0 0), (.int 0 0), (.int 3 0), (.ref 380), (.bool true), (.int 181 0), (.ref 381), .none, (.ref 382), (.ref 383), (.ref 384), (.int 688 0), (.int 185 0), (.str "/claim/cut.py" 689)]), #[]⟩
noncomputable def ko_386 (P : Params) : Obj := ⟨(.type "function"), none, (.func (fnOf "used_names" "used_names" (topDef 18).1 (topDef 18).2.1 (topDef 18).2.2 .none .none .none (.str "lazycore.occurrences" 670) none (.ref 385) .none)), #[]⟩
noncomputable def ko_390 (P : Params) : Obj := ⟨(.type "code"), none, (.fields #[(.str "recursive_names" 693), (.str "recursive_names" 694), (.str "/claim/cut.py" 695), (.int 195 0), (.int 1 0), (.int 0 0), (.int 0 0), (.int 3 0), (.ref 387), (.bool true), (.int 181 0), (.ref 388), .none, .none, .none, (.ref 389), (.int 696 0), (.int 195 0), (.str "/claim/cut.py" 697)]), #[]⟩
noncomputable def ko_391 (P : Params) : Obj := ⟨(.type "function"), none, (.func (fnOf "recursive_names" "recursive_names" (topDef 20).1 (topDef 20).2.1 (topDef 20).2.2 .none .none .none (.str "lazycore.simplify" 691) none (.ref 390) .none)), #[]⟩
noncomputable def ko_395 (P : Params) : Obj := ⟨(.type "code"), none, (.fields #[(.str "arities_of" 699), (.str "arities_of" 700), (.str "/claim/cut.py" 701), (.int 205 0), (.int 1 0), (.int 0 0), (.int 0 0), (.int 3 0), (.ref 392), (.bool true), (.int 181 0), (.ref 393), .none, .none, .none, (.ref 394), (.int 702 0), (.int 205 0), (.str "/claim/cut.py" 703)]), #[]⟩
noncomputable def ko_396 (P : Params) : Obj := ⟨(.type "function"), none, (.func (fnOf "arities_of" "arities_of" (topDef 21).1 (topDef 21).2.1 (topDef 21).2.2 .none .none .none (.str "lazycore.simplify" 691) none (.ref 395) .none)), #[]⟩
noncomputable def ko_400 (P : Params) : Obj := ⟨(.type "code"), none, (.fields #[(.str "cells_of" 705), (.str "cells_of" 706), (.str "/claim/cut.py" 707), (.int 207 0), (.int 1 0), (.int 0 0), (.int 0 0), (.int 3 0), (.ref 397), (.bool true), (.int 181 0), (.ref 398), .none, .none, .none, (.ref 399), (.int 708 0), (.int 207 0), (.str "/claim/cut.py" 709)]), #[]⟩
noncomputable def ko_401 (P : Params) : Obj := ⟨(.type "function"), none, (.func (fnOf "cells_of" "cells_of" (topDef 22).1 (topDef 22).2.1 (topDef 22).2.2 .none .none .none (.str "lazycore.simplify" 691) none (.ref 400) .none)), #[]⟩
noncomputable def ko_414 (P : Params) : Obj := ⟨(.type "code"), none, (.fields #[(.str "__init__" 725), (.str "TopFunctions.__init__" 726), (.str "/claim/cut.py" 727), (.int 216 0), (.int 4 0), (.int 0 0), (.int 0 0), (.int 3 0), (.ref 409), (.bool true), (.int 181 0), (.ref 410), .none, (.ref 411), (.ref 412), (.ref 413), (.int 734 0), (.int 216 0), (.str "/claim/cut.py" 735)]), #[]⟩
noncomputable def ko_415 (P : Params) : Obj := ⟨(.type "function"), none, (.func (fnOf "__init__" "TopFunctions.__init__" (methDef 24 0).1 (methDef 24 0).2.1 (methDef 24 0).2.2 .none .none .none (.str "lazycore.simplify_inline" 711) none (.ref 414) .none)), #[]⟩
noncomputable def ko_421 (P : Params) : Obj := ⟨(.type "code"), none, (.fields #[(.str "instead_of" 737), (.str "TopFunctions.instead_of" 738), (.str "/claim/cut.py" 739), (.int 222 0), (.int 3 0), (.int 0 0), (.int 0 0), (.int 3 0), (.ref 416), (.bool true), (.int 181 0), (.ref 417), .none, (.ref 418), (.ref 419), (.ref 420), (.int 744 0), (.int 222 0), (.str "/claim/cut.py" 745)]), #[]⟩
noncomputable def ko_422 (P : Params) : Obj := ⟨(.type "function"), none, (.func (fnOf "instead_of" "TopFunctions.instead_of" (methDef 24 1).1 (methDef 24 1).2.1 (methDef 24 1).2.2 .none .none .none (.str "lazycore.simplify_inline" 711) none (.ref 421) .none)), #[]⟩
noncomputable def ko_424 (P : Params) : Obj := ⟨(.type "dict"), none, (.dict (List.toArray [en P "__module__" 720 (.str "lazycore.simplify_inline" 711), en P "__firstlineno__" 724 (.int 214 723), en P "__init__" 736 (.ref 415), en P "instead_of" 746 (.ref 422), en P "__static_attributes__" 748 (.ref 423), en P "__dict__" 750 (.ref 426), en P "__weakref__" 752 (.ref 427), en P "__doc__" 753 .none]) 4), #[]⟩
noncomputable def ko_425 (P : Params) : Obj := ⟨(.type "type"), none, (.cls ⟨"TopFunctions", [(.type "object")], [(.ref 425), (.type "object")], 424, "TopFunctions", true, [], [], false, none, false⟩), #[none, none, some (.str "TopFunctions" 713), some (.str "TopFunctions" 721), some (.builtin "object.__new__"), some (.bool true)]⟩
noncomputable def ko_435 (P : Params) : Obj := ⟨(.type "code"), none, (.fields #[(.str "_law_pool" 758), (.str "_law_pool" 759), (.str "/claim/cut.py" 760), (.int 232 0), (.int 2 0), (.int 0 0), (.int 0 0), (.int 3 0), (.ref 430), (.bool true), (.int 181 0), (.ref 431), .none, (.ref 432), (.ref 433), (.ref 434), (.int 766 0), (.int 232 0), (.str "/claim/cut.py" 767)]), #[]⟩
noncomputable def ko_436 (P : Params) : Obj := ⟨(.type "function"), none, (.func (fnOf "_law_pool" "_law_pool" (topDef 26).1 (topDef 26).2.1 (topDef 26).2.2 .none .none .none (.str "law_og0012_01" 756) none (.ref 435) .none)), #[]⟩
noncomputable def ko_442 (P : Params) : Obj := ⟨(.type "code"), none, (.fields #[(.str "_law_take" 769), (.str "_law_take" 770), (.str "/claim/cut.py" 771), (.int 239 0), (.int 2 0), (.int 0 0), (.int 0 0), (.int 3 0), (.ref 437), (.bool true), (.int 181 0), (.ref 438), .none, (.ref 439), (.ref 440), (.ref 441), (.int 775 0), (.int 239 0), (.str "/claim/cut.py" 776)]), #[]⟩
noncomputable def ko_443 (P : Params) : Obj := ⟨(.type "function"), none, (.func (fnOf "_law_take" "_law_take" (topDef 27).1 (topDef 27).2.1 (topDef 27).2.2 .none .none .none (.str "law_og0012_01" 756) none (.ref 442) .none)), #[]⟩
noncomputable def ko_449 (P : Params) : Obj := ⟨(.type "code"), none, (.fields #[(.str "_law_one" 778), (.str "_law_one" 779), (.str "/claim/cut.py" 780), (.int 246 0), (.int 2 0), (.int 0 0), (.int 0 0), (.int 3 0), (.ref 444), (.bool true), (.int 181 0), (.ref 445), .none, (.ref 446), (.ref 447), (.ref 448), (.int 783 0), (.int 246 0), (.str "/claim/cut.py" 784)]), #[]⟩
noncomputable def ko_450 (P : Params) : Obj := ⟨(.type "function"), none, (.func (fnOf "_law_one" "_law_one" (topDef 28).1 (topDef 28).2.1 (topDef 28).2.2 .none .none .none (.str "law_og0012_01" 756) none (.ref 449) .none)), #[]⟩
noncomputable def ko_456 (P : Params) : Obj := ⟨(.type "code"), none, (.fields #[(.str "_law_body" 786), (.str "_law_body" 787), (.str "/claim/cut.py" 788), (.int 248 0), (.int 3 0), (.int 0 0), (.int 0 0), (.int 3 0), (.ref 451), (.bool true), (.int 181 0), (.ref 452), .none, (.ref 453), (.ref 454), (.ref 455), (.int 795 0), (.int 248 0), (.str "/claim/cut.py" 796)]), #[]⟩
noncomputable def ko_457 (P : Params) : Obj := ⟨(.type "function"), none, (.func (fnOf "_law_body" "_law_body" (topDef 29).1 (topDef 29).2.1 (topDef 29).2.2 .none .none .none (.str "law_og0012_01" 756) none (.ref 456) .none)), #[]⟩
noncomputable def ko_461 (P : Params) : Obj := ⟨(.type "code"), none, (.fields #[(.str "_law_top" 798), (.str "_law_top" 799), (.str "/claim/cut.py" 800), (.int 257 0), (.int 2 0), (.int 0 0), (.int 0 0), (.int 3 0), (.ref 458), (.bool true), (.int 181 0), (.ref 459), .none, .none, .none, (.ref 460), (.int 801 0), (.int 257 0), (.str "/claim/cut.py" 802)]), #[]⟩
noncomputable def ko_462 (P : Params) : Obj := ⟨(.type "function"), none, (.func (fnOf "_law_top" "_law_top" (topDef 30).1 (topDef 30).2.1 (topDef 30).2.2 .none .none .none (.str "law_og0012_01" 756) none (.ref 461) .none)), #[]⟩
noncomputable def ko_468 (P : Params) : Obj := ⟨(.type "code"), none, (.fields #[(.str "_law_named" 804), (.str "_law_named" 805), (.str "/claim/cut.py" 806), (.int 270 0), (.int 1 0), (.int 0 0), (.int 0 0), (.int 3 0), (.ref 463), (.bool true), (.int 181 0), (.ref 464), .none, (.ref 465), (.ref 466), (.ref 467), (.int 811 0), (.int 270 0), (.str "/claim/cut.py" 812)]), #[]⟩
noncomputable def ko_469 (P : Params) : Obj := ⟨(.type "function"), none, (.func (fnOf "_law_named" "_law_named" (topDef 31).1 (topDef 31).2.1 (topDef 31).2.2 .none .none .none (.str "law_og0012_01" 756) none (.ref 468) .none)), #[]⟩
noncomputable def ko_475 (P : Params) : Obj := ⟨(.type "code"), none, (.fields #[(.str "_law_led" 814), (.str "_law_led" 815), (.str "/claim/cut.py" 816), (.int 277 0), (.int 2 0), (.int 0 0), (.int 0 0), (.int 3 0), (.ref 470), (.bool true), (.int 181 0), (.ref 471), .none, (.ref 472), (.ref 473), (.ref 474), (.int 823 0), (.int 277 0), (.str "/claim/cut.py" 824)]), #[]⟩
noncomputable def ko_476 (P : Params) : Obj := ⟨(.type "function"), none, (.func (fnOf "_law_led" "_law_led" (topDef 32).1 (topDef 32).2.1 (topDef 32).2.2 .none .none .none (.str "law_og0012_01" 756) none (.ref 475) .none)), #[]⟩
noncomputable def ko_480 (P : Params) : Obj := ⟨(.type "code"), none, (.fields #[(.str "_law_many" 826), (.str "_law_many" 827), (.str "/claim/cut.py" 828), (.int 285 0), (.int 1 0), (.int 0 0), (.int 0 0), (.int 3 0), (.ref 477), (.bool true), (.int 181 0), (.ref 478), .none, .none, .none, (.ref 479), (.int 829 0), (.int 285 0), (.str "/claim/cut.py" 830)]), #[]⟩
noncomputable def ko_481 (P : Params) : Obj := ⟨(.type "function"), none, (.func (fnOf "_law_many" "_law_many" (topDef 33).1 (topDef 33).2.1 (topDef 33).2.2 .none .none .none (.str "law_og0012_01" 756) none (.ref 480) .none)), #[]⟩
noncomputable def ko_485 (P : Params) : Obj := ⟨(.type "code"), none, (.fields #[(.str "law" 832), (.str "law" 833), (.str "/claim/cut.py" 834), (.int 287 0), (.int 1 0), (.int 0 0), (.int 0 0), (.int 3 0), (.ref 482), (.bool true), (.int 181 0), (.ref 483), .none, .none, .none, (.ref 484), (.int 835 0), (.int 287 0), (.str "/claim/cut.py" 836)]), #[]⟩
noncomputable def ko_486 (P : Params) : Obj := ⟨(.type "function"), none, (.func (fnOf "law" "law" (topDef 34).1 (topDef 34).2.1 (topDef 34).2.2 .none .none .none (.str "law_og0012_01" 756) none (.ref 485) .none)), #[]⟩
noncomputable def KA : List Addr := [3, 27, 28, 41, 42, 55, 56, 65, 66, 83, 84, 97, 98, 107, 108, 125, 126, 137, 138, 147, 148, 165, 166, 179, 180, 189, 190, 207, 208, 219, 220, 229, 230, 247, 248, 259, 260, 269, 270, 290, 296, 297, 303, 304, 313, 314, 331, 332, 338, 339, 345, 346, 352, 353, 359, 360, 362, 363, 371, 372, 378, 379, 385, 386, 390, 391, 395, 396, 400, 401, 414, 415, 421, 422, 424, 425, 435, 436, 442, 443, 449, 450, 456, 457, 461, 462, 468, 469, 475, 476, 480, 481, 485, 486]
noncomputable def K (P : Params) : Frag := [(3, ko_3 P), (27, ko_27 P), (28, ko_28 P), (41, ko_41 P), (42, ko_42 P), (55, ko_55 P), (56, ko_56 P), (65, ko_65 P), (66, ko_66 P), (83, ko_83 P), (84, ko_84 P), (97, ko_97 P), (98, ko_98 P), (107, ko_107 P), (108, ko_108 P), (125, ko_125 P), (126, ko_126 P), (137, ko_137 P), (138, ko_138 P), (147, ko_147 P), (148, ko_148 P), (165, ko_165 P), (166, ko_166 P), (179, ko_179 P), (180, ko_180 P), (189, ko_189 P), (190, ko_190 P), (207, ko_207 P), (208, ko_208 P), (219, ko_219 P), (220, ko_220 P), (229, ko_229 P), (230, ko_230 P), (247, ko_247 P), (248, ko_248 P), (259, ko_259 P), (260, ko_260 P), (269, ko_269 P), (270, ko_270 P), (290, ko_290 P), (296, ko_296 P), (297, ko_297 P), (303, ko_303 P), (304, ko_304 P), (313, ko_313 P), (314, ko_314 P), (331, ko_331 P), (332, ko_332 P), (338, ko_338 P), (339, ko_339 P), (345, ko_345 P), (346, ko_346 P), (352, ko_352 P), (353, ko_353 P), (359, ko_359 P), (360, ko_360 P), (362, ko_362 P), (363, ko_363 P), (371, ko_371 P), (372, ko_372 P), (378, ko_378 P), (379, ko_379 P), (385, ko_385 P), (386, ko_386 P), (390, ko_390 P), (391, ko_391 P), (395, ko_395 P), (396, ko_396 P), (400, ko_400 P), (401, ko_401 P), (414, ko_414 P), (415, ko_415 P), (421, ko_421 P), (422, ko_422 P), (424, ko_424 P), (425, ko_425 P), (435, ko_435 P), (436, ko_436 P), (442, ko_442 P), (443, ko_443 P), (449, ko_449 P), (450, ko_450 P), (456, ko_456 P), (457, ko_457 P), (461, ko_461 P), (462, ko_462 P), (468, ko_468 P), (469, ko_469 P), (475, ko_475 P), (476, ko_476 P), (480, ko_480 P), (481, ko_481 P), (485, ko_485 P), (486, ko_486 P)]
noncomputable def bootS (bh : Heap) (os : OsState) : SharedT := ⟨bh.objs.toList.zipIdx.foldl (fun t x => t.ins x.2 x.1) .nil, 11, bh.life, #[], boot_drawn, boot_toks, os⟩
noncomputable def q : Program := view PySem.Challenge.pw_og0012_01 [34]
noncomputable def loose : List Str := ["_wall", "size_of", "Var", "Lit", "App", "Lam", "Con", "Prim", "base_of", "Fresh", "Walker", "strong_groups", "is_atom", "used_names", "recursive_names", "arities_of", "cells_of", "TopFunctions", "_law_pool", "_law_take", "_law_one", "_law_body", "_law_top", "_law_named", "_law_led", "_law_many"]
noncomputable def N : Nat := 6972
noncomputable def seenAll (p q : Program) (loose : List Str) (bh : Heap) (w : World) (os : OsState) :=
  (runT treeTable p w 11 (bh.nsMap mainGlobals "__annotations__") N (bootS bh os) (topStub p)).map fun s =>
    ((staticsOk (importedModules p.main.body) bh s.abs.heap && namesBound p s.abs.heap && gensDone s.abs && laidKept bh s.abs.heap),
      openSeen q loose (importedModules p.main.body) (fun s => xlAt q [] s && recOk [] s) true s.abs, (KA.map s.abs.heap.get?, (s.abs.heap.get? sysModules).isSome))
noncomputable def goodAll (w : World) := some (true, openGood q loose, ((K w.params).map fun p => some p.2, true))
lay_quick Mine.seenAll
end Mine
end
section
-- H2
set_option Elab.async false
set_option maxRecDepth 100000
set_option maxHeartbeats 8000000
set_option autoImplicit false
set_option linter.unusedVariables false
namespace Mine
open PySem PySem.W PySem.Calls PyProof.Rows
theorem left_tw (w : World) (os : OsState) : PySem.W.Fast.tw17491102638781660497 PySem.Challenge.pw_og0012_01 q loose (boot_heap w.params) w os = goodAll w := by kernel_rfl
theorem left_eq (w : World) (os : OsState) : seenAll PySem.Challenge.pw_og0012_01 q loose (boot_heap w.params) w os = goodAll w :=
  (congrFun (congrFun (congrFun (congrFun (congrFun (congrFun PySem.W.Fast.te17491102638781660497 _) _) _) (boot_heap w.params)) w) os).trans (left_tw w os)
theorem boot_abs (w : World) (os : OsState) : (bootS (boot_heap w.params) os).abs = ⟨boot_heap w.params, #[], boot_drawn, boot_toks, os⟩ := by kernel_rfl
theorem boot_ns (w : World) : (boot_heap w.params).isNs mainGlobals = true := by kernel_rfl
theorem boot_sz (w : World) : (boot_heap w.params).objs.size = 11 := by kernel_rfl
theorem bootP (w : World) : (fencedOpening treeTable PySem.Challenge.pw_og0012_01 w N).map (fun s => (s.heap, s.gens, s.drawn, s.toks)) = some (boot_heap w.params, Array.mk [], boot_drawn, boot_toks) :=
  boot_open (by kernel_rfl) (by kernel_rfl) (fun s => by kernel_rfl) w
theorem left_of {p q : Program} {loose : List Str} {Xt : Shared → Bool} {α : Type} {Yf : Shared → α} {Ya : World → α} {N : Nat} {H₀ : Params → Heap} {gs₀ : Array GenState} {d₀ : Drawn} {k₀ : Nat} {m₀ : Nat} {ann : World → Option Value}
    (open_ : ∀ w : World, (fencedOpening treeTable p w N).map (fun s => (s.heap, s.gens, s.drawn, s.toks)) = some (H₀ w.params, gs₀, d₀, k₀))
    (hg : (gs₀.size == 0) = true) (hns : ∀ w : World, (H₀ w.params).isNs mainGlobals = true) (hsz : ∀ w : World, (H₀ w.params).objs.size = m₀) (hann : ∀ w : World, (H₀ w.params).nsMap mainGlobals "__annotations__" = ann w)
    (run : ∀ (w : World) (os : OsState), ∃ s, topRun treeTable p w m₀ (ann w) N ⟨H₀ w.params, gs₀, d₀, k₀, os⟩ (topStub p) = some s ∧
      (staticsOk (importedModules p.main.body) (H₀ w.params) s.heap && namesBound p s.heap && gensDone s && laidKept (H₀ w.params) s.heap) = true ∧ openSeen q loose (importedModules p.main.body) Xt true s = openGood q loose ∧ Yf s = Ya w) : LeftO p q loose Xt Yf Ya N := fun w => by
  obtain ⟨⟨h, gs, d, k, os⟩, e, e'⟩ := Option.map_eq_some_iff.mp (open_ w)
  obtain ⟨rfl, rfl, rfl, rfl⟩ : h = H₀ w.params ∧ gs = gs₀ ∧ d = d₀ ∧ k = k₀ := by simpa using e'
  obtain ⟨s, r, l1, l2, l3⟩ := run w os
  have t : topFrom treeTable p w N ⟨H₀ w.params, gs, d, k, os⟩ = some s := by
    unfold topFrom
    dsimp only
    rw [hns, hg, hsz, hann, r]
    show (match staticsOk (importedModules p.main.body) (H₀ w.params) s.heap && namesBound p s.heap && gensDone s && laidKept (H₀ w.params) s.heap with | true => _ | false => _) = _
    rw [l1]
  unfold openEnds
  rw [e]
  show (topFrom treeTable p w N _).map _ = _
  rw [t]
  exact congrArg some (Prod.ext l2 l3)
noncomputable abbrev myXt : Shared → Bool := fun s => xlAt q [] s && recOk [] s
theorem left_run (w : World) (os : OsState) : ∃ s, topRun treeTable PySem.Challenge.pw_og0012_01 w 11 ((boot_heap w.params).nsMap mainGlobals "__annotations__") N ⟨boot_heap w.params, #[], boot_drawn, boot_toks, os⟩ (topStub PySem.Challenge.pw_og0012_01) = some s ∧
      (staticsOk (importedModules PySem.Challenge.pw_og0012_01.main.body) (boot_heap w.params) s.heap && namesBound PySem.Challenge.pw_og0012_01 s.heap && gensDone s && laidKept (boot_heap w.params) s.heap) = true ∧
      openSeen q loose (importedModules PySem.Challenge.pw_og0012_01.main.body) myXt true s = openGood q loose ∧ (KA.map s.heap.get?, (s.heap.get? sysModules).isSome) = ((K w.params).map fun p => some p.2, true) := by
  obtain ⟨s, r, h2⟩ := Option.map_eq_some_iff.mp (left_eq w os)
  have r' := runT_top _ _ _ _ r
  rw [boot_abs] at r'
  have l1 := congrArg Prod.fst h2
  have l2 := congrArg (fun x => x.2.1) h2
  have l3 := congrArg (fun x => x.2.2) h2
  exact ⟨s.abs, r', l1, l2, l3⟩
theorem left : LeftO PySem.Challenge.pw_og0012_01 q loose myXt (fun s => (KA.map s.heap.get?, (s.heap.get? sysModules).isSome)) (fun w => ((K w.params).map fun p => some p.2, true)) N :=
  left_of bootP rfl boot_ns boot_sz (fun _ => rfl) left_run
end Mine
end
section
-- Lay1
set_option maxRecDepth 100000
set_option autoImplicit false
set_option linter.unusedVariables false
namespace Mine
open PySem PySem.W PySem.Calls PyProof.Rows
/-- a value without the token of its identity -/
noncomputable def er : Value → Value
  | .int i _ => .int i 0
  | .float b _ => .float b 0
  | .str s _ => .str s 0
  | .bytes b _ => .bytes b 0
  | v => v
theorem er_int {v : Value} {i : Int} (h : er v = .int i 0) : ∃ t, v = .int i t := by
  cases v <;> simp [er] at h <;> exact ⟨_, by rw [h]⟩
theorem er_str {v : Value} {x : Str} (h : er v = .str x 0) : ∃ t, v = .str x t := by
  cases v <;> simp [er] at h <;> exact ⟨_, by rw [h]⟩
theorem er_bool {v : Value} {b : Bool} (h : er v = .bool b) : v = .bool b := by
  cases v <;> simp [er] at h; rw [h]
theorem er_ref {v : Value} {a : Addr} (h : er v = .ref a) : v = .ref a := by
  cases v <;> simp [er] at h; rw [h]
theorem er_none {v : Value} (h : er v = .none) : v = .none := by
  cases v <;> simp [er] at h; rfl
theorem er_type {v : Value} {n : String} (h : er v = .type n) : v = .type n := by
  cases v <;> simp [er] at h; rw [h]
theorem er_builtin {v : Value} {n : String} (h : er v = .builtin n) : v = .builtin n := by
  cases v <;> simp [er] at h; rw [h]
theorem er_er (v : Value) : er (er v) = er v := by cases v <;> rfl
noncomputable def erP (p : Str × Value) : Str × Value := (p.1, er p.2)
/-- what an object is, to us -/
inductive AO where
  | list (vs : List Value)
  | ro (vs : List Value)
  | tup (vs : List Value)
  | dict (kvs : List (Str × Value))
  | inst (C : Addr) (fs : List (Str × Value))
  | own (a : Addr)
  | rng (lo hi : Int)
noncomputable abbrev Mem := Addr → Option AO
noncomputable abbrev Loc := List (Str × Value)
structure Cx where
  prog : Program
  w : World
  K : Frag
  h₀ : Heap
noncomputable abbrev Cx.M (c : Cx) : Model := model c.prog c.w
noncomputable abbrev Cx.kd (c : Cx) : KeyKind c.prog c.w Str := PySem.strKind c.prog c.w
noncomputable abbrev listObj (us : Array Value) (n : Nat) : Obj := { cls := .type "list", data := .seq us n }
noncomputable abbrev tupObj (us : Array Value) (n : Nat) : Obj := { cls := .type "tuple", data := .seq us n }
noncomputable def Is (c : Cx) (mem : Mem) (h : Heap) (a : Addr) : AO → Prop
  | .list vs => ∃ us n, h.get? a = some (listObj us n) ∧ us.toList.map er = vs
  | .ro vs => ∃ us, h.IsList a us ∧ us.toList.map er = vs
  | .tup vs => ∃ us n, h.get? a = some (tupObj us n) ∧ us.toList.map er = vs
  | .dict kvs => ∃ kus, h.DictOf c.kd a kus ∧ kus.map erP = kvs
  | .inst C fs => ∃ d es k, h.get? a = some (instObj C d) ∧ mem d = some (.own a) ∧ h.get? d = some (dictOf es k) ∧ es.length ≤ fs.length ∧ (∀ e ∈ es, ∃ x t, e.key = .str x t) ∧
      ∀ x, ((es.find? fun e => e.key.isStr x).map fun e => er e.val) = fs.lookup x
  | .own _ => ∃ o, h.get? a = some o
  | .rng lo hi => ∃ t u v, IsRange h a lo hi 1 t u v
/-- what the heap at the call's start says -/
structure Base (c : Cx) : Prop where
  kin : c.K.In c.h₀
  g : ∃ mg, c.h₀.Ns mainGlobals mg
  b : ∃ mb, c.h₀.Ns builtinsNs mb ∧ ∀ x : Str, x ≠ "__name__" → mb x = bootBuiltins x
  lim : c.h₀.NoLimit
  sysm : ∃ o, c.h₀.get? sysModules = some o
structure Rep (c : Cx) (mem : Mem) (h : Heap) : Prop where
  base : Base c
  stay : c.h₀.StaysIn h
  at_ : ∀ a o, mem a = some o → Is c mem h a o
  new : ∀ a o, mem a = some o → (∃ vs, o = .ro vs) ∨ c.h₀.get? a = none
structure Kp (mem : Mem) (h : Heap) (mem' : Mem) (h' : Heap) : Prop where
  keep : ∀ a o, h.get? a = some o → mem a = none → h'.get? a = some o
  fresh : ∀ a, mem a = none → mem' a ≠ none → h.get? a = none
theorem Kp.refl (mem : Mem) (h : Heap) : Kp mem h mem h := ⟨fun _ _ e _ => e, fun _ e n => absurd e n⟩
theorem Kp.off {mem mem' : Mem} {h h' : Heap} (x : Kp mem h mem' h') {a : Addr} {o : Obj} (e : h.get? a = some o) (n : mem a = none) : mem' a = none := by
  cases q : mem' a with
  | none => rfl
  | some o' =>
    have := x.fresh a n (by rw [q]; exact fun z => nomatch z)
    rw [e] at this; cases this
theorem Kp.trans {m₁ m₂ m₃ : Mem} {h₁ h₂ h₃ : Heap} (x : Kp m₁ h₁ m₂ h₂) (y : Kp m₂ h₂ m₃ h₃) : Kp m₁ h₁ m₃ h₃ where
  keep := fun a o e n => y.keep a o (x.keep a o e n) (x.off e n)
  fresh := fun a n n' => by
    cases q : m₂ a with
    | none =>
      have h2 := y.fresh a q n'
      cases q' : h₁.get? a with
      | none => rfl
      | some o => rw [x.keep a o q' n] at h2; cases h2
    | some o' => exact x.fresh a n (by rw [q]; exact fun z => nomatch z)
theorem Is.stays {c : Cx} {mem mem' : Mem} {h h' : Heap} {a : Addr} {o : AO} (x : Is c mem h a o)
    (hk : ∀ o, h.get? a = some o → h'.get? a = some o) (ho : ∀ d, mem d = some (.own a) → mem' d = some (.own a) ∧ ∀ o, h.get? d = some o → h'.get? d = some o) : Is c mem' h' a o := by
  cases o with
  | list vs => obtain ⟨us, n, e, r⟩ := x; exact ⟨us, n, hk _ e, r⟩
  | ro vs => obtain ⟨us, ⟨o, e, r⟩, q⟩ := x; exact ⟨us, ⟨o, hk _ e, r⟩, q⟩
  | tup vs => obtain ⟨us, n, e, r⟩ := x; exact ⟨us, n, hk _ e, r⟩
  | dict kvs => obtain ⟨kus, ⟨o, es, ep, e, r⟩, q⟩ := x; exact ⟨kus, ⟨o, es, ep, hk _ e, r⟩, q⟩
  | inst C fs =>
    obtain ⟨d, es, k, e, hd, e', q⟩ := x
    obtain ⟨h1, h2⟩ := ho d hd
    exact ⟨d, es, k, hk _ e, h1, h2 _ e', q⟩
  | own b => obtain ⟨o, e⟩ := x; exact ⟨o, hk _ e⟩
  | rng lo hi => obtain ⟨t, u, v, e⟩ := x; exact ⟨t, u, v, hk _ e⟩
theorem Is.get {c : Cx} {mem : Mem} {h : Heap} {a : Addr} {o : AO} (x : Is c mem h a o) : ∃ o, h.get? a = some o := by
  cases o with
  | list vs => obtain ⟨us, n, e, r⟩ := x; exact ⟨_, e⟩
  | ro vs => obtain ⟨us, ⟨o, e, r⟩, q⟩ := x; exact ⟨_, e⟩
  | tup vs => obtain ⟨us, n, e, r⟩ := x; exact ⟨_, e⟩
  | dict kvs => obtain ⟨kus, ⟨o, es, ep, e, r⟩, q⟩ := x; exact ⟨_, e⟩
  | inst C fs => obtain ⟨d, es, k, e, hd, _⟩ := x; exact ⟨_, e⟩
  | own b => exact x
  | rng lo hi => obtain ⟨t, u, v, e⟩ := x; exact ⟨_, e⟩
namespace Rep
variable {c : Cx} {mem : Mem} {h h' : Heap}
theorem lt (R : Rep c mem h) {a : Addr} {o : AO} (e : mem a = some o) : a < h.objs.size := let ⟨_, q⟩ := (R.at_ a o e).get; Heap.lt_size q
theorem free (R : Rep c mem h) : mem h.objs.size = none := by
  cases q : mem h.objs.size with
  | none => rfl
  | some o => exact absurd (R.lt q) (Nat.lt_irrefl _)
theorem kin (R : Rep c mem h) : c.K.In h := R.base.kin.keeps R.stay
theorem lim (R : Rep c mem h) : h.NoLimit := R.base.lim.keeps R.stay
/-- what is not the memory's has been added or changed -/
theorem ext (R : Rep c mem h) (hk : ∀ a o, h.get? a = some o → (c.h₀.get? a = some o ∨ mem a ≠ none) → h'.get? a = some o) : Rep c mem h' where
  base := R.base
  stay := fun b o e => hk b o (R.stay b o e) (.inl e)
  at_ := fun a o e => (R.at_ a o e).stays (fun o' q => hk a o' q (.inr (by rw [e]; exact fun z => nomatch z)))
    fun d hd => ⟨hd, fun o' q => hk d o' q (.inr (by rw [hd]; exact fun z => nomatch z))⟩
  new := R.new
theorem keeps (R : Rep c mem h) (hk : ∀ a o, h.get? a = some o → h'.get? a = some o) : Rep c mem h' := R.ext fun a o e _ => hk a o e
theorem push (R : Rep c mem h) (o : Obj) : Rep c mem (h.push o) := R.keeps fun _ _ e => Heap.get?_push_of_some _ e
theorem next (R : Rep c mem h) : c.h₀.get? h.objs.size = none := by
  cases q : c.h₀.get? h.objs.size with
  | none => rfl
  | some o => exact absurd (Heap.lt_size (R.stay _ _ q)) (Nat.lt_irrefl _)
theorem notSys (R : Rep c mem h) {a : Addr} (e : c.h₀.get? a = none) : (a == sysModules) = false := by
  obtain ⟨o, ho⟩ := R.base.sysm
  refine beq_eq_false_iff_ne.mpr fun q => ?_
  rw [q, ho] at e; cases e
end Rep
theorem Kp.keeps {mem : Mem} {h h' : Heap} (hk : ∀ a o, h.get? a = some o → mem a = none → h'.get? a = some o) : Kp mem h mem h' := ⟨hk, fun _ e n => absurd e n⟩
theorem Kp.push (mem : Mem) (h : Heap) (o : Obj) : Kp mem h mem (h.push o) := .keeps fun _ _ e _ => Heap.get?_push_of_some _ e
/-- the memory with one more or one changed -/
noncomputable def upd (mem : Mem) (a : Addr) (o : AO) : Mem := fun b => if b = a then some o else mem b
theorem upd_same {mem : Mem} {a : Addr} {o : AO} : upd mem a o a = some o := if_pos rfl
theorem upd_ne {mem : Mem} {a b : Addr} {o : AO} (h : b ≠ a) : upd mem a o b = mem b := if_neg h
/-- all that the one holds the other holds -/
noncomputable def Grow (m m' : Mem) : Prop := ∀ a o, m a = some o → m' a = some o
theorem Grow.refl (m : Mem) : Grow m m := fun _ _ e => e
theorem Grow.trans {m₁ m₂ m₃ : Mem} (x : Grow m₁ m₂) (y : Grow m₂ m₃) : Grow m₁ m₃ := fun a o e => y a o (x a o e)
theorem Grow.upd {m : Mem} {a : Addr} {o : AO} (h : m a = none) : Grow m (upd m a o) := fun b o' e => by
  rw [upd_ne]
  · exact e
  · rintro rfl; rw [h] at e; cases e
noncomputable def Room (n : Nat) (A : Around) : Prop := A.handled = none ∧ A.depth + n < 1000 ∧ A.units + 8 * n < 9900
theorem Room.mono {n m : Nat} {A : Around} (h : Room n A) (l : m ≤ n) : Room m A := ⟨h.1, by have := h.2.1; omega, by have := h.2.2; omega⟩
theorem Room.in1 {n : Nat} {A : Around} (h : Room (n + 1) A) : Room n A.in1 := ⟨h.1, by have := h.2.1; show A.depth + n < 1000; omega, by have := h.2.2; show A.units + 1 + 8 * n < 9900; omega⟩
structure Now (c : Cx) (s : Shared) (mem : Mem) (s' : Shared) (mem' : Mem) : Prop where
  rep : Rep c mem' s'.heap
  kp : Kp mem s.heap mem' s'.heap
  shape : ∃ h tk, s' = { s with heap := h, toks := tk }
theorem Now.refl {c : Cx} {s : Shared} {mem : Mem} (R : Rep c mem s.heap) : Now c s mem s mem := ⟨R, Kp.refl _ _, _, _, rfl⟩
theorem Now.trans {c : Cx} {s₁ s₂ s₃ : Shared} {m₁ m₂ m₃ : Mem} (x : Now c s₁ m₁ s₂ m₂) (y : Now c s₂ m₂ s₃ m₃) : Now c s₁ m₁ s₃ m₃ :=
  ⟨y.rep, x.kp.trans y.kp, by obtain ⟨h, t, rfl⟩ := x.shape; obtain ⟨h', t', e⟩ := y.shape; exact ⟨h', t', e⟩⟩
theorem Now.toks {c : Cx} {s : Shared} {mem : Mem} {tk : Nat} (R : Rep c mem s.heap) : Now c s mem { s with toks := tk } mem := ⟨R, Kp.refl _ _, _, _, rfl⟩
theorem Now.push {c : Cx} {s : Shared} {mem : Mem} {tk : Nat} {o : Obj} (R : Rep c mem s.heap) : Now c s mem { s with heap := s.heap.push o, toks := tk } mem := ⟨R.push o, Kp.push _ _ _, _, _, rfl⟩
/-- a tree without a frame -/
noncomputable def T (c : Cx) (n : Nat) {α : Type} (t : Sem α) (mem : Mem) (Q : α → Mem → Prop) : Prop :=
  ∀ (A : Around) (s : Shared), Room n A → Rep c mem s.heap → wpAny c.M A t (fun v s' => ∃ mem', Now c s mem s' mem' ∧ Q v mem') (fun _ _ => False) s
section
variable {c : Cx} {n : Nat} {α β : Type} {mem : Mem}
theorem T.mono {t : Sem α} {Q Q' : α → Mem → Prop} (h : T c n t mem Q) (hq : ∀ v m, Q v m → Q' v m) : T c n t mem Q' :=
  fun A s r R => wpAny_mono (h A s r R) (fun v s' ⟨m, N, q⟩ => ⟨m, N, hq v m q⟩) fun _ _ f => f
theorem T.room {t : Sem α} {Q : α → Mem → Prop} {m : Nat} (h : T c n t mem Q) (l : n ≤ m) : T c m t mem Q := fun A s r R => h A s (r.mono l) R
theorem T.pure {a : α} {Q : α → Mem → Prop} (h : Q a mem) : T c n (pure a) mem Q := fun _ _ _ R => wpAny_pure ⟨mem, Now.refl R, h⟩
theorem T.bind {m : Sem α} {f : α → Sem β} {Q : β → Mem → Prop} (h : T c n m mem (fun a m₁ => T c n (f a) m₁ Q)) : T c n (m >>= f) mem Q :=
  fun A s r R => wpAny_bind (wpAny_mono (h A s r R) (fun a s' ⟨m₁, N, q⟩ => wpAny_mono (q A s' r N.rep) (fun _ _ ⟨m₂, N', q'⟩ => ⟨m₂, N.trans N', q'⟩) fun _ _ f => f) fun _ _ f => f)
end
/-- what stands still about a frame -/
structure Fs where
  sc : Scope
  fn : Bool
structure LocOk (c : Cx) (f : Fs) (ρ : Loc) (mem : Mem) (env : Env) (h : Heap) : Prop where
  sc : env.scope = f.sc
  fn : env.func.isSome = f.fn
  kind : f.sc.kind = .function
  gl : env.globals = mainGlobals
  bi : env.builtins = builtinsNs
  off : mem env.locals = none
  new : c.h₀.get? env.locals = none
  ns : ∃ m, h.Ns env.locals m ∧ ∀ x v, ρ.lookup x = some v → f.sc.names.lookup x = some .local → (m x).map er = some v
  cell : ∀ x v, ρ.lookup x = some v → f.sc.names.lookup x = some .cell → ∃ a u, env.cells.lookup x = some a ∧ h.IsCell a (some u) ∧ er u = v
  cells : ∀ x, f.sc.names.lookup x = some .cell → ∃ a u, env.cells.lookup x = some a ∧ h.IsCell a u ∧ mem a = none ∧ c.h₀.get? a = none ∧ a ≠ env.locals
  apart : ∀ x y a, f.sc.names.lookup x = some .cell → f.sc.names.lookup y = some .cell → env.cells.lookup x = some a → env.cells.lookup y = some a → x = y
theorem LocOk.keeps {c : Cx} {f : Fs} {ρ : Loc} {mem mem' : Mem} {env : Env} {h h' : Heap} (x : LocOk c f ρ mem env h) (k : Kp mem h mem' h') : LocOk c f ρ mem' env h' := by
  obtain ⟨m, ⟨o, es, ep, ho, hd⟩, hm⟩ := x.ns
  have offc : ∀ y a, f.sc.names.lookup y = some .cell → env.cells.lookup y = some a → mem a = none := fun y a h1 h2 => by
    obtain ⟨a', _, h3, _, h4, _⟩ := x.cells y h1
    rw [h2] at h3; cases h3; exact h4
  refine ⟨x.sc, x.fn, x.kind, x.gl, x.bi, k.off ho x.off, x.new, ⟨m, ⟨o, es, ep, k.keep _ _ ho x.off, hd⟩, hm⟩, ?_, ?_, x.apart⟩
  · intro y v h1 h2
    obtain ⟨a, u, h3, ⟨o', h4, h5⟩, h6⟩ := x.cell y v h1 h2
    exact ⟨a, u, h3, ⟨o', k.keep _ _ h4 (offc y a h2 h3), h5⟩, h6⟩
  · intro y h1
    obtain ⟨a, u, h2, ⟨o', h3, h4⟩, h5, h6, h7⟩ := x.cells y h1
    exact ⟨a, u, h2, ⟨o', k.keep _ _ h3 h5, h4⟩, k.off h3 h5, h6, h7⟩
theorem LocOk.weaken {c : Cx} {f : Fs} {ρ ρ' : Loc} {mem : Mem} {env : Env} {h : Heap} (x : LocOk c f ρ mem env h) (hw : ∀ y v, ρ'.lookup y = some v → ρ.lookup y = some v) : LocOk c f ρ' mem env h :=
  ⟨x.sc, x.fn, x.kind, x.gl, x.bi, x.off, x.new, let ⟨m, hn, hm⟩ := x.ns; ⟨m, hn, fun y v h1 h2 => hm y v (hw y v h1) h2⟩, fun y v h1 h2 => x.cell y v (hw y v h1) h2, x.cells, x.apart⟩
/-- a tree in a frame, which leaves the frame as it is -/
noncomputable def TE (c : Cx) (n : Nat) (f : Fs) (ρ : Loc) {α : Type} (t : Env → Sem α) (mem : Mem) (Q : α → Mem → Prop) : Prop :=
  ∀ (A : Around) (s : Shared) (env : Env), Room n A → Rep c mem s.heap → LocOk c f ρ mem env s.heap →
    wpAny c.M A (t env) (fun v s' => ∃ mem', Now c s mem s' mem' ∧ Q v mem') (fun _ _ => False) s
section
variable {c : Cx} {n : Nat} {f : Fs} {ρ : Loc} {α β : Type} {mem : Mem}
theorem TE.mono {t : Env → Sem α} {Q Q' : α → Mem → Prop} (h : TE c n f ρ t mem Q) (hq : ∀ v m, Q v m → Q' v m) : TE c n f ρ t mem Q' :=
  fun A s env r R L => wpAny_mono (h A s env r R L) (fun v s' ⟨m, N, q⟩ => ⟨m, N, hq v m q⟩) fun _ _ f => f
theorem TE.room {t : Env → Sem α} {Q : α → Mem → Prop} {m : Nat} (h : TE c n f ρ t mem Q) (l : n ≤ m) : TE c m f ρ t mem Q := fun A s env r R L => h A s env (r.mono l) R L
theorem TE.of {t : Sem α} {Q : α → Mem → Prop} (h : T c n t mem Q) : TE c n f ρ (fun _ => t) mem Q := fun A s _ r R _ => h A s r R
theorem TE.bind {m : Env → Sem α} {g : α → Env → Sem β} {Q : β → Mem → Prop} (h : TE c n f ρ m mem (fun a m₁ => TE c n f ρ (g a) m₁ Q)) : TE c n f ρ (fun env => m env >>= fun a => g a env) mem Q :=
  fun A s env r R L => wpAny_bind (wpAny_mono (h A s env r R L) (fun _ s' ⟨_, N, q⟩ => wpAny_mono (q A s' env r N.rep (L.keeps N.kp)) (fun _ _ ⟨m₂, N', q'⟩ => ⟨m₂, N.trans N', q'⟩) fun _ _ f => f) fun _ _ f => f)
end
end Mine
end
section
-- Lay2
set_option maxRecDepth 100000
set_option autoImplicit false
set_option linter.unusedVariables false
namespace Mine
open PySem PySem.W PySem.Calls PyProof.Rows
section
variable (c : Cx) (n : Nat) (f : Fs) (ρ : Loc)
noncomputable def Ev (e : Expr) (mem : Mem) (Q : Value → Mem → Prop) : Prop := TE c n f ρ (eval e) mem (fun v m => Q (er v) m)
noncomputable def Tst (e : Expr) (mem : Mem) (Q : Bool → Mem → Prop) : Prop := TE c n f ρ (fun env => isTrue e env (eval e env)) mem Q
noncomputable def Tsts (op : BoolOp) (es : List Expr) (mem : Mem) (Q : Bool → Mem → Prop) : Prop := TE c n f ρ (fun env => allTrue op es env) mem Q
noncomputable def Evs (pos : Pos) (es : List Expr) (mem : Mem) (Q : List Value → Mem → Prop) : Prop := TE c n f ρ (fun env => spliced (backTo pos (starEach es env))) mem (fun vs m => Q (vs.map er) m)
noncomputable def Bin (op : Operator) (a b : Value) (mem : Mem) (Q : Value → Mem → Prop) : Prop := ∀ a' b', er a' = a → er b' = b → T c n (binaryOp op a' b') mem (fun v m => Q (er v) m)
noncomputable def Inp (op : Operator) (a b : Value) (mem : Mem) (Q : Value → Mem → Prop) : Prop := ∀ a' b', er a' = a → er b' = b → T c n (inplaceOp op a' b') mem (fun v m => Q (er v) m)
noncomputable def Cmp (op : CmpOp) (a b : Value) (mem : Mem) (Q : Value → Mem → Prop) : Prop := ∀ a' b', er a' = a → er b' = b → T c n (compareOp op a' b') mem (fun v m => Q (er v) m)
noncomputable def Un (op : UnaryOp) (a : Value) (mem : Mem) (Q : Value → Mem → Prop) : Prop := ∀ a', er a' = a → T c n (unaryOp op a') mem (fun v m => Q (er v) m)
noncomputable def Tru (a : Value) (mem : Mem) (Q : Bool → Mem → Prop) : Prop := ∀ a', er a' = a → T c n (truthy a') mem Q
noncomputable def Cal (fv : Value) (vs : List Value) (mem : Mem) (Q : Value → Mem → Prop) : Prop := ∀ f' vs', er f' = fv → vs'.map er = vs → T c n (call f' vs') mem (fun v m => Q (er v) m)
noncomputable def GetA (o : Value) (name : Str) (mem : Mem) (Q : Value → Mem → Prop) : Prop := ∀ o', er o' = o → T c n (getAttr o' name true) mem (fun v m => Q (er v) m)
noncomputable def SetA (o : Value) (name : Str) (v : Value) (mem : Mem) (Q : Mem → Prop) : Prop := ∀ o' v', er o' = o → er v' = v → T c n (setAttr o' name v') mem (fun _ m => Q m)
noncomputable def Sub (value slice : Expr) (o i : Value) (mem : Mem) (Q : Value → Mem → Prop) : Prop := ∀ o' i', er o' = o → er i' = i → T c n (subscriptTail value slice o' i') mem (fun v m => Q (er v) m)
noncomputable def SetI (o i v : Value) (mem : Mem) (Q : Mem → Prop) : Prop := ∀ o' i' v', er o' = o → er i' = i → er v' = v → T c n (setItem o' i' v') mem (fun _ m => Q m)
noncomputable def Callee (fv : Value) : Prop := ∀ f', er f' = fv → ∀ h : Heap, c.K.In h → ∃ k, (k = Keeper.frame ∨ k = Keeper.machine ∨ k = Keeper.boundFrame) ∧ Looks c.M h (keeperOf f') k
noncomputable def Meth (ov : Value) (name : Str) (mem : Mem) (fv : Value) : Prop := ∀ (ov' : Value) (s : Shared) (A : Around) (pl : Sem Bool) (Q : Value × List Value → Shared → Prop) (E : Value → Shared → Prop), er ov' = ov → Rep c mem s.heap → Q (fv, [ov']) s → wpAny c.M A (getMethod ov' name pl) Q E s
end
section
variable {c : Cx} {n : Nat} {f : Fs} {ρ : Loc} {mem : Mem}
theorem Ev.mono {e : Expr} {Q Q' : Value → Mem → Prop} (h : Ev c n f ρ e mem Q) (hq : ∀ v m, Q v m → Q' v m) : Ev c n f ρ e mem Q' := TE.mono h fun v m => hq (er v) m
theorem Cal.mono {fv : Value} {vs : List Value} {Q Q' : Value → Mem → Prop} (h : Cal c n fv vs mem Q) (hq : ∀ v m, Q v m → Q' v m) : Cal c n fv vs mem Q' := fun f' vs' h1 h2 => (h f' vs' h1 h2).mono fun v m => hq (er v) m
theorem Cal.room {fv : Value} {vs : List Value} {Q : Value → Mem → Prop} {m : Nat} (h : Cal c n fv vs mem Q) (l : n ≤ m) : Cal c m fv vs mem Q := fun f' vs' h1 h2 => (h f' vs' h1 h2).room l
-- constants
theorem ev_int {i : Int} {k : Nat} {pos : Pos} {Q : Value → Mem → Prop} (h : Q (.int i 0) mem) : Ev c n f ρ (.Constant (.int i) k pos) mem Q :=
  fun A s env r R L => wpAny_Constant_int ⟨mem, Now.toks R, h⟩
theorem ev_str {x : Str} {k : Nat} {pos : Pos} {Q : Value → Mem → Prop} (h : Q (.str x 0) mem) : Ev c n f ρ (.Constant (.str x) k pos) mem Q :=
  fun A s env r R L => wpAny_Constant_str ⟨mem, Now.toks R, h⟩
theorem ev_bool {b : Bool} {k : Nat} {pos : Pos} {Q : Value → Mem → Prop} (h : Q (.bool b) mem) : Ev c n f ρ (.Constant (.bool b) k pos) mem Q :=
  fun A s env r R L => wpAny_Constant_bool ⟨mem, Now.refl R, h⟩
theorem ev_none {k : Nat} {pos : Pos} {Q : Value → Mem → Prop} (h : Q .none mem) : Ev c n f ρ (.Constant .none k pos) mem Q :=
  fun A s env r R L => wpAny_Constant_none ⟨mem, Now.refl R, h⟩
-- names
theorem ev_local {x : Str} {pos : Pos} {v : Value} {Q : Value → Mem → Prop} (hv : ρ.lookup x = some v) (hk : f.sc.names.lookup x = some .local) (h : Q v mem)
    (hd : (x == ("__debug__" : Str)) = false := by decide) : Ev c n f ρ (.Name x pos) mem Q := fun A s env r R L => by
  obtain ⟨m, hn, hm⟩ := L.ns
  have := hm x v hv hk
  obtain ⟨u, hu, rfl⟩ := Option.map_eq_some_iff.mp this
  exact wpAny_Name (wpAny_loadName_local (by rw [L.sc]; exact L.kind) (by unfold Env.kindOf; rw [L.sc]; exact hk) hn hu ⟨mem, Now.refl R, h⟩) hd
theorem ev_cell {x : Str} {pos : Pos} {v : Value} {Q : Value → Mem → Prop} (hv : ρ.lookup x = some v) (hk : f.sc.names.lookup x = some .cell) (h : Q v mem)
    (hd : (x == ("__debug__" : Str)) = false := by decide) : Ev c n f ρ (.Name x pos) mem Q := fun A s env r R L => by
  obtain ⟨a, u, ha, hu, rfl⟩ := L.cell x v hv hk
  exact wpAny_Name (wpAny_loadName_cell (by rw [L.sc]; exact L.kind) (by unfold Env.kindOf; rw [L.sc]; exact hk) ha hu ⟨mem, Now.refl R, h⟩) hd
theorem ev_global {x : Str} {pos : Pos} {v : Value} {Q : Value → Mem → Prop} (hv : nsIn c.K mainGlobals x = some (some v)) (hk : f.sc.names.lookup x = some .globalImplicit) (h : Q (er v) mem)
    (hd : (x == ("__debug__" : Str)) = false := by decide) : Ev c n f ρ (.Name x pos) mem Q := fun A s env r R L => by
  obtain ⟨mg, hg⟩ := R.base.g
  refine Name_function_global (by rw [L.sc]; exact L.kind) (by unfold Env.kindOf; rw [L.sc]; exact hk) ?_ hd
  exact loadGlobal_global (by rw [L.gl]; exact hg.keeps R.stay) (mg_of R.base.kin hg hv) ⟨mem, Now.refl R, h⟩
theorem ev_builtin {x : Str} {pos : Pos} {v : Value} {Q : Value → Mem → Prop} (hn : nsIn c.K mainGlobals x = some none) (hv : bootBuiltins x = some v) (hk : f.sc.names.lookup x = some .globalImplicit) (h : Q (er v) mem)
    (hx : x ≠ "__name__" := by decide) (hd : (x == ("__debug__" : Str)) = false := by decide) : Ev c n f ρ (.Name x pos) mem Q := fun A s env r R L => by
  obtain ⟨mg, hg⟩ := R.base.g
  obtain ⟨mb, hb, hbb⟩ := R.base.b
  refine Name_function_global (by rw [L.sc]; exact L.kind) (by unfold Env.kindOf; rw [L.sc]; exact hk) ?_ hd
  exact loadGlobal_builtin (by rw [L.gl]; exact hg.keeps R.stay) (mg_none_of R.base.kin hg hn) (by rw [L.bi]; exact hb.keeps R.stay) ((hbb x hx).trans hv) ⟨mem, Now.refl R, h⟩
theorem step {α : Type} {A : Around} {s : Shared} {t : Sem α} {Q : α → Mem → Prop} {P : α → Shared → Prop} {E : Value → Shared → Prop}
    (h : wpAny c.M A t (fun v s' => ∃ mem', Now c s mem s' mem' ∧ Q v mem') (fun _ _ => False) s) (k : ∀ v s' mem', Now c s mem s' mem' → Q v mem' → P v s') : wpAny c.M A t P E s :=
  wpAny_mono h (fun v s' ⟨m, N, q⟩ => k v s' m N q) fun _ _ f => f.elim
theorem fin {α : Type} {A : Around} {s s₁ : Shared} {mem₁ : Mem} {t : Sem α} {Q : α → Mem → Prop} (N : Now c s mem s₁ mem₁)
    (h : wpAny c.M A t (fun v s' => ∃ mem', Now c s₁ mem₁ s' mem' ∧ Q v mem') (fun _ _ => False) s₁) : wpAny c.M A t (fun v s' => ∃ mem', Now c s mem s' mem' ∧ Q v mem') (fun _ _ => False) s₁ :=
  wpAny_mono h (fun v s' ⟨m, N', q⟩ => ⟨m, N.trans N', q⟩) fun _ _ f => f
-- operators
theorem ev_binop {l r : Expr} {op : Operator} {pos : Pos} {Q : Value → Mem → Prop} (h : Ev c n f ρ l mem (fun a m₁ => Ev c n f ρ r m₁ (fun b m₂ => Bin c n op a b m₂ Q))) : Ev c n f ρ (.BinOp l op r pos) mem Q :=
  fun A s env ro R L => wpAny_BinOp (step (h A s env ro R L) fun a s₁ m₁ N₁ q => step (q A s₁ env ro N₁.rep (L.keeps N₁.kp)) fun b s₂ m₂ N₂ q' => fin (N₁.trans N₂) (q' a b rfl rfl A s₂ ro N₂.rep))
theorem ev_unop {x : Expr} {op : UnaryOp} {pos : Pos} {Q : Value → Mem → Prop} (h : Ev c n f ρ x mem (fun a m₁ => Un c n op a m₁ Q)) : Ev c n f ρ (.UnaryOp op x pos) mem Q :=
  fun A s env ro R L => wpAny_UnaryOp (step (h A s env ro R L) fun a s₁ m₁ N₁ q => fin N₁ (q a rfl A s₁ ro N₁.rep))
theorem ev_cmp {l r : Expr} {op : CmpOp} {pos : Pos} {Q : Value → Mem → Prop} (h : Ev c n f ρ l mem (fun a m₁ => Ev c n f ρ r m₁ (fun b m₂ => Cmp c n op a b m₂ Q)))
    (hm : behindInMarks op r = false := by with_unfolding_all rfl) : Ev c n f ρ (.Compare l [op] [r] pos) mem Q :=
  fun A s env ro R L => wpAny_Compare1 (step (h A s env ro R L) fun a s₁ m₁ N₁ q => step (q A s₁ env ro N₁.rep (L.keeps N₁.kp)) fun b s₂ m₂ N₂ q' => fin (N₁.trans N₂) (q' a b rfl rfl A s₂ ro N₂.rep)) hm
theorem ev_ifexp {t b o : Expr} {pos : Pos} {Q : Value → Mem → Prop} (h : Tst c n f ρ t mem (fun x m₁ => if x then Ev c n f ρ b m₁ Q else Ev c n f ρ o m₁ Q)) : Ev c n f ρ (.IfExp t b o pos) mem Q :=
  fun A s env ro R L => wpAny_IfExp (step (h A s env ro R L) fun x s₁ m₁ N₁ q => by
    cases x with
    | true => exact fin N₁ (q A s₁ env ro N₁.rep (L.keeps N₁.kp))
    | false => exact fin N₁ (q A s₁ env ro N₁.rep (L.keeps N₁.kp)))
-- tests
theorem tst_val {e : Expr} {Q : Bool → Mem → Prop} (h : Ev c n f ρ e mem (fun v m₁ => Tru c n v m₁ Q))
    (he : ∀ env whole, isTrue e env whole = (do let v ← whole; standAt e.pos; holding [v] (truthy v)) := by intro _ _; rfl) : Tst c n f ρ e mem Q :=
  fun A s env ro R L => wpAny_isTrue_value (step (h A s env ro R L) fun v s₁ m₁ N₁ q => fin N₁ (q v rfl A s₁ ro N₁.rep)) (he env _)
theorem tst_cmp {l r : Expr} {op : CmpOp} {pos : Pos} {Q : Bool → Mem → Prop} (h : Ev c n f ρ l mem (fun a m₁ => Ev c n f ρ r m₁ (fun b m₂ => Cmp c n op a b m₂ (fun v m₃ => Tru c n v m₃ Q))))
    (hm : behindInMarks op r = false := by with_unfolding_all rfl) : Tst c n f ρ (.Compare l [op] [r] pos) mem Q :=
  fun A s env ro R L => wpAny_isTrue_Compare1 (step (h A s env ro R L) fun a s₁ m₁ N₁ q => step (q A s₁ env ro N₁.rep (L.keeps N₁.kp)) fun b s₂ m₂ N₂ q' =>
    step (q' a b rfl rfl A s₂ ro N₂.rep) fun v s₃ m₃ N₃ q'' => fin ((N₁.trans N₂).trans N₃) (q'' v rfl A s₃ ro N₃.rep)) hm
theorem tst_not {x : Expr} {pos : Pos} {Q : Bool → Mem → Prop} (h : Tst c n f ρ x mem (fun b m₁ => Q (!b) m₁)) : Tst c n f ρ (.UnaryOp .Not x pos) mem Q :=
  fun A s env ro R L => wpAny_isTrue_Not (h A s env ro R L)
theorem tst_bool {op : BoolOp} {es : List Expr} {pos : Pos} {Q : Bool → Mem → Prop} (h : Tsts c n f ρ op es mem Q) : Tst c n f ρ (.BoolOp op es pos) mem Q :=
  fun A s env ro R L => wpAny_isTrue_BoolOp (h A s env ro R L)
theorem tsts_and_nil {Q : Bool → Mem → Prop} (h : Q true mem) : Tsts c n f ρ .And [] mem Q := fun A s env ro R L => wpAny_allTrue_And_nil ⟨mem, Now.refl R, h⟩
theorem tsts_or_nil {Q : Bool → Mem → Prop} (h : Q false mem) : Tsts c n f ρ .Or [] mem Q := fun A s env ro R L => wpAny_allTrue_Or_nil ⟨mem, Now.refl R, h⟩
theorem tsts_and {e : Expr} {es : List Expr} {Q : Bool → Mem → Prop} (h : Tst c n f ρ e mem (fun b m₁ => if b then Tsts c n f ρ .And es m₁ Q else Q false m₁)) : Tsts c n f ρ .And (e :: es) mem Q :=
  fun A s env ro R L => wpAny_allTrue_And_cons (step (h A s env ro R L) fun b s₁ m₁ N₁ q => by
    cases b with
    | true => exact fin N₁ (q A s₁ env ro N₁.rep (L.keeps N₁.kp))
    | false => exact ⟨m₁, N₁, q⟩)
theorem tsts_or {e : Expr} {es : List Expr} {Q : Bool → Mem → Prop} (h : Tst c n f ρ e mem (fun b m₁ => if b then Q true m₁ else Tsts c n f ρ .Or es m₁ Q)) : Tsts c n f ρ .Or (e :: es) mem Q :=
  fun A s env ro R L => wpAny_allTrue_Or_cons (step (h A s env ro R L) fun b s₁ m₁ N₁ q => by
    cases b with
    | false => exact fin N₁ (q A s₁ env ro N₁.rep (L.keeps N₁.kp))
    | true => exact ⟨m₁, N₁, q⟩)
-- boolean values
theorem ev_and2 {x y : Expr} {pos : Pos} {Q : Value → Mem → Prop} (h : Ev c n f ρ x mem (fun v m₁ => Tru c n v m₁ (fun b m₂ => if b then Ev c n f ρ y m₂ Q else Q v m₂))) : Ev c n f ρ (.BoolOp .And [x, y] pos) mem Q :=
  fun A s env ro R L => wpAny_And2 (step (h A s env ro R L) fun v s₁ m₁ N₁ q => step (q v rfl A s₁ ro N₁.rep) fun b s₂ m₂ N₂ q' => by
    cases b with
    | true => exact fin (N₁.trans N₂) (q' A s₂ env ro N₂.rep (L.keeps (N₁.trans N₂).kp))
    | false => exact ⟨m₂, N₁.trans N₂, q'⟩)
theorem ev_or2 {x y : Expr} {pos : Pos} {Q : Value → Mem → Prop} (h : Ev c n f ρ x mem (fun v m₁ => Tru c n v m₁ (fun b m₂ => if b then Q v m₂ else Ev c n f ρ y m₂ Q))) : Ev c n f ρ (.BoolOp .Or [x, y] pos) mem Q :=
  fun A s env ro R L => wpAny_Or2 (step (h A s env ro R L) fun v s₁ m₁ N₁ q => step (q v rfl A s₁ ro N₁.rep) fun b s₂ m₂ N₂ q' => by
    cases b with
    | false => exact fin (N₁.trans N₂) (q' A s₂ env ro N₂.rep (L.keeps (N₁.trans N₂).kp))
    | true => exact ⟨m₂, N₁.trans N₂, q'⟩)
theorem ev_boolCons {op : BoolOp} {x y z : Expr} {es : List Expr} {pos : Pos} {Q : Value → Mem → Prop}
    (h : Ev c n f ρ x mem (fun v m₁ => Tru c n v m₁ (fun b m₂ => match op, b with | .And, false => Q v m₂ | .Or, true => Q v m₂ | _, _ => Ev c n f ρ (.BoolOp op (y :: z :: es) pos) m₂ Q))) : Ev c n f ρ (.BoolOp op (x :: y :: z :: es) pos) mem Q :=
  fun A s env ro R L => by
    show wpAny _ _ (do let v ← eval x env; standAt pos; let t ← holding [v] (truthy v); match op, t with | .And, false => pure v | .Or, true => pure v | _, _ => boolOp pos op (evalEach (y :: z :: es) env)) _ _ s
    refine wpAny_bind (step (h A s env ro R L) fun v s₁ m₁ N₁ q => wpAny_bind (wpAny_standAt (wpAny_bind (wpAny_holding (step (q v rfl A s₁ ro N₁.rep) fun b s₂ m₂ N₂ q' => ?_)))))
    cases op <;> cases b
    · exact wpAny_pure ⟨m₂, N₁.trans N₂, q'⟩
    · exact fin (N₁.trans N₂) (q' A s₂ env ro N₂.rep (L.keeps (N₁.trans N₂).kp))
    · exact fin (N₁.trans N₂) (q' A s₂ env ro N₂.rep (L.keeps (N₁.trans N₂).kp))
    · exact wpAny_pure ⟨m₂, N₁.trans N₂, q'⟩
-- items and displays
noncomputable def plainE : Expr → Bool
  | .Starred .. => false
  | _ => true
theorem starEach_plain {e : Expr} {es : List Expr} {env : Env} (h : plainE e = true) : starEach (e :: es) env = (false, eval e env) :: starEach es env := by
  cases e <;> first | rfl | cases h
theorem plain_any {es : List Expr} {env : Env} {pos : Pos} (h : es.all plainE = true) : (backTo pos (starEach es env)).any (·.1) = false := by
  induction es with
  | nil => rfl
  | cons e r ih =>
    obtain ⟨h1, h2⟩ := Bool.and_eq_true_iff.mp (by simpa using h : (plainE e && r.all plainE) = true)
    rw [starEach_plain h1]
    show (false || (backTo pos (starEach r env)).any (·.1)) = false
    rw [Bool.false_or]; exact ih h2
theorem evs_nil {pos : Pos} {Q : List Value → Mem → Prop} (h : Q [] mem) : Evs c n f ρ pos [] mem Q := fun A s env ro R L => wpAny_items_nil ⟨mem, Now.refl R, h⟩
theorem evs_cons {pos : Pos} {e : Expr} {es : List Expr} {Q : List Value → Mem → Prop} (h : Ev c n f ρ e mem (fun v m₁ => Evs c n f ρ pos es m₁ (fun vs m₂ => Q (v :: vs) m₂))) (hp : plainE e = true := by rfl) : Evs c n f ρ pos (e :: es) mem Q :=
  fun A s env ro R L => wpAny_items_cons (step (h A s env ro R L) fun v s₁ m₁ N₁ q => fin N₁ (q A s₁ env ro N₁.rep (L.keeps N₁.kp))) (starEach_plain hp)
theorem Now.made {s s₁ : Shared} {mem₁ : Mem} {o : Obj} {ao : AO} (N : Now c s mem s₁ mem₁) (hf : o.isFreed = false) (hi : ∀ m h', h'.get? s₁.heap.objs.size = some o → Is c m h' s₁.heap.objs.size ao) :
    Now c s mem { s₁ with heap := s₁.heap.push o } (upd mem₁ s₁.heap.objs.size ao) := by
  refine N.trans ⟨⟨N.rep.base, fun b o' e => Heap.get?_push_of_some _ (N.rep.stay b o' e), fun a o' e => ?_, fun a o' e => ?_⟩, ⟨fun a o' e _ => Heap.get?_push_of_some _ e, fun a h1 h2 => ?_⟩, _, _, rfl⟩
  · unfold upd at e
    split at e
    · rename_i q; subst q; cases e
      exact hi _ _ (Heap.get?_push_size _ hf)
    · refine (N.rep.at_ a o' e).stays (fun o'' q => Heap.get?_push_of_some _ q) fun d hd => ⟨?_, fun o'' q => Heap.get?_push_of_some _ q⟩
      rw [upd_ne]; exact hd
      exact fun q => Nat.lt_irrefl _ (q ▸ N.rep.lt hd)
  · unfold upd at e
    split at e
    · rename_i q; subst q; exact .inr N.rep.next
    · exact N.rep.new a o' e
  · unfold upd at h2
    split at h2
    · rename_i q; rw [q]
      cases q' : s₁.heap.get? s₁.heap.objs.size with
      | none => rfl
      | some o => exact absurd (Heap.lt_size q') (Nat.lt_irrefl _)
    · exact absurd h1 h2
theorem ev_list {es : List Expr} {pos : Pos} {Q : Value → Mem → Prop} (h : Evs c n f ρ pos es mem (fun vs m₁ => vs.length ≤ 16777216 ∧ ∀ a, m₁ a = none → Q (.ref a) (upd m₁ a (.list vs)))) : Ev c n f ρ (.List es pos) mem Q :=
  fun A s env ro R L => wpAny_List (step (h A s env ro R L) fun vs s₁ m₁ N₁ ⟨hl, q⟩ => ⟨by rw [sizeLine_eq]; simpa using hl, _, N₁.made (ao := .list (vs.map er)) rfl (fun m h' e => ⟨_, _, e, by simp⟩), q _ N₁.rep.free⟩)
theorem ev_tuple {es : List Expr} {k : Nat} {pos : Pos} {Q : Value → Mem → Prop} (h : Evs c n f ρ pos es mem (fun vs m₁ => vs.length ≤ 16777216 ∧ ∀ a, m₁ a = none → Q (.ref a) (upd m₁ a (.tup vs)))) : Ev c n f ρ (.Tuple es k pos) mem Q :=
  fun A s env ro R L => wpAny_Tuple (step (h A s env ro R L) fun vs s₁ m₁ N₁ ⟨hl, q⟩ => ⟨by rw [sizeLine_eq]; simpa using hl, _, N₁.made (ao := .tup (vs.map er)) rfl (fun m h' e => ⟨_, _, e, by simp⟩), q _ N₁.rep.free⟩)
-- calls
theorem callWith_mine {A : Around} {s : Shared} {env : Env} {pos : Pos} {fv : Value} {first : List Value} {es : List Expr} {Q : Value → Mem → Prop} {s₀ : Shared} {mem₀ : Mem} (N₀ : Now c s₀ mem₀ s mem) (ro : Room n A)
    (hk : Callee c (er fv)) (L : LocOk c f ρ mem env s.heap) (hp : es.all plainE = true) (h : Evs c n f ρ pos es mem (fun vs m₂ => Cal c n (er fv) (first.map er ++ vs) m₂ Q)) :
    wpAny c.M A (callWith pos fv first (backTo pos (starEach es env)) []) (fun v s' => ∃ mem', Now c s₀ mem₀ s' mem' ∧ Q (er v) mem') (fun _ _ => False) s := by
  refine callWith_of (P := fun h => c.K.In h) (by rw [plain_any hp]; rfl) (fun h X => hk fv rfl h X) ?_
  cases es with
  | nil =>
    refine evalArgs_nil3 ⟨N₀.rep.kin, ?_⟩
    have h' := h A s env ro N₀.rep L
    refine fin N₀ ?_
    have : wpAny c.M A (pure ([] : List Value)) (fun vs s' => ∃ mem', Now c s mem s' mem' ∧ Cal c n (er fv) (first.map er ++ vs.map er) mem' Q) (fun _ _ => False) s := h'
    have h2 := wpAny_bind (f := fun vs => call fv (first ++ vs)) (step (P := fun vs s' => wpAny c.M A (call fv (first ++ vs)) (fun v s' => ∃ mem', Now c s mem s' mem' ∧ Q (er v) mem') (fun _ _ => False) s') (E := fun _ _ => False) this fun vs s₁ m₁ N₁ q => fin N₁ (q fv (first ++ vs) rfl (by simp) A s₁ ro N₁.rep))
    exact h2
  | cons e r =>
    obtain ⟨h1, h2⟩ := Bool.and_eq_true_iff.mp (by simpa using hp : (plainE e && r.all plainE) = true)
    have h' := h A s env ro N₀.rep L
    dsimp only at h'
    rw [starEach_plain h1] at h' ⊢
    refine evalArgs_plain (step h' fun vs s₁ m₁ N₁ q => ⟨N₁.rep.kin, ?_⟩)
    exact fin (N₀.trans N₁) (q fv (first ++ vs) rfl (by simp) A s₁ ro N₁.rep)
theorem ev_call {x : Str} {np pos : Pos} {es : List Expr} {Q : Value → Mem → Prop} (h : Ev c n f ρ (.Name x np) mem (fun fv m₁ => Callee c fv ∧ Evs c n f ρ pos es m₁ (fun vs m₂ => Cal c n fv vs m₂ Q))) (hp : es.all plainE = true := by rfl) :
    Ev c n f ρ (.Call (.Name x np) es [] pos) mem Q :=
  fun A s env ro R L => Call_ (step (h A s env ro R L) fun fv s₁ m₁ N₁ ⟨hk, q⟩ => callWith_mine N₁ ro hk (L.keeps N₁.kp) hp q)
noncomputable def plainBase : Expr → Bool
  | .Call .. => false
  | _ => true
theorem ev_meth {o : Expr} {name : Str} {apos pos : Pos} {es : List Expr} {Q : Value → Mem → Prop}
    (h : Ev c n f ρ o mem (fun ov m₁ => ∃ fv, Meth c ov name m₁ fv ∧ er fv = fv ∧ Callee c fv ∧ Evs c n f ρ pos es m₁ (fun vs m₂ => Cal c n fv (ov :: vs) m₂ Q)))
    (hp : es.all plainE = true := by rfl) (hb : plainBase o = true := by rfl) (hl : (apos.endLine == pos.line) = true := by rfl) (hs : es.length < 29 := by decide) :
    Ev c n f ρ (.Call (.Attribute o name apos) es [] pos) mem Q := fun A s env ro R L => by
  show wpAny _ _ (eval (.Call (.Attribute o name apos) es [] pos) env) _ _ s
  rw [arm_eval_Call]
  have hbase : attributeBase o name env (eval o env) = eval o env := by cases o <;> first | rfl | cases hb
  rw [hbase]
  refine wpAny_bind (step (h A s env ro R L) fun ov s₁ m₁ N₁ ⟨fv, hm, he, hk, q⟩ => wpAny_bind (wpAny_standAt ?_))
  have hform : methodCallForm (es.length + ([] : List Keyword).length) (backTo pos (starEach es env)) (backToKw pos (keywordEach [] env)) = true := by
    have h1 := plain_any (env := env) (pos := pos) hp
    unfold methodCallForm
    have h2 : (backTo pos (starEach es env)).all (fun x => !x.1) = true := by
      rw [List.all_eq_true]
      intro x hx
      rw [List.any_eq_false] at h1
      simpa using h1 x hx
    rw [h2]
    show (true && true && decide (es.length + 0 + 0 < 30)) = true
    simp; omega
  have hpos : methodCallPos true o env apos pos = pure pos := by unfold methodCallPos; simp [hl]
  unfold methodCall
  rw [hform]
  refine wpAny_bind (wpAny_holding ?_)
  unfold calleeOf
  rw [if_pos rfl]
  refine hm ov s₁ A _ _ _ rfl N₁.rep (wpAny_bind (wpAny_of_eq hpos ?_))
  show wpAny _ _ (callWith pos fv [ov] (backTo pos (starEach es env)) []) _ _ s₁
  rw [← he] at q hk
  exact callWith_mine N₁ ro hk (L.keeps N₁.kp) hp q
-- attributes, places
theorem ev_attr {value : Expr} {attr : Str} {pos : Pos} {Q : Value → Mem → Prop} (h : Ev c n f ρ value mem (fun o m₁ => GetA c n o attr m₁ Q)) (hb : plainBase value = true := by rfl) : Ev c n f ρ (.Attribute value attr pos) mem Q :=
  fun A s env ro R L => Attribute_any_ (step (h A s env ro R L) fun o s₁ m₁ N₁ q => fin N₁ (q o rfl A s₁ ro N₁.rep)) (by cases value <;> first | rfl | cases hb)
theorem ev_sub {value slice : Expr} {pos : Pos} {Q : Value → Mem → Prop} (h : Ev c n f ρ value mem (fun o m₁ => Ev c n f ρ slice m₁ (fun i m₂ => Sub c n value slice o i m₂ Q))) : Ev c n f ρ (.Subscript value slice pos) mem Q :=
  fun A s env ro R L => Subscript_ (step (h A s env ro R L) fun o s₁ m₁ N₁ q => step (q A s₁ env ro N₁.rep (L.keeps N₁.kp)) fun i s₂ m₂ N₂ q' => fin (N₁.trans N₂) (q' o i rfl rfl A s₂ ro N₂.rep))
end
end Mine
end
section
-- Lay3
set_option maxRecDepth 100000
set_option autoImplicit false
set_option linter.unusedVariables false
namespace Mine
open PySem PySem.W PySem.Calls PyProof.Rows
section
variable {c : Cx} {n : Nat} {mem : Mem}
theorem er_one {vs : List Value} {x : Value} (h : vs.map er = [x]) : ∃ v, vs = [v] ∧ er v = x := by
  cases vs with
  | nil => cases h
  | cons v r => cases r with
    | nil => exact ⟨v, rfl, by simpa using h⟩
    | cons _ _ => simp at h
theorem er_two {vs : List Value} {x y : Value} (h : vs.map er = [x, y]) : ∃ v u, vs = [v, u] ∧ er v = x ∧ er u = y := by
  cases vs with
  | nil => cases h
  | cons v r =>
    obtain ⟨h1, h2⟩ := List.cons.inj h
    obtain ⟨u, rfl, hu⟩ := er_one h2
    exact ⟨v, u, rfl, h1, hu⟩
theorem er_three {vs : List Value} {x y z : Value} (h : vs.map er = [x, y, z]) : ∃ v u t, vs = [v, u, t] ∧ er v = x ∧ er u = y ∧ er t = z := by
  cases vs with
  | nil => cases h
  | cons v r =>
    obtain ⟨h1, h2⟩ := List.cons.inj h
    obtain ⟨u, t, rfl, hu⟩ := er_two h2
    exact ⟨v, u, t, rfl, h1, hu⟩
-- ints
theorem bin_add {i j : Int} {Q : Value → Mem → Prop} (h : Q (.int (i + j) 0) mem) : Bin c n .Add (.int i 0) (.int j 0) mem Q := fun a b ha hb A s r R => by
  obtain ⟨t, rfl⟩ := er_int ha; obtain ⟨u, rfl⟩ := er_int hb
  exact add_int ⟨mem, Now.toks R, h⟩
theorem bin_sub {i j : Int} {Q : Value → Mem → Prop} (h : Q (.int (i - j) 0) mem) : Bin c n .Sub (.int i 0) (.int j 0) mem Q := fun a b ha hb A s r R => by
  obtain ⟨t, rfl⟩ := er_int ha; obtain ⟨u, rfl⟩ := er_int hb
  exact sub_int ⟨mem, Now.toks R, h⟩
theorem bin_mul {i j : Int} {Q : Value → Mem → Prop} (hm : IntMulOk i j) (h : Q (.int (i * j) 0) mem) : Bin c n .Mult (.int i 0) (.int j 0) mem Q := fun a b ha hb A s r R => by
  obtain ⟨t, rfl⟩ := er_int ha; obtain ⟨u, rfl⟩ := er_int hb
  exact mul_int ⟨mem, Now.toks R, h⟩ hm
theorem bin_fdiv {i j : Int} {Q : Value → Mem → Prop} (hj : j ≠ 0) (hs : j.natAbs < 1073741824) (h : Q (.int (i.fdiv j) 0) mem) : Bin c n .FloorDiv (.int i 0) (.int j 0) mem Q := fun a b ha hb A s r R => by
  obtain ⟨t, rfl⟩ := er_int ha; obtain ⟨u, rfl⟩ := er_int hb
  exact floordiv_int hj ⟨mem, Now.toks R, h⟩ (.inl (PyProof.noPylong_small hs))
theorem bin_mod {i j : Int} {Q : Value → Mem → Prop} (hj : j ≠ 0) (h : Q (.int (i.fmod j) 0) mem) : Bin c n .Mod (.int i 0) (.int j 0) mem Q := fun a b ha hb A s r R => by
  obtain ⟨t, rfl⟩ := er_int ha; obtain ⟨u, rfl⟩ := er_int hb
  exact mod_int' hj ⟨mem, Now.toks R, h⟩
theorem bin_pow {i j : Int} {Q : Value → Mem → Prop} (h0 : 0 ≤ j) (h1 : j ≤ 1000000) (hi : i.natAbs < 2 ^ 64) (h : Q (.int (i ^ j.toNat) 0) mem) : Bin c n .Pow (.int i 0) (.int j 0) mem Q := fun a b ha hb A s r R => by
  obtain ⟨t, rfl⟩ := er_int ha; obtain ⟨u, rfl⟩ := er_int hb
  exact pow_int_small h0 h1 hi ⟨mem, Now.toks R, h⟩
theorem inp_add {i j : Int} {Q : Value → Mem → Prop} (h : Q (.int (i + j) 0) mem) : Inp c n .Add (.int i 0) (.int j 0) mem Q := fun a b ha hb A s r R => by
  obtain ⟨t, rfl⟩ := er_int ha; obtain ⟨u, rfl⟩ := er_int hb
  exact wpAny_iadd_int ⟨mem, Now.toks R, h⟩
theorem un_neg {i : Int} {Q : Value → Mem → Prop} (h : Q (.int (-i) 0) mem) : Un c n .USub (.int i 0) mem Q := fun a ha A s r R => by
  obtain ⟨t, rfl⟩ := er_int ha
  exact neg_int ⟨mem, Now.toks R, h⟩
theorem cmp_lt {i j : Int} {Q : Value → Mem → Prop} (h : Q (.bool (decide (i < j))) mem) : Cmp c n .Lt (.int i 0) (.int j 0) mem Q := fun a b ha hb A s r R => by
  obtain ⟨t, rfl⟩ := er_int ha; obtain ⟨u, rfl⟩ := er_int hb
  exact lt_int ⟨mem, Now.refl R, h⟩
theorem cmp_gt {i j : Int} {Q : Value → Mem → Prop} (h : Q (.bool (decide (j < i))) mem) : Cmp c n .Gt (.int i 0) (.int j 0) mem Q := fun a b ha hb A s r R => by
  obtain ⟨t, rfl⟩ := er_int ha; obtain ⟨u, rfl⟩ := er_int hb
  exact gt_int ⟨mem, Now.refl R, h⟩
theorem cmp_le {i j : Int} {Q : Value → Mem → Prop} (h : Q (.bool (decide (i ≤ j))) mem) : Cmp c n .LtE (.int i 0) (.int j 0) mem Q := fun a b ha hb A s r R => by
  obtain ⟨t, rfl⟩ := er_int ha; obtain ⟨u, rfl⟩ := er_int hb
  exact le_int ⟨mem, Now.refl R, h⟩
theorem cmp_ge {i j : Int} {Q : Value → Mem → Prop} (h : Q (.bool (decide (j ≤ i))) mem) : Cmp c n .GtE (.int i 0) (.int j 0) mem Q := fun a b ha hb A s r R => by
  obtain ⟨t, rfl⟩ := er_int ha; obtain ⟨u, rfl⟩ := er_int hb
  exact ge_int ⟨mem, Now.refl R, h⟩
theorem cmp_eq {i j : Int} {Q : Value → Mem → Prop} (h : Q (.bool (i == j)) mem) : Cmp c n .Eq (.int i 0) (.int j 0) mem Q := fun a b ha hb A s r R => by
  obtain ⟨t, rfl⟩ := er_int ha; obtain ⟨u, rfl⟩ := er_int hb
  exact eq_int ⟨mem, Now.refl R, h⟩
theorem cmp_ne {i j : Int} {Q : Value → Mem → Prop} (h : Q (.bool (i != j)) mem) : Cmp c n .NotEq (.int i 0) (.int j 0) mem Q := fun a b ha hb A s r R => by
  obtain ⟨t, rfl⟩ := er_int ha; obtain ⟨u, rfl⟩ := er_int hb
  exact ne_int ⟨mem, Now.refl R, h⟩
-- texts
theorem bin_addS {x y : Str} {Q : Value → Mem → Prop} (hl : x.length + y.length ≤ 16777216) (h : Q (.str (x ++ y) 0) mem) : Bin c n .Add (.str x 0) (.str y 0) mem Q := fun a b ha hb A s r R => by
  obtain ⟨t, rfl⟩ := er_str ha; obtain ⟨u, rfl⟩ := er_str hb
  exact PyProof.Rows.add_str (fun t' tk => ⟨mem, Now.toks R, h⟩) (by rw [sizeLine_eq]; exact hl)
-- truth
theorem tru_bool {b : Bool} {Q : Bool → Mem → Prop} (h : Q b mem) : Tru c n (.bool b) mem Q := fun a ha A s r R => by
  obtain rfl := er_bool ha
  exact wpAny_truthy_bool ⟨mem, Now.refl R, h⟩
theorem list_get {h : Heap} (R : Rep c mem h) {a : Addr} {vs : List Value} (e : mem a = some (.list vs)) : ∃ us : List Value, ∃ k, h.get? a = some (listObj us.toArray k) ∧ us.map er = vs := by
  obtain ⟨us, k, h1, h2⟩ := R.at_ a _ e
  exact ⟨us.toList, k, by rw [Array.toArray_toList]; exact h1, h2⟩
theorem isList_of {h : Heap} {a : Addr} {us : List Value} {k : Nat} (e : h.get? a = some (listObj us.toArray k)) : h.IsList a us.toArray := ⟨_, e, rfl, k, rfl⟩
/-- a list: made by the call, or the script -/
noncomputable def LstAt (mem : Mem) (a : Addr) (vs : List Value) : Prop := mem a = some (.list vs) ∨ mem a = some (.ro vs)
theorem LstAt.grow {m m' : Mem} {a : Addr} {vs : List Value} (x : LstAt m a vs) (g : Grow m m') : LstAt m' a vs := x.imp (g _ _) (g _ _)
theorem LstAt.get {h : Heap} (R : Rep c mem h) {a : Addr} {vs : List Value} (e : LstAt mem a vs) : ∃ us : List Value, h.IsList a us.toArray ∧ us.map er = vs := by
  rcases e with e | e
  · obtain ⟨us, k, h1, h2⟩ := list_get R e
    exact ⟨us, isList_of h1, h2⟩
  · obtain ⟨us, h1, h2⟩ := R.at_ a _ e
    exact ⟨us.toList, by rw [Array.toArray_toList]; exact h1, h2⟩
theorem tru_list {a : Addr} {vs : List Value} {Q : Bool → Mem → Prop} (e : LstAt mem a vs) (hl : vs.length < 2 ^ 63) (h : Q (!vs.isEmpty) mem) : Tru c n (.ref a) mem Q := fun a' ha A s r R => by
  obtain rfl := er_ref ha
  obtain ⟨us, h1, rfl⟩ := e.get R
  refine wpAny_truthy_list h1 (by rw [List.size_toArray]; rw [List.length_map] at hl; omega) ⟨mem, Now.toks R, ?_⟩
  cases us <;> exact h
theorem cal_len {a : Addr} {vs : List Value} {Q : Value → Mem → Prop} (e : LstAt mem a vs) (hl : vs.length < 2 ^ 63) (h : Q (.int vs.length 0) mem) : Cal c n (.builtin "len") [.ref a] mem Q := fun f' vs' hf hv A s r R => by
  obtain rfl := er_builtin hf
  obtain ⟨v, rfl, hw⟩ := er_one hv
  obtain rfl := er_ref hw
  obtain ⟨us, h1, rfl⟩ := e.get R
  rw [List.length_map] at hl h
  exact Calls.call_len_list h1 (by rw [List.size_toArray]; omega) ⟨mem, Now.toks R, by rw [List.size_toArray]; exact h⟩
/-- one object of the memory has been changed -/
theorem Now.changed {s s₁ : Shared} {mem₁ : Mem} {a : Addr} {o o' : AO} {h' : Heap} {tk : Nat} (N : Now c s mem s₁ mem₁) (ha : mem₁ a = some o) (hro : ∀ vs, o ≠ .ro vs) (hown : ∀ b, o ≠ .own b)
    (hs : ∀ b, b ≠ a → h'.get? b = s₁.heap.get? b) (hi : ∀ m, Is c m h' a o') : Now c s mem { s₁ with heap := h', toks := tk } (upd mem₁ a o') := by
  have hnew : c.h₀.get? a = none := (N.rep.new a o ha).resolve_left fun ⟨vs, e⟩ => hro vs e
  refine N.trans ⟨⟨N.rep.base, fun b ob e => ?_, fun b ob e => ?_, fun b ob e => ?_⟩, ⟨fun b ob e hb => ?_, fun b h1 h2 => ?_⟩, _, _, rfl⟩
  · rw [hs b (fun q => by rw [q, hnew] at e; cases e)]; exact N.rep.stay b ob e
  · unfold upd at e
    split at e
    · rename_i q; subst q; cases e; exact hi _
    · rename_i q
      refine (N.rep.at_ b ob e).stays (fun o'' z => by rw [hs b q]; exact z) fun d hd => ?_
      have hda : d ≠ a := fun z => by rw [z, ha] at hd; cases hd; exact hown _ rfl
      exact ⟨by rw [upd_ne hda]; exact hd, fun o'' z => by rw [hs d hda]; exact z⟩
  · unfold upd at e
    split at e
    · rename_i q; subst q; exact .inr hnew
    · exact N.rep.new b ob e
  · rw [hs b (fun q => by rw [q, ha] at hb; cases hb)]; exact e
  · unfold upd at h2
    split at h2
    · rename_i q; rw [q, ha] at h1; cases h1
    · exact absurd h1 h2
theorem cal_append {a : Addr} {vs : List Value} {x : Value} {Q : Value → Mem → Prop} (e : mem a = some (.list vs)) (hl : vs.length ≤ 1000000) (h : Q .none (upd mem a (.list (vs ++ [x])))) : Cal c n (.builtin "list.append") [.ref a, x] mem Q := fun f' vs' hf hv A s r R => by
  obtain rfl := er_builtin hf
  obtain ⟨v, u, rfl, hw⟩ := er_two hv
  obtain rfl := er_ref hw.1
  obtain ⟨us, k, h1, rfl⟩ := list_get R e
  rw [List.length_map] at hl
  refine wpAny_list_append_plain ⟨k, h1⟩ (fun h' ⟨k', hp⟩ hs => ⟨_, (Now.refl R).changed (o := .list (us.map er)) (o' := .list (us.map er ++ [x])) e (fun _ q => nomatch q) (fun _ q => nomatch q) hs.2 (fun m => ⟨_, k', hp, ?_⟩), h⟩) (by rw [sizeLine_eq, List.size_toArray]; omega)
  simp [hw.2]
theorem cal_pop {a : Addr} {vs : List Value} {x : Value} {Q : Value → Mem → Prop} (e : mem a = some (.list (vs ++ [x]))) (hl : vs.length ≤ 1000000) (h : Q x (upd mem a (.list vs))) : Cal c n (.builtin "list.pop") [.ref a] mem Q := fun f' vs' hf hv A s r R => by
  obtain rfl := er_builtin hf
  obtain ⟨v, rfl, hw⟩ := er_one hv
  obtain rfl := er_ref hw
  obtain ⟨us, k, h1, h2⟩ := list_get R e
  obtain ⟨us', u, rfl⟩ : ∃ us' u, us = us' ++ [u] := by
    refine ⟨us.dropLast, us.getLast (fun q => by subst q; simp at h2), (List.dropLast_concat_getLast _).symm⟩
  simp only [List.map_append, List.map_cons, List.map_nil] at h2
  obtain ⟨h3, h4⟩ := List.append_inj' h2 rfl
  have h5 : er u = x := by simpa using h4
  have hl' : us'.length ≤ 1000000 := by rw [← h3, List.length_map] at hl; exact hl
  have hk : (us' ++ [u]).toArray.size - 1 = us'.length := by rw [List.size_toArray, List.length_append]; rfl
  have hy : (us' ++ [u]).toArray[(us' ++ [u]).toArray.size - 1]? = some u := by rw [hk]; simp
  refine call_meets PySem.F.slot_list_pop ⟨_, h1, rfl⟩ PySem.F.entry_list_pop (PySem.F.args_list_pop_1 _) (PySem.MeetsSeq.list_pop_last a _ k u hy (by rw [sizeLine_eq, List.size_toArray, List.length_append]; simp; omega)) ⟨h1, ?_⟩
  refine ⟨_, (Now.refl R).changed (o := .list (vs ++ [x])) (o' := .list vs) (tk := s.toks) e (fun _ q => nomatch q) (fun _ q => nomatch q) (Heap.SameBut.update s.heap a _).2 (fun m => ⟨_, _, IsL.update h1 _, ?_⟩), by show Q (er u) _; rw [h5]; exact h⟩
  rw [hk, kl_erase, List.append_nil, ← h3]
end
end Mine
end
section
-- Lay4
set_option maxRecDepth 100000
set_option autoImplicit false
set_option linter.unusedVariables false
namespace Mine
open PySem PySem.W PySem.Calls PyProof.Rows
/-- a dict's pairs with one more or one changed -/
noncomputable def put (kvs : List (Str × Value)) (k : Str) (v : Value) : List (Str × Value) := stored kvs k v
theorem valueAt_eq (kvs : List (Str × Value)) (k : Str) : valueAt kvs k = kvs.lookup k := by
  unfold valueAt
  induction kvs with
  | nil => rfl
  | cons p r ih =>
    obtain ⟨x, v⟩ := p
    by_cases h : x = k
    · subst h; simp
    · have h' : (k == x) = false := beq_eq_false_iff_ne.mpr (Ne.symm h)
      rw [List.find?_cons_of_neg (by simpa using h), ih, List.lookup_cons, h']
theorem lookup_erP (kvs : List (Str × Value)) (k : Str) : (kvs.map erP).lookup k = (kvs.lookup k).map er := by
  induction kvs with
  | nil => rfl
  | cons p r ih =>
    obtain ⟨x, v⟩ := p
    simp only [List.map_cons, erP, List.lookup_cons]
    cases h : k == x <;> simp [ih]
theorem stored_erP (kvs : List (Str × Value)) (k : Str) (v : Value) : (stored kvs k v).map erP = put (kvs.map erP) k (er v) := by
  unfold put stored
  have e : (kvs.map erP).any (fun kv => decide (kv.1 = k)) = kvs.any (fun kv => decide (kv.1 = k)) := by
    rw [List.any_map]; rfl
  rw [e]
  split
  · rw [List.map_map, List.map_map]
    refine List.map_congr_left fun p _ => ?_
    by_cases h : p.1 = k
    · simp [erP, h]
    · simp [erP, h]
  · simp [erP]
theorem put_new {kvs : List (Str × Value)} {k : Str} {v : Value} (h : kvs.lookup k = none) : put kvs k v = kvs ++ [(k, v)] := by
  unfold put stored
  rw [if_neg]
  rw [Bool.not_eq_true, List.any_eq_false]
  intro p hp
  simp only [decide_eq_true_eq]
  rintro rfl
  have := List.lookup_eq_none_iff.mp h p hp
  simp at this
theorem lookup_put {kvs : List (Str × Value)} {k x : Str} {v : Value} : (put kvs k v).lookup x = if x = k then some v else kvs.lookup x := by
  unfold put stored
  split
  · rename_i h
    induction kvs with
    | nil => simp at h
    | cons p r ih =>
      obtain ⟨y, u⟩ := p
      by_cases hy : y = k
      · subst hy
        by_cases hx : x = y
        · subst hx; simp
        · have hb : (x == y) = false := beq_eq_false_iff_ne.mpr hx
          simp only [List.map_cons, if_pos, List.lookup_cons, hb, if_neg hx]
          clear h ih
          induction r with
          | nil => rfl
          | cons q r ih2 =>
            obtain ⟨z, w⟩ := q
            simp only [List.map_cons]
            by_cases hz : z = y
            · subst hz; simp only [if_pos, List.lookup_cons, hb]; exact ih2
            · simp only [if_neg hz, List.lookup_cons]
              cases x == z <;> simp [ih2]
      · have h' : r.any (fun kv => decide (kv.1 = k)) = true := by simpa [hy] using h
        simp only [List.map_cons, if_neg hy, List.lookup_cons]
        cases hb : x == y with
        | true =>
          have : x = y := beq_iff_eq.mp hb
          subst this; simp [hy]
        | false => simp [ih h']
  · rename_i h
    induction kvs with
    | nil =>
      by_cases hx : x = k
      · subst hx; simp
      · have hb : (x == k) = false := beq_eq_false_iff_ne.mpr hx
        simp [List.lookup_cons, hb, hx]
    | cons p r ih =>
      obtain ⟨y, u⟩ := p
      have h2 : ¬ y = k ∧ ¬ r.any (fun kv => decide (kv.1 = k)) = true := by
        constructor
        · rintro rfl; exact h (by simp)
        · intro q; exact h (by simp only [List.any_cons, q, Bool.or_true])
      simp only [List.cons_append, List.lookup_cons]
      cases hb : x == y with
      | true =>
        have : x = y := beq_iff_eq.mp hb
        subst this; simp [h2.1]
      | false => simp [ih h2.2]
section
variable {c : Cx} {n : Nat} {mem : Mem}
theorem dict_get {h : Heap} (R : Rep c mem h) {a : Addr} {kvs : List (Str × Value)} (e : mem a = some (.dict kvs)) : ∃ kus, h.DictOf c.kd a kus ∧ kus.map erP = kvs := R.at_ a _ e
theorem dict_sys {h : Heap} (R : Rep c mem h) {a : Addr} {kvs : List (Str × Value)} (e : mem a = some (.dict kvs)) : (a == sysModules) = false :=
  R.notSys ((R.new a _ e).resolve_left fun ⟨_, q⟩ => nomatch q)
theorem kd_is {x : Str} {t : Tok} : c.kd.is x (.str x t) = true := PySem.strKind_is c.prog c.w x t
theorem ev_dict {f : Fs} {ρ : Loc} {pos : Pos} {Q : Value → Mem → Prop} (h : ∀ a, mem a = none → Q (.ref a) (upd mem a (.dict []))) : Ev c n f ρ (.Dict [] [] pos) mem Q :=
  fun A s env ro R L => wpAny_Dict_empty ⟨_, (Now.refl R).made (ao := .dict []) rfl (fun m h' e => ⟨[], ⟨_, #[], 0, e, ⟨rfl, rfl, rfl⟩, rfl, (fun e he => by simp at he), .nil, List.nodup_nil⟩, rfl⟩), h _ R.free⟩
theorem tail_dict {A : Around} {s : Shared} {value slice : Expr} {a : Addr} {kus : List (Str × Value)} {k : Str} {t : Tok} {v : Value} {Q : Value → Shared → Prop} {E : Value → Shared → Prop}
    (hd : s.heap.DictOf c.kd a kus) (hv : kus.lookup k = some v) (hs : subscripted slice false (.ref a) (.str k t) = operate [.ref a, .str k t] (getItem (.ref a) (.str k t))) (h : Q v { s with toks := s.toks + 1 }) :
    wpAny c.M A (subscriptTail value slice (.ref a) (.str k t)) Q E s :=
  tail_any hd.typeIs PySem.slot_dict_getitem.lookup (wpAny_getItem_of (knd := c.kd) kd_is hd.mapOf (by rw [valueAt_eq]; exact hv) h) hs
noncomputable def plainS : Expr → Bool
  | .Slice .. => false
  | _ => true
theorem plainS_eq {slice : Expr} (h : plainS slice = true) (o i : Value) : subscripted slice false o i = operate [o, i] (getItem o i) := by
  cases slice <;> first | rfl | cases h
theorem sub_dict {value slice : Expr} {a : Addr} {kvs : List (Str × Value)} {k : Str} {v : Value} {Q : Value → Mem → Prop} (e : mem a = some (.dict kvs)) (hv : kvs.lookup k = some v) (h : Q v mem) (hs : plainS slice = true := by rfl) :
    Sub c n value slice (.ref a) (.str k 0) mem Q := fun o i ho hi A s r R => by
  obtain rfl := er_ref ho; obtain ⟨t, rfl⟩ := er_str hi
  obtain ⟨kus, hd, rfl⟩ := dict_get R e
  rw [lookup_erP] at hv
  obtain ⟨u, hu, rfl⟩ := Option.map_eq_some_iff.mp hv
  exact tail_dict hd hu (plainS_eq hs _ _) ⟨mem, Now.toks R, h⟩
theorem sub_list {value slice : Expr} {a : Addr} {vs : List Value} {i : Int} {v : Value} {Q : Value → Mem → Prop} (e : LstAt mem a vs) (h0 : 0 ≤ i) (h1 : i < 2 ^ 63) (hv : vs[i.toNat]? = some v) (h : Q v mem) (hs : plainS slice = true := by rfl) :
    Sub c n value slice (.ref a) (.int i 0) mem Q := fun o j ho hj A s r R => by
  obtain rfl := er_ref ho; obtain ⟨t, rfl⟩ := er_int hj
  obtain ⟨us, hl, rfl⟩ := e.get R
  rw [List.getElem?_map] at hv
  obtain ⟨u, hu, rfl⟩ := Option.map_eq_some_iff.mp hv
  exact tail_any hl.typeIs PySem.slot_list_getitem.lookup (wpAny_getItem_list hl h0 h1 (by simpa using hu) ⟨mem, Now.refl R, h⟩) (plainS_eq hs _ _)
theorem sub_last {value slice : Expr} {a : Addr} {vs : List Value} {v : Value} {Q : Value → Mem → Prop} (e : LstAt mem a (vs ++ [v])) (h : Q v mem) (hs : plainS slice = true := by rfl) :
    Sub c n value slice (.ref a) (.int (-1) 0) mem Q := fun o j ho hj A s r R => by
  obtain rfl := er_ref ho; obtain ⟨t, rfl⟩ := er_int hj
  obtain ⟨us, hl, h2⟩ := e.get R
  obtain ⟨us', u, rfl⟩ : ∃ us' u, us = us' ++ [u] := by
    refine ⟨us.dropLast, us.getLast (fun q => by subst q; simp at h2), (List.dropLast_concat_getLast _).symm⟩
  simp only [List.map_append, List.map_cons, List.map_nil] at h2
  obtain ⟨h3, h4⟩ := List.append_inj' h2 rfl
  have h5 : er u = v := by simpa using h4
  have hz : ((us' ++ [u]).toArray.size : Int) = us'.length + 1 := by simp
  refine tail_any hl.typeIs PySem.slot_list_getitem.lookup (wpAny_getItem_list_neg hl (by decide) (by rw [hz]; omega) (by decide) (x := u) ?_ ⟨mem, Now.refl R, by show Q (er u) _; rw [h5]; exact h⟩) (plainS_eq hs _ _)
  rw [hz]
  have : ((-1 : Int) + (us'.length + 1)).toNat = us'.length := by omega
  rw [this]; simp
theorem seti_list {a : Addr} {vs : List Value} {i : Int} {v : Value} {Q : Mem → Prop} (e : mem a = some (.list vs)) (h0 : 0 ≤ i) (h1 : i < 2 ^ 63) (hn : i < vs.length) (h : Q (upd mem a (.list (vs.set i.toNat v)))) :
    SetI c n (.ref a) (.int i 0) v mem Q := fun o j u ho hj hu A s r R => by
  obtain rfl := er_ref ho; obtain ⟨t, rfl⟩ := er_int hj
  obtain ⟨us, k, hl, rfl⟩ := list_get R e
  rw [List.length_map] at hn
  refine ki_setAt hl h0 h1 (by simpa using hn) ⟨_, (Now.refl R).changed (o := .list (us.map er)) (o' := .list ((us.map er).set i.toNat v)) (tk := s.toks) e (fun _ q => nomatch q) (fun _ q => nomatch q) (Heap.SameBut.update s.heap a _).2 (fun m => ⟨_, _, IsL.update hl _, ?_⟩), h⟩
  rw [← hu]; simp
theorem seti_dict {a : Addr} {kvs : List (Str × Value)} {k : Str} {v : Value} {Q : Mem → Prop} (e : mem a = some (.dict kvs)) (hl : kvs.length ≤ 1000000) (h : Q (upd mem a (.dict (put kvs k v)))) :
    SetI c n (.ref a) (.str k 0) v mem Q := fun o j u ho hj hu A s r R => by
  obtain rfl := er_ref ho; obtain ⟨t, rfl⟩ := er_str hj
  obtain ⟨kus, hd, rfl⟩ := dict_get R e
  rw [List.length_map] at hl
  refine wpAny_setItem_pairs (knd := c.kd) kd_is hd (fun h' hd' hs => ⟨_, (Now.refl R).changed (o := .dict (kus.map erP)) (o' := .dict (put (kus.map erP) k v)) (tk := s.toks + 1) e (fun _ q => nomatch q) (fun _ q => nomatch q) hs.2 (fun m => ⟨_, hd', ?_⟩), h⟩) (by rw [sizeLine_eq]; omega)
  rw [stored_erP, hu]
theorem cmp_inD {a : Addr} {kvs : List (Str × Value)} {k : Str} {Q : Value → Mem → Prop} (e : mem a = some (.dict kvs)) (h : Q (.bool (kvs.lookup k).isSome) mem) : Cmp c n .In (.str k 0) (.ref a) mem Q := fun x y hx hy A s r R => by
  obtain ⟨t, rfl⟩ := er_str hx; obtain rfl := er_ref hy
  obtain ⟨kus, hd, rfl⟩ := dict_get R e
  refine wpAny_in_of (knd := c.kd) kd_is (dict_sys R e) hd.mapOf ⟨mem, Now.toks R, ?_⟩
  rw [lookup_erP, Option.isSome_map] at h
  rw [valueAt_eq]; exact h
theorem cmp_notInD {a : Addr} {kvs : List (Str × Value)} {k : Str} {Q : Value → Mem → Prop} (e : mem a = some (.dict kvs)) (h : Q (.bool (!(kvs.lookup k).isSome)) mem) : Cmp c n .NotIn (.str k 0) (.ref a) mem Q := fun x y hx hy A s r R => by
  obtain ⟨t, rfl⟩ := er_str hx; obtain rfl := er_ref hy
  obtain ⟨kus, hd, rfl⟩ := dict_get R e
  refine wpAny_notIn_of (knd := c.kd) kd_is (dict_sys R e) hd.mapOf ⟨mem, Now.toks R, ?_⟩
  rw [lookup_erP, Option.isSome_map] at h
  rw [valueAt_eq]; exact h
theorem cal_get2 {a : Addr} {kvs : List (Str × Value)} {k : Str} {d : Value} {Q : Value → Mem → Prop} (e : mem a = some (.dict kvs)) (h : Q ((kvs.lookup k).getD d) mem) : Cal c n (.builtin "dict.get") [.ref a, .str k 0, d] mem Q := fun f' vs' hf hv A s r R => by
  obtain rfl := er_builtin hf
  obtain ⟨x, y, z, rfl, hx, hy, hz⟩ := er_three hv
  obtain rfl := er_ref hx; obtain ⟨t, rfl⟩ := er_str hy
  obtain ⟨kus, hd, rfl⟩ := dict_get R e
  refine call_meetsIn PySem.F.slot_dict_get hd.typeIs PySem.F.entry_dict_get (PySem.F.args_dict_get_3 _ _ _) (meets_dict_get_default c.kd a kd_is (dict_sys R e) z) ⟨_, hd.mapOf, mem, Now.toks R, ?_⟩
  rw [lookup_erP] at h
  rw [valueAt_eq]
  cases q : kus.lookup k with
  | none => rw [q] at h; show Q (er z) mem; rw [hz]; exact h
  | some v => rw [q] at h; exact h
theorem cal_get1 {a : Addr} {kvs : List (Str × Value)} {k : Str} {Q : Value → Mem → Prop} (e : mem a = some (.dict kvs)) (h : Q ((kvs.lookup k).getD .none) mem) : Cal c n (.builtin "dict.get") [.ref a, .str k 0] mem Q := fun f' vs' hf hv A s r R => by
  obtain rfl := er_builtin hf
  obtain ⟨x, y, rfl, hx, hy⟩ := er_two hv
  obtain rfl := er_ref hx; obtain ⟨t, rfl⟩ := er_str hy
  obtain ⟨kus, hd, rfl⟩ := dict_get R e
  refine call_meetsIn PySem.F.slot_dict_get hd.typeIs PySem.F.entry_dict_get (PySem.F.args_dict_get_2 _ _) (meets_dict_get c.kd a kd_is (dict_sys R e)) ⟨_, hd.mapOf, mem, Now.toks R, ?_⟩
  rw [lookup_erP] at h
  rw [valueAt_eq]
  cases q : kus.lookup k with
  | none => rw [q] at h; exact h
  | some v => rw [q] at h; exact h
theorem cal_lenD {a : Addr} {kvs : List (Str × Value)} {Q : Value → Mem → Prop} (e : mem a = some (.dict kvs)) (hl : kvs.length < 2 ^ 63) (h : Q (.int kvs.length 0) mem) : Cal c n (.builtin "len") [.ref a] mem Q := fun f' vs' hf hv A s r R => by
  obtain rfl := er_builtin hf
  obtain ⟨v, rfl, hw⟩ := er_one hv
  obtain rfl := er_ref hw
  obtain ⟨kus, hd, rfl⟩ := dict_get R e
  rw [List.length_map] at hl h
  exact call_len_dict (dict_sys R e) hd (by omega) ⟨mem, Now.toks R, h⟩
end
end Mine
end
section
-- Lay5
set_option maxRecDepth 100000
set_option autoImplicit false
set_option linter.unusedVariables false
namespace Mine
open PySem PySem.W PySem.Calls PyProof.Rows
/-- what the written part says of a class of the text's own -/
structure ClsOk (K : Frag) (C : Addr) : Prop where
  get : plainGet K C "x" = true
  dict : hasDictIn K C = true
  cls : findIn K (.ref C) "__class__" = some (some (.builtin "object.__class__"))
  gs : specialIn K (.builtin "object.__class__") "__get__" = some (some (.builtin "getset_descriptor.__get__"))
  tk : takesIn K (.builtin "object.__class__") = some true
  obj : mroIn K C (.type "object") = some true
  set : findIn K (.ref C) "__setattr__" = some (some (.builtin "object.__setattr__"))
  over : plainOver K C = true
  makes : makesIn K C = true
  keep : keepIn K (.ref C) = true
theorem getL_of {es : List DictEntry} (hk : ∀ e ∈ es, ∃ x t, e.key = .str x t) (name : Str) : getL name es = some ((es.find? fun e => e.key.isStr name).map (·.val)) := by
  unfold getL
  cases q : es.find? (fun e => e.key.isStr name) with
  | some e => rfl
  | none =>
    have hr : es.any (·.refKey) = false := by
      rw [List.any_eq_false]
      intro e he
      obtain ⟨x, t, hx⟩ := hk e he
      simp [DictEntry.refKey, hx]
    simp [hr]
theorem isStr_key {x name : Str} {t : Tok} : (Value.str name t).isStr x = decide (x = name) := by
  show (name == x) = _
  by_cases h : x = name
  · subst h; simp
  · rw [decide_eq_false h]; exact beq_eq_false_iff_ne.mpr (Ne.symm h)
theorem find_putL {name x : Str} {hsh : Int} {t : Tok} {v : Value} : ∀ {es : List DictEntry}, (∀ e ∈ es, ∃ x t, e.key = .str x t) →
    (((putL name hsh (.str name t) v es).find? fun e => e.key.isStr x).map fun e => er e.val) = if x = name then some (er v) else (es.find? fun e => e.key.isStr x).map fun e => er e.val
  | [], _ => by
    by_cases h : x = name
    · subst h; simp [putL, isStr_key]
    · simp [putL, isStr_key, h]
  | e :: r, hk => by
    obtain ⟨y, u, hy⟩ := hk e (List.mem_cons_self ..)
    obtain ⟨eh, ek, ev⟩ := e
    dsimp only at hy
    subst hy
    have ih := find_putL (name := name) (x := x) (hsh := hsh) (t := t) (v := v) (es := r) fun e he => hk e (List.mem_cons_of_mem _ he)
    unfold putL
    simp only [isStr_key, decide_eq_true_eq]
    by_cases h1 : name = y
    · subst h1
      simp only [if_pos]
      by_cases h2 : x = name
      · subst h2; simp [isStr_key]
      · simp [isStr_key, h2]
    · rw [if_neg h1]
      by_cases h2 : x = y
      · subst h2
        have : ¬ x = name := fun q => h1 q.symm
        simp [isStr_key, this]
      · simp only [List.find?_cons, isStr_key, decide_eq_false h2]
        rw [ih]
theorem putL_keys {name : Str} {hsh : Int} {t : Tok} {v : Value} : ∀ {es : List DictEntry}, (∀ e ∈ es, ∃ x t, e.key = .str x t) → ∀ e ∈ putL name hsh (.str name t) v es, ∃ x t, e.key = .str x t
  | [], _, e, he => by
    simp [putL] at he; subst he; exact ⟨_, _, rfl⟩
  | e :: r, hk, e', he => by
    unfold putL at he
    split at he
    · rcases List.mem_cons.mp he with rfl | he
      · exact hk e (List.mem_cons_self ..)
      · exact hk e' (List.mem_cons_of_mem _ he)
    · rcases List.mem_cons.mp he with rfl | he
      · exact hk e' (List.mem_cons_self ..)
      · exact putL_keys (fun e he => hk e (List.mem_cons_of_mem _ he)) e' he
theorem putL_length {name : Str} {hsh : Int} {key v : Value} : ∀ es : List DictEntry, (putL name hsh key v es).length ≤ es.length + 1
  | [] => by simp [putL]
  | e :: r => by
    unfold putL
    split
    · simp
    · simp only [List.length_cons]; exact Nat.succ_le_succ (putL_length r)
section
variable {c : Cx} {n : Nat} {mem : Mem}
theorem inst_at {h : Heap} (R : Rep c mem h) {a C : Addr} {fs : List (Str × Value)} (e : mem a = some (.inst C fs)) :
    ∃ d es k, InstAt h a (instObj C d) C (some (dictOf es k)) ∧ h.get? a = some (instObj C d) ∧ mem d = some (.own a) ∧ h.get? d = some (dictOf es k) ∧ es.length ≤ fs.length ∧ (∀ e ∈ es, ∃ x t, e.key = .str x t) ∧
      ∀ x, ((es.find? fun e => e.key.isStr x).map fun e => er e.val) = fs.lookup x := by
  obtain ⟨d, es, k, h1, h2, h3, r⟩ := R.at_ a _ e
  exact ⟨d, es, k, ⟨h1, rfl, rfl, h3⟩, h1, h2, h3, r⟩
theorem handedIn_of {v : Value} (h : ∀ i, v ≠ .builtin i) : handedIn v = true := by
  cases v <;> first | rfl | exact absurd rfl (h _)
theorem geta_inst {a C : Addr} {fs : List (Str × Value)} {name : Str} {v : Value} {Q : Value → Mem → Prop} (ok : ClsOk c.K C) (e : mem a = some (.inst C fs)) (hv : fs.lookup name = some v) (hnb : ∀ i, v ≠ .builtin i)
    (ha : findIn c.K (.ref C) name = some none) (h : Q v mem) : GetA c n (.ref a) name mem Q := fun o' ho A s r R => by
  obtain rfl := er_ref ho
  obtain ⟨d, es, k, I, h1, h2, h3, h4, h5, h6⟩ := inst_at R e
  have hm := h6 name
  rw [hv] at hm
  obtain ⟨u, hu, rfl⟩ := Option.map_eq_some_iff.mp hm
  have hb : handedIn u.val = true := handedIn_of fun i q => by rw [q] at hnb; exact hnb i rfl
  exact get_value R.kin I (plainGet_of (name := name) ok.get).1 (findObj_own ok.dict ha rfl (by rw [lookIn_dict, getL_of h5, hu]; rfl)) hb ⟨mem, Now.toks R, h⟩
theorem seta_inst {a C : Addr} {fs : List (Str × Value)} {name : Str} {v : Value} {Q : Mem → Prop} (ok : ClsOk c.K C) (e : mem a = some (.inst C fs)) (ht : takerIn c.K C name = some none) (hl : fs.length ≤ 1000)
    (h : Q (upd mem a (.inst C ((name, v) :: fs)))) : SetA c n (.ref a) name v mem Q := fun o' v' ho hv A s r R => by
  obtain rfl := er_ref ho
  obtain ⟨d, es, k, I, h1, h2, h3, h4, h5, h6⟩ := inst_at R e
  refine set_plain R.kin I ok.set ?_
  have R' : Rep c mem ({ s with toks := s.toks + 1 } : Shared).heap := R
  refine osa_open (s := { s with toks := s.toks + 1 }) R'.kin I ok.over ht fun b => ?_
  obtain ⟨cd, hc, hd'⟩ := any_some ok.dict
  have hnew : c.h₀.get? d = none := (R.new d _ h2).resolve_left fun ⟨_, q⟩ => nomatch q
  have hda : d ≠ a := fun q => by rw [q, e] at h2; cases h2
  refine wpAny_bind (wpAny_pure (wpAny_bind (wpAny_bind (wpAny_loadPart h1 (wpAny_bind ((looks_clsIn R'.kin hc).here ?_))))))
  rw [hd']
  refine wpAny_pure (a := some d) (wpAny_bind (wpAny_pure (wpAny_bind ?_)))
  unfold nsSet
  refine wpAny_bind (wpAny_bind (wpAny_askSetting (wpAny_pure (wpAny_bind (wpAny_mkText (wpAny_bind (wpAny_loadPart h3 ?_)))))))
  dsimp only
  have hc2 : (!es.toArray.any (fun x => x.key.isStr name) && es.toArray.any (·.refKey)) = false := by
    have : es.toArray.any (·.refKey) = false := by
      rw [List.any_toArray, List.any_eq_false]
      intro e he
      obtain ⟨x, t, hx⟩ := h5 e he
      simp [DictEntry.refKey, hx]
    rw [this, Bool.and_false]
  rw [aRefKeyMayBeTheName_at, hc2]
  refine wpAny_updatePart h3 ?_
  have g : ∀ tk hs, (s.heap.update d (Obj.putName name hs (.str name tk) v')).get? d = some (dictOf (putL name hs (.str name tk) v' es) (putN name es k)) := fun tk hs => by
    rw [Heap.get?_update_self _ h3 (by rw [putName_dict]; rfl), putName_dict]
  refine wpAny_bind (wpAny_lookBehind (g _ _) (pastItsLine_dict (by rw [List.size_toArray]; exact Nat.le_trans (putL_length es) (by rw [sizeLine_eq]; omega))) ?_)
  refine wpAny_pure ⟨_, ⟨⟨R.base, fun b ob eb => ?_, fun b ob eb => ?_, fun b ob eb => ?_⟩, ⟨fun b ob eb hb => ?_, fun b q1 q2 => ?_⟩, _, _, rfl⟩, h⟩
  · show (s.heap.update d _).get? b = _
    rw [Heap.get?_update_other _ _ (fun q => by rw [q, eb] at hnew; cases hnew)]; exact R.stay b ob eb
  · unfold upd at eb
    split at eb
    · rename_i q; subst q; cases eb
      refine ⟨d, putL name _ (.str name (s.toks + 1)) v' es, putN name es k, ?_, by rw [upd_ne hda]; exact h2, g _ _, Nat.le_trans (putL_length es) (by simp; omega), putL_keys h5, fun x => ?_⟩
      · show (s.heap.update d _).get? b = _
        rw [Heap.get?_update_other _ _ hda]; exact h1
      · rw [find_putL h5, List.lookup_cons, h6 x, hv]
        by_cases hx : x = name
        · subst hx; simp
        · rw [if_neg hx, show (x == name) = false from beq_eq_false_iff_ne.mpr hx]
    · rename_i q
      have hbd : ob ≠ .own a → b ≠ d := fun hz q => by rw [q, h2] at eb; cases eb; exact hz rfl
      cases ob with
      | own b' =>
        by_cases hbd' : b = d
        · subst hbd'; exact ⟨_, g _ _⟩
        · obtain ⟨o, ho⟩ := R.at_ b _ eb
          exact ⟨o, by show (s.heap.update d _).get? b = _; rw [Heap.get?_update_other _ _ (Ne.symm hbd')]; exact ho⟩
      | _ =>
        refine (R.at_ b _ eb).stays (fun o'' z => by show (s.heap.update d _).get? b = _; rw [Heap.get?_update_other _ _ (Ne.symm (hbd fun z => nomatch z))]; exact z) fun d' hd' => ?_
        have hdd : d' ≠ d := fun z => by rw [z, h2] at hd'; cases hd'; exact q rfl
        have hda' : d' ≠ a := fun z => by rw [z, e] at hd'; cases hd'
        exact ⟨by rw [upd_ne hda']; exact hd', fun o'' z => by show (s.heap.update d _).get? d' = _; rw [Heap.get?_update_other _ _ (Ne.symm hdd)]; exact z⟩
  · unfold upd at eb
    split at eb
    · rename_i q; subst q; exact .inr ((R.new b _ e).resolve_left fun ⟨_, z⟩ => nomatch z)
    · exact R.new b ob eb
  · show (s.heap.update d _).get? b = _
    rw [Heap.get?_update_other _ _ (fun q => by rw [← q, h2] at hb; cases hb)]; exact eb
  · unfold upd at q2
    split at q2
    · rename_i q; rw [q, e] at q1; cases q1
    · exact absurd q1 q2
end
end Mine
end
section
-- Lay6
set_option maxRecDepth 100000
set_option autoImplicit false
set_option linter.unusedVariables false
namespace Mine
open PySem PySem.W PySem.Calls PyProof.Rows
structure KpX (env : Env) (mem : Mem) (h : Heap) (mem' : Mem) (h' : Heap) : Prop where
  keep : ∀ a o, h.get? a = some o → mem a = none → a ≠ env.locals → (env.func.isSome = true → ∀ x, env.cells.lookup x ≠ some a) → h'.get? a = some o
  fresh : ∀ a, mem a = none → mem' a ≠ none → h.get? a = none
theorem KpX.off {env : Env} {mem mem' : Mem} {h h' : Heap} (x : KpX env mem h mem' h') {a : Addr} {o : Obj} (e : h.get? a = some o) (n : mem a = none) : mem' a = none := by
  cases q : mem' a with
  | none => rfl
  | some o' =>
    have := x.fresh a n (by rw [q]; exact fun z => nomatch z)
    rw [e] at this; cases this
theorem KpX.of {env : Env} {mem mem' : Mem} {h h' : Heap} (x : Kp mem h mem' h') : KpX env mem h mem' h' := ⟨fun a o e n _ _ => x.keep a o e n, x.fresh⟩
/-- own places of a frame -/
noncomputable def OwnOf (env : Env) (a : Addr) : Prop := a = env.locals ∨ (env.func.isSome = true ∧ ∃ x, env.cells.lookup x = some a)
theorem KpX.keepN {env : Env} {mem mem' : Mem} {h h' : Heap} (x : KpX env mem h mem' h') {a : Addr} {o : Obj} (e : h.get? a = some o) (n : mem a = none) (hn : ¬ OwnOf env a) : h'.get? a = some o :=
  x.keep a o e n (fun q => hn (.inl q)) fun hf y q => hn (.inr ⟨hf, y, q⟩)
theorem KpX.trans {env : Env} {m₁ m₂ m₃ : Mem} {h₁ h₂ h₃ : Heap} (x : KpX env m₁ h₁ m₂ h₂) (y : KpX env m₂ h₂ m₃ h₃) (hown : ∀ a o, OwnOf env a → h₁.get? a = some o → ∃ o', h₂.get? a = some o') : KpX env m₁ h₁ m₃ h₃ where
  keep := fun a o e n h1 h2 => y.keep a o (x.keep a o e n h1 h2) (x.off e n) h1 h2
  fresh := fun a n n' => by
    cases q : m₂ a with
    | none =>
      have h2 := y.fresh a q n'
      cases q' : h₁.get? a with
      | none => rfl
      | some o =>
        by_cases ho : OwnOf env a
        · obtain ⟨o', e⟩ := hown a o ho q'; rw [h2] at e; cases e
        · rw [x.keepN q' n ho] at h2; cases h2
    | some o' => exact x.fresh a n (by rw [q]; exact fun z => nomatch z)
structure NowX (c : Cx) (env : Env) (s : Shared) (mem : Mem) (s' : Shared) (mem' : Mem) : Prop where
  rep : Rep c mem' s'.heap
  kp : KpX env mem s.heap mem' s'.heap
  shape : ∃ h tk, s' = { s with heap := h, toks := tk }
  own : ∀ a o, OwnOf env a → s.heap.get? a = some o → ∃ o', s'.heap.get? a = some o'
theorem LocOk.ownNone {c : Cx} {f : Fs} {ρ : Loc} {mem : Mem} {env : Env} {h : Heap} (L : LocOk c f ρ mem env h) (hc : ∀ x a, env.func.isSome = true → env.cells.lookup x = some a → f.sc.names.lookup x = some .cell) {a : Addr} (ho : OwnOf env a) : mem a = none := by
  rcases ho with rfl | ⟨h1, x, h2⟩
  · exact L.off
  · obtain ⟨a', u, h3, _, h4, _⟩ := L.cells x (hc x a h1 h2)
    rw [h2] at h3; cases h3; exact h4
theorem NowX.of {c : Cx} {env : Env} {s s' : Shared} {mem mem' : Mem} (N : Now c s mem s' mem') (hown : ∀ a o, OwnOf env a → s.heap.get? a = some o → mem a = none) : NowX c env s mem s' mem' :=
  ⟨N.rep, .of N.kp, N.shape, fun a o ho e => ⟨o, N.kp.keep a o e (hown a o ho e)⟩⟩
theorem NowX.refl {c : Cx} {env : Env} {s : Shared} {mem : Mem} (R : Rep c mem s.heap) : NowX c env s mem s mem := ⟨R, .of (Kp.refl _ _), ⟨_, _, rfl⟩, fun a o _ e => ⟨o, e⟩⟩
theorem NowX.trans {c : Cx} {env : Env} {s₁ s₂ s₃ : Shared} {m₁ m₂ m₃ : Mem} (x : NowX c env s₁ m₁ s₂ m₂) (y : NowX c env s₂ m₂ s₃ m₃) : NowX c env s₁ m₁ s₃ m₃ :=
  ⟨y.rep, x.kp.trans y.kp x.own, by obtain ⟨h, t, rfl⟩ := x.shape; obtain ⟨h', t', e⟩ := y.shape; exact ⟨h', t', e⟩,
   fun a o ho e => let ⟨o', e'⟩ := x.own a o ho e; y.own a o' ho e'⟩
/-- the cells of the frame are those that its scope names -/
noncomputable def CellsOnly (f : Fs) (env : Env) : Prop := ∀ x a, env.func.isSome = true → env.cells.lookup x = some a → f.sc.names.lookup x = some .cell
/-- a tree in a frame, which may store its names -/
noncomputable def TX (c : Cx) (n : Nat) (f : Fs) (ρ : Loc) {α : Type} (t : Env → Sem α) (mem : Mem) (Q : α → Loc → Mem → Prop) : Prop :=
  ∀ (A : Around) (s : Shared) (env : Env), Room n A → Rep c mem s.heap → LocOk c f ρ mem env s.heap → CellsOnly f env →
    wpAny c.M A (t env) (fun v s' => ∃ mem' ρ', NowX c env s mem s' mem' ∧ LocOk c f ρ' mem' env s'.heap ∧ Q v ρ' mem') (fun _ _ => False) s
section
variable {c : Cx} {n : Nat} {f : Fs} {ρ : Loc} {α β : Type} {mem : Mem}
theorem TX.mono {t : Env → Sem α} {Q Q' : α → Loc → Mem → Prop} (h : TX c n f ρ t mem Q) (hq : ∀ v r m, Q v r m → Q' v r m) : TX c n f ρ t mem Q' :=
  fun A s env r R L C => wpAny_mono (h A s env r R L C) (fun v s' ⟨m, ρ', N, L', q⟩ => ⟨m, ρ', N, L', hq v ρ' m q⟩) fun _ _ f => f
theorem TX.room {t : Env → Sem α} {Q : α → Loc → Mem → Prop} {m : Nat} (h : TX c n f ρ t mem Q) (l : n ≤ m) : TX c m f ρ t mem Q := fun A s env r R L C => h A s env (r.mono l) R L C
theorem TX.pure {a : α} {Q : α → Loc → Mem → Prop} (h : Q a ρ mem) : TX c n f ρ (fun _ => pure a) mem Q := fun _ _ _ _ R L _ => wpAny_pure ⟨mem, ρ, .refl R, L, h⟩
theorem TX.of {t : Env → Sem α} {Q : α → Loc → Mem → Prop} (h : TE c n f ρ t mem (fun v m => Q v ρ m)) : TX c n f ρ t mem Q :=
  fun A s env r R L C => wpAny_mono (h A s env r R L) (fun v s' ⟨m, N, q⟩ => ⟨m, ρ, .of N fun a o ho _ => L.ownNone C ho, L.keeps N.kp, q⟩) fun _ _ f => f
theorem TX.bind {t : Env → Sem α} {g : α → Env → Sem β} {Q : β → Loc → Mem → Prop} (h : TX c n f ρ t mem (fun a ρ₁ m₁ => TX c n f ρ₁ (g a) m₁ Q)) : TX c n f ρ (fun env => t env >>= fun a => g a env) mem Q :=
  fun A s env r R L C => wpAny_bind (wpAny_mono (h A s env r R L C) (fun a s' ⟨m₁, ρ₁, N, L', q⟩ => wpAny_mono (q A s' env r N.rep L' C) (fun _ _ ⟨m₂, ρ₂, N', L'', q'⟩ => ⟨m₂, ρ₂, N.trans N', L'', q'⟩) fun _ _ f => f) fun _ _ f => f)
theorem mem_of_look : ∀ {ρ : Loc} {y : Str} {v : Value}, ρ.lookup y = some v → (y, v) ∈ ρ
  | [], _, _, e => by cases e
  | (x, u) :: r, y, v, e => by
    rw [List.lookup_cons] at e
    cases q : y == x with
    | true => rw [q] at e; cases e; rw [beq_iff_eq.mp q]; exact List.mem_cons_self ..
    | false => rw [q] at e; exact List.mem_cons_of_mem _ (mem_of_look e)
theorem TX.weaken {ρ' : Loc} {t : Env → Sem α} {Q : α → Loc → Mem → Prop} (hw : ∀ p ∈ ρ', ρ.lookup p.1 = some p.2) (h : TX c n f ρ' t mem Q) : TX c n f ρ t mem Q :=
  fun A s env r R L C => h A s env r R (L.weaken fun y v e => hw (y, v) (mem_of_look e)) C
theorem xstep {A : Around} {s : Shared} {env : Env} {t : Sem α} {Q : α → Loc → Mem → Prop} {P : α → Shared → Prop} {E : Value → Shared → Prop}
    (h : wpAny c.M A t (fun v s' => ∃ mem' ρ', NowX c env s mem s' mem' ∧ LocOk c f ρ' mem' env s'.heap ∧ Q v ρ' mem') (fun _ _ => False) s)
    (k : ∀ v s' mem' ρ', NowX c env s mem s' mem' → LocOk c f ρ' mem' env s'.heap → Q v ρ' mem' → P v s') : wpAny c.M A t P E s :=
  wpAny_mono h (fun v s' ⟨m, ρ', N, L, q⟩ => k v s' m ρ' N L q) fun _ _ f => f.elim
theorem xfin {A : Around} {s s₁ : Shared} {env : Env} {mem₁ : Mem} {t : Sem α} {Q : α → Loc → Mem → Prop} (N : NowX c env s mem s₁ mem₁)
    (h : wpAny c.M A t (fun v s' => ∃ mem' ρ', NowX c env s₁ mem₁ s' mem' ∧ LocOk c f ρ' mem' env s'.heap ∧ Q v ρ' mem') (fun _ _ => False) s₁) :
    wpAny c.M A t (fun v s' => ∃ mem' ρ', NowX c env s mem s' mem' ∧ LocOk c f ρ' mem' env s'.heap ∧ Q v ρ' mem') (fun _ _ => False) s₁ :=
  wpAny_mono h (fun v s' ⟨m, ρ', N', r⟩ => ⟨m, ρ', N.trans N', r⟩) fun _ _ f => f
end
section
variable (c : Cx) (n : Nat) (f : Fs) (ρ : Loc)
noncomputable def FlowOk (N : Loc → Mem → Prop) (R : Value → Mem → Prop) (fl : Flow) (ρ : Loc) (mem : Mem) : Prop := match fl with
  | .next => N ρ mem
  | .ret v => R (er v) mem
  | _ => False
noncomputable def St (st : Stmt) (mem : Mem) (N : Loc → Mem → Prop) (R : Value → Mem → Prop) : Prop := TX c n f ρ (exec st) mem (FlowOk N R)
noncomputable def Sts (sts : List Stmt) (mem : Mem) (N : Loc → Mem → Prop) (R : Value → Mem → Prop) : Prop := TX c n f ρ (execs sts) mem (FlowOk N R)
noncomputable def As (t : Expr) (v : Value) (mem : Mem) (Q : Loc → Mem → Prop) : Prop := ∀ v', er v' = v → TX c n f ρ (fun env => assign t env v') mem (fun _ ρ m => Q ρ m)
noncomputable def Ass (ts : List Expr) (vs : List Value) (mem : Mem) (Q : Loc → Mem → Prop) : Prop := ∀ vs', vs'.map er = vs → TX c n f ρ (fun env => assignInOrder ((assignEach ts env).map (·.2)) vs') mem (fun _ ρ m => Q ρ m)
noncomputable def Sto (x : Str) (v : Value) (mem : Mem) (Q : Loc → Mem → Prop) : Prop := ∀ v', er v' = v → TX c n f ρ (fun env => storeName env x v') mem (fun _ ρ m => Q ρ m)
end
section
variable {c : Cx} {n : Nat} {f : Fs} {ρ : Loc} {mem : Mem}
theorem heap_ext {s : Shared} {h' : Heap} {a : Addr} (R : Rep c mem s.heap) (hm : mem a = none) (h0 : c.h₀.get? a = none) (hs : Heap.SameBut a s.heap h') : Rep c mem h' :=
  R.ext fun b o e hb => by
    rw [hs.2 b (fun q => by subst q; rcases hb with hb | hb; rw [h0] at hb; cases hb; exact hb hm)]; exact e
/-- what the frame's names hold when one more is stored -/
theorem lookup_cons_ne {x y : Str} {v : Value} {ρ : Loc} (h : y ≠ x) : ((x, v) :: ρ : Loc).lookup y = ρ.lookup y := by
  rw [List.lookup_cons, show (y == x) = false from beq_eq_false_iff_ne.mpr h]
theorem sto_local {x : Str} {v : Value} {Q : Loc → Mem → Prop} (hk : f.sc.names.lookup x = some .local) (h : Q ((x, v) :: ρ) mem) : Sto c n f ρ x v mem Q := fun v' hv A s env r R L C => by
  obtain ⟨m, hn, hm⟩ := L.ns
  refine wpAny_storeName_local (by unfold Env.kindOf; rw [L.sc]; exact hk) hn (fun h' hn' hs => ?_) (by rw [L.sc, L.kind]; rfl)
  have hoc : ∀ y a, f.sc.names.lookup y = some .cell → env.cells.lookup y = some a → a ≠ env.locals := fun y a h1 h2 => by
    obtain ⟨a', u, h3, _, _, _, h4⟩ := L.cells y h1
    rw [h2] at h3; cases h3; exact h4
  refine ⟨mem, (x, v) :: ρ, ⟨heap_ext R L.off L.new hs, ⟨fun a o e _ ha _ => by rw [hs.2 a ha]; exact e, fun _ e q => absurd e q⟩, ⟨_, _, rfl⟩, fun a o ho e => ?_⟩, ⟨L.sc, L.fn, L.kind, L.gl, L.bi, L.off, L.new, ⟨_, hn', fun y w h1 h2 => ?_⟩, fun y w h1 h2 => ?_, fun y h1 => ?_, L.apart⟩, h⟩
  · by_cases q : a = env.locals
    · subst q; obtain ⟨o', _, _, ho', _⟩ := hn'; exact ⟨o', ho'⟩
    · exact ⟨o, by rw [hs.2 a q]; exact e⟩
  · by_cases q : y = x
    · subst q
      rw [List.lookup_cons, beq_self_eq_true] at h1
      cases h1; simp [hv]
    · rw [lookup_cons_ne q] at h1
      simp only [if_neg q]; exact hm y w h1 h2
  · have q : y ≠ x := fun q => by rw [q, hk] at h2; cases h2
    rw [lookup_cons_ne q] at h1
    obtain ⟨a, u, h3, h4, h5⟩ := L.cell y w h1 h2
    exact ⟨a, u, h3, h4.sameBut hs (hoc y a h2 h3), h5⟩
  · obtain ⟨a, u, h3, h4, h5⟩ := L.cells y h1
    exact ⟨a, u, h3, h4.sameBut hs (hoc y a h1 h3), h5⟩
theorem sto_cell {x : Str} {v : Value} {Q : Loc → Mem → Prop} (hk : f.sc.names.lookup x = some .cell) (hf : f.fn = true) (h : Q ((x, v) :: ρ) mem) : Sto c n f ρ x v mem Q := fun v' hv A s env r R L C => by
  obtain ⟨m, hn, hm⟩ := L.ns
  obtain ⟨a, u, ha, hu, h1, h2, h3⟩ := L.cells x hk
  refine wpAny_storeName_cell (by rw [L.sc]; exact L.kind) (by unfold Env.kindOf; rw [L.sc]; exact hk) ha hu fun h' hc hs => ?_
  refine ⟨mem, (x, v) :: ρ, ⟨heap_ext R h1 h2 hs, ⟨fun b o e _ _ hb => by rw [hs.2 b (fun q => hb (by rw [L.fn]; exact hf) x (by rw [q]; exact ha))]; exact e, fun _ e q => absurd e q⟩, ⟨_, _, rfl⟩, fun b o ho e => ?_⟩, ⟨L.sc, L.fn, L.kind, L.gl, L.bi, L.off, L.new, ⟨_, hn.sameBut hs (Ne.symm h3), fun y w q1 q2 => ?_⟩, fun y w q1 q2 => ?_, fun y q1 => ?_, L.apart⟩, h⟩
  · by_cases q : b = a
    · subst q; obtain ⟨o', ho', _⟩ := hc; exact ⟨o', ho'⟩
    · exact ⟨o, by rw [hs.2 b q]; exact e⟩
  · have q : y ≠ x := fun q => by rw [q, hk] at q2; cases q2
    rw [lookup_cons_ne q] at q1
    exact hm y w q1 q2
  · by_cases q : y = x
    · subst q
      rw [List.lookup_cons, beq_self_eq_true] at q1
      cases q1
      exact ⟨a, v', ha, hc, hv⟩
    · rw [lookup_cons_ne q] at q1
      obtain ⟨b, w', q3, q4, q5⟩ := L.cell y w q1 q2
      exact ⟨b, w', q3, q4.sameBut hs (fun z => q (L.apart y x a q2 hk (z ▸ q3) ha)), q5⟩
  · by_cases q : y = x
    · subst q; exact ⟨a, some v', ha, hc, h1, h2, h3⟩
    · obtain ⟨b, w', q3, q4, q5⟩ := L.cells y q1
      exact ⟨b, w', q3, q4.sameBut hs (fun z => q (L.apart y x a q1 hk (z ▸ q3) ha)), q5⟩
-- targets
theorem as_name {x : Str} {pos : Pos} {v : Value} {Q : Loc → Mem → Prop} (h : Sto c n f ρ x v mem Q) : As c n f ρ (.Name x pos) v mem Q := fun v' hv A s env r R L C => wpAny_assign_Name (h v' hv A s env r R L C)
theorem as_attr {o : Expr} {attr : Str} {pos : Pos} {v : Value} {Q : Loc → Mem → Prop} (h : Ev c n f ρ o mem (fun ov m₁ => SetA c n ov attr v m₁ (fun m₂ => Q ρ m₂))) : As c n f ρ (.Attribute o attr pos) v mem Q := fun v' hv => TX.of fun A s env ro R L => by
  show wpAny _ _ (do let ov ← holding [v'] (eval o env); standAt pos.atName; holding [v', ov] (setAttr ov attr v'); release [v', ov] []) _ _ s
  exact wpAny_bind (wpAny_holding (step (h A s env ro R L) fun ov s₁ m₁ N₁ q => wpAny_bind (wpAny_standAt (wpAny_bind (wpAny_holding (step (q ov v' rfl hv A s₁ ro N₁.rep) fun _ s₂ m₂ N₂ q' => wpAny_release ⟨m₂, N₁.trans N₂, q'⟩))))))
theorem as_sub {o i : Expr} {pos : Pos} {v : Value} {Q : Loc → Mem → Prop} (h : Ev c n f ρ o mem (fun ov m₁ => Ev c n f ρ i m₁ (fun iv m₂ => SetI c n ov iv v m₂ (fun m₃ => Q ρ m₃)))) : As c n f ρ (.Subscript o i pos) v mem Q := fun v' hv => TX.of fun A s env ro R L => by
  rw [assign_Subscript]
  exact wpAny_bind (wpAny_holding (step (h A s env ro R L) fun ov s₁ m₁ N₁ q => wpAny_bind (wpAny_holding (step (q A s₁ env ro N₁.rep (L.keeps N₁.kp)) fun iv s₂ m₂ N₂ q' =>
    wpAny_bind (wpAny_standAt (wpAny_bind (wpAny_holding (step (q' ov iv v' rfl rfl hv A s₂ ro N₂.rep) fun _ s₃ m₃ N₃ q'' => wpAny_release ⟨m₃, (N₁.trans N₂).trans N₃, q''⟩))))))))
theorem ass_nil {Q : Loc → Mem → Prop} (h : Q ρ mem) : Ass c n f ρ [] [] mem Q := fun vs' hv => by
  obtain rfl : vs' = [] := by cases vs' with | nil => rfl | cons _ _ => cases hv
  exact fun A s env r R L C => wpAny_pure ⟨mem, ρ, .refl R, L, h⟩
theorem assignEach_plain {t : Expr} {ts : List Expr} {env : Env} (h : plainE t = true) : assignEach (t :: ts) env = (false, assign t env) :: assignEach ts env := by
  cases t <;> first | rfl | cases h
theorem ass_cons {t : Expr} {ts : List Expr} {v : Value} {vs : List Value} {Q : Loc → Mem → Prop} (h : As c n f ρ t v mem (fun ρ₁ m₁ => Ass c n f ρ₁ ts vs m₁ Q)) (hp : plainE t = true := by rfl) : Ass c n f ρ (t :: ts) (v :: vs) mem Q := fun vs' hv => by
  cases vs' with
  | nil => cases hv
  | cons v' vs' =>
    obtain ⟨h1, h2⟩ := List.cons.inj hv
    intro A s env r R L C
    dsimp only
    rw [assignEach_plain hp]
    exact wpAny_assignInOrder_more (xstep (h v' h1 A s env r R L C) fun _ s₁ m₁ ρ₁ N L' q => xfin N (q vs' h2 A s₁ env r N.rep L' C))
theorem each_len (ts : List Expr) (env : Env) : (assignEach ts env).length = ts.length := by
  induction ts with
  | nil => rfl
  | cons t r ih => cases t <;> (show (assignEach r env).length + 1 = r.length + 1; rw [ih])
theorem each_star {ts : List Expr} {env : Env} (h : ts.all plainE = true) : (assignEach ts env).findIdx? (·.1) = none := by
  induction ts with
  | nil => rfl
  | cons t r ih =>
    obtain ⟨h1, h2⟩ := Bool.and_eq_true_iff.mp (by simpa using h : (plainE t && r.all plainE) = true)
    rw [assignEach_plain h1, List.findIdx?_cons]
    simp only [Bool.false_eq_true, if_false]
    rw [ih h2]; rfl
theorem nowX_ext {env : Env} {s : Shared} {h' : Heap} (R : Rep c mem s.heap) (hk : Heap.ExtBut s.heap.objs.size s.heap h') : Now c s mem { s with heap := h' } mem :=
  ⟨R.keeps fun a o e => hk a o (Nat.ne_of_lt (Heap.lt_size e)) e, .keeps fun a o e _ => hk a o (Nat.ne_of_lt (Heap.lt_size e)) e, _, _, rfl⟩
theorem as_tuple {ts : List Expr} {k : Nat} {pos : Pos} {a : Addr} {vs : List Value} {Q : Loc → Mem → Prop} (e : mem a = some (.tup vs)) (hn : ts.length = vs.length) (h : Ass c n f ρ ts vs mem Q) (hp : ts.all plainE = true := by rfl) : As c n f ρ (.Tuple ts k pos) (.ref a) mem Q := fun v' hv A s env r R L C => by
  obtain rfl := er_ref hv
  obtain ⟨us, k', h1, rfl⟩ := R.at_ a _ e
  refine wpAny_assign_Tuple r.1 ⟨_, h1, rfl, k', rfl⟩ (by rw [each_len, hn]; simp) (each_star hp) fun h' hx => ?_
  have N := nowX_ext (env := env) R hx
  exact xfin (NowX.of N fun a o ho _ => L.ownNone C ho) (h us.toList rfl A { s with heap := h' } env r N.rep (L.keeps N.kp) C)
/-- a list of two, taken apart -/
theorem unpack_two {A : Around} {s : Shared} {a : Addr} {us : Array Value} {Q : List Value → Shared → Prop} {E : Value → Shared → Prop} (hh : A.handled = none) (hl : s.heap.IsList a us) (hsz : us.size = 2)
    (hQ : ∀ h', Heap.ExtBut s.heap.objs.size s.heap h' → Q us.toList { s with heap := h' }) : wpAny c.M A (unpackItems (.ref a) 2 none) Q E s := by
  have hlt : a ≠ s.heap.objs.size := by obtain ⟨o, ho, _⟩ := hl; exact Nat.ne_of_lt (Heap.lt_size ho)
  unfold unpackItems
  refine wpAny_bind ?_
  unfold notIterableAtAll
  refine wpAny_bind (wpAny_specialOf hl.typeIs PySem.slot_list_iter.lookup ?_)
  refine wpAny_pure ?_
  simp only [Bool.false_eq_true, if_false]
  refine wpAny_bind (wpAny_holding (wpAny_pyIter_list hl ?_))
  have hit : (s.heap.push { cls := .type "list_iterator", data := .fields #[.ref a, .int 0 0] }).IsListIter s.heap.objs.size a 0 := ⟨_, Heap.get?_push_size _ rfl, rfl, rfl⟩
  have hl₀ : (s.heap.push { cls := .type "list_iterator", data := .fields #[.ref a, .int 0 0] }).IsList a us := hl.push _
  refine wpAny_bind (wpAny_holding ?_)
  show wpAny _ _ (pyNext (.ref s.heap.objs.size) >>= _) _ _ _
  refine wpAny_bind (wpAny_pyNext_list_item hit hl₀ (x := us[0]) (by simp [hsz]) fun h₁ hit₁ hs₁ => ?_)
  have hl₁ := hl₀.extBut hs₁.extBut hlt
  refine wpAny_bind (wpAny_holding ?_)
  show wpAny _ _ (pyNext (.ref s.heap.objs.size) >>= _) _ _ _
  refine wpAny_bind (wpAny_pyNext_list_item hit₁ hl₁ (x := us[1]) (by simp [hsz]) fun h₂ hit₂ hs₂ => ?_)
  have hl₂ := hl₁.extBut hs₂.extBut hlt
  refine wpAny_bind (wpAny_holding (wpAny_pure (wpAny_pure (wpAny_pure ?_))))
  dsimp only
  rw [if_neg (by simp)]
  refine wpAny_bind (wpAny_holding (wpAny_pyNext_list_end hh hit₂ hl₂ (by simp [hsz]) fun h₃ he₃ => ?_))
  simp only [Option.isSome_none, Bool.false_eq_true, if_false]
  have e : us.toList = [us[0], us[1]] := by
    apply List.ext_getElem
    · simp [hsz]
    · intro i h1 h2
      simp at h2
      match i, h2 with
      | 0, _ => simp
      | 1, _ => simp
  rw [← e]
  exact wpAny_pure (hQ h₃ fun b o hb ho => he₃ b o hb (hs₂.extBut b o hb (hs₁.extBut b o hb (Heap.get?_push_of_some _ ho))))
theorem as_pairL {t₁ t₂ : Expr} {k : Nat} {pos : Pos} {a : Addr} {u v : Value} {Q : Loc → Mem → Prop} (e : LstAt mem a [u, v]) (h : Ass c n f ρ [t₁, t₂] [u, v] mem Q) (hp : [t₁, t₂].all plainE = true := by rfl) : As c n f ρ (.Tuple [t₁, t₂] k pos) (.ref a) mem Q := fun v' hv A s env r R L C => by
  obtain rfl := er_ref hv
  obtain ⟨us, h1, h2⟩ := e.get R
  show wpAny _ _ (do standAt pos; unpack (.ref a) (assignEach [t₁, t₂] env)) _ _ s
  refine wpAny_bind (wpAny_standAt ?_)
  unfold unpack
  rw [each_len, each_star hp]
  refine wpAny_bind (wpAny_holding (unpack_two r.1 h1 (by have := congrArg List.length h2; simpa using this) fun h' hx => ?_))
  have N := nowX_ext (env := env) R hx
  exact xfin (NowX.of N fun a o ho _ => L.ownNone C ho) (h us h2 A { s with heap := h' } env r N.rep (L.keeps N.kp) C)
end
end Mine
end
section
-- Lay7
set_option maxRecDepth 100000
set_option autoImplicit false
set_option linter.unusedVariables false
namespace Mine
open PySem PySem.W PySem.Calls PyProof.Rows
section
variable {c : Cx} {n : Nat} {f : Fs} {ρ : Loc} {mem : Mem} {N : Loc → Mem → Prop} {R : Value → Mem → Prop}
theorem St.mono {st : Stmt} {N' : Loc → Mem → Prop} {R' : Value → Mem → Prop} (h : St c n f ρ st mem N R) (hN : ∀ r m, N r m → N' r m) (hR : ∀ v m, R v m → R' v m) : St c n f ρ st mem N' R' :=
  TX.mono h fun fl r m q => by cases fl <;> first | exact hN _ _ q | exact hR _ _ q | exact q
theorem Sts.mono {sts : List Stmt} {N' : Loc → Mem → Prop} {R' : Value → Mem → Prop} (h : Sts c n f ρ sts mem N R) (hN : ∀ r m, N r m → N' r m) (hR : ∀ v m, R v m → R' v m) : Sts c n f ρ sts mem N' R' :=
  TX.mono h fun fl r m q => by cases fl <;> first | exact hN _ _ q | exact hR _ _ q | exact q
theorem sts_nil (h : N ρ mem) : Sts c n f ρ [] mem N R := fun A s env r Rp L C => wpAny_execs_nil ⟨mem, ρ, .refl Rp, L, h⟩
theorem sts_cons {st : Stmt} {sts : List Stmt} (h : St c n f ρ st mem (fun ρ₁ m₁ => Sts c n f ρ₁ sts m₁ N R) R) : Sts c n f ρ (st :: sts) mem N R := fun A s env r Rp L C =>
  wpAny_execs_cons (xstep (h A s env r Rp L C) fun fl s₁ m₁ ρ₁ N₁ L₁ q => by
    cases fl with
    | next => exact xfin N₁ (q A s₁ env r N₁.rep L₁ C)
    | ret v => exact ⟨m₁, ρ₁, N₁, L₁, q⟩
    | brk => exact q.elim
    | cont => exact q.elim)
theorem st_ret {e : Expr} {pos : Pos} (h : Ev c n f ρ e mem R) : St c n f ρ (.Return (some e) pos) mem N R := TX.of fun A s env r Rp L => wpAny_Return_some (h A s env r Rp L)
theorem noInter {env : Env} {h : Heap} (L : LocOk c f ρ mem env h) : interactive env = false := by
  unfold interactive; rw [L.sc, L.kind]; rfl
noncomputable def plainV : Expr → Bool
  | .ListComp .. | .SetComp .. | .DictComp .. => false
  | _ => true
theorem swaps_plain {e : Expr} {t : Option Expr} {k : Nat} {env : Env} (h : plainV e = true) : swapsWith e t k env = pure false := by
  cases e <;> first | rfl | cases h
theorem swapsSole_plain {e : Expr} {t : Expr} {k : Nat} {env : Env} (h : plainV e = true) : swapsWithSole [t] e k env = pure false := swaps_plain h
theorem st_expr {e : Expr} {pos : Pos} (h : Ev c n f ρ e mem (fun _ m => N ρ m)) (hp : plainV e = true := by rfl) : St c n f ρ (.Expr e pos) mem N R := TX.of fun A s env r Rp L =>
  wpAny_Expr_any (h A s env r Rp L) (noInter L) (swaps_plain hp)
noncomputable def notTup : Expr → Bool
  | .Tuple .. | .List .. => false
  | _ => true
theorem swapped_none {t v : Expr} {env : Env} (h : (notTup t || notTup v) = true) : swappedStores [t] v env = pure none := by
  cases t <;> first | rfl | (cases v <;> first | rfl | cases h)
theorem st_assign {t e : Expr} {pos : Pos} (h : Ev c n f ρ e mem (fun v m₁ => As c n f ρ t v m₁ N)) (hp : plainV e = true := by rfl) (ht : (notTup t || notTup e) = true := by rfl) (hs : plainE t = true := by rfl) : St c n f ρ (.Assign [t] e pos) mem N R := fun A s env r Rp L C =>
  wpAny_Assign_stores (step (h A s env r Rp L) fun v s₁ m₁ N₁ q => by
    have e1 : (assignEach [t] env).map (·.2) = [assign t env] := by rw [assignEach_plain hs]; rfl
    rw [e1]
    show wpAny _ _ (assign t env v) _ _ _
    exact xstep (q v rfl A s₁ env r N₁.rep (L.keeps N₁.kp) C) fun _ s₂ m₂ ρ₂ N₂ L₂ q₂ => ⟨m₂, ρ₂, (NowX.of N₁ fun a o ho _ => L.ownNone C ho).trans N₂, L₂, q₂⟩) (swapsSole_plain hp) (swapped_none ht)
/-- a frame's environment, as far as its scope goes -/
noncomputable def envS (sc : Scope) : Env := { scope := sc, locals := 0, globals := 0, cells := [] }
theorem swapped_env {ts vs : List Expr} {k k' : Nat} {p p' : Pos} {env : Env} {sc : Scope} (h : env.scope = sc) : swappedStores [.Tuple ts k p] (.Tuple vs k' p') env = swappedStores [.Tuple ts k p] (.Tuple vs k' p') (envS sc) := by
  unfold swappedStores Env.blockKind Env.kindOf envS
  rw [h]
theorem wpAny_names_more {A : Around} {s : Shared} {env : Env} {x : Str} {xs : List Str} {v : Value} {vs : List Value} {Q : Unit → Shared → Prop} {E : Value → Shared → Prop}
    (h : wpAny c.M A (storeName env x v) (fun _ s₁ => wpAny c.M A (assignInOrder (xs.map fun n => bindName env n) vs) Q E s₁) E s) : wpAny c.M A (assignInOrder ((x :: xs).map fun n => bindName env n) (v :: vs)) Q E s :=
  wpAny_assignInOrder_more (wpAny_bindName h)
noncomputable def StoS (c : Cx) (n : Nat) (f : Fs) : Loc → List Str → List Value → Mem → (Loc → Mem → Prop) → Prop
  | ρ, x :: xs, v :: vs, mem, Q => Sto c n f ρ x v mem (fun ρ₁ m₁ => StoS c n f ρ₁ xs vs m₁ Q)
  | ρ, _, _, mem, Q => Q ρ mem
theorem stoS_run {Q : Loc → Mem → Prop} : ∀ {xs : List Str} {vs vs' : List Value} {ρ : Loc} {mem : Mem}, vs'.map er = vs → StoS c n f ρ xs vs mem Q → TX c n f ρ (fun env => assignInOrder (xs.map fun n => bindName env n) vs') mem (fun _ ρ m => Q ρ m)
  | [], vs, vs', ρ, mem, _, h => fun A s env r R L C => by
    cases vs <;> (cases vs' <;> exact wpAny_pure ⟨mem, ρ, .refl R, L, h⟩)
  | x :: xs, [], vs', ρ, mem, hv, h => fun A s env r R L C => by
    obtain rfl : vs' = [] := by cases vs' with | nil => rfl | cons _ _ => cases hv
    exact wpAny_pure ⟨mem, ρ, .refl R, L, h⟩
  | x :: xs, v :: vs, vs', ρ, mem, hv, h => fun A s env r R L C => by
    cases vs' with
    | nil => cases hv
    | cons v' vs' =>
      obtain ⟨h1, h2⟩ := List.cons.inj hv
      exact wpAny_names_more (xstep (h v' h1 A s env r R L C) fun _ s₁ m₁ ρ₁ N L' q => xfin N (stoS_run h2 q A s₁ env r N.rep L' C))
/-- a display of two or three values to as many local names: stored from the last on -/
theorem st_swapped {ts vs : List Expr} {k k' : Nat} {p p' pos : Pos} {xs : List Str} (hs : swappedStores [.Tuple ts k p] (.Tuple vs k' p') (envS f.sc) = pure (some xs))
    (h : Evs c n f ρ p' vs mem (fun us m₁ => us.length = xs.length ∧ us.length ≤ 16777216 ∧ ∀ a, m₁ a = none → StoS c n f ρ xs.reverse us.reverse (upd m₁ a (.tup us)) N)) : St c n f ρ (.Assign [.Tuple ts k p] (.Tuple vs k' p') pos) mem N R := fun A s env r Rp L C => by
  show wpAny _ _ (exec _ env) _ _ s
  rw [exec_Assign_arm]
  refine wpAny_bind (wpAny_standAt ?_)
  rw [show swapsWithSole [.Tuple ts k p] (.Tuple vs k' p') pos.line env = pure false from rfl]
  refine wpAny_bind (wpAny_pure ?_)
  rw [if_neg (by decide)]
  refine wpAny_bind (wpAny_Tuple (step (h A s env r Rp L) fun us s₁ m₁ N₁ ⟨hl1, hl2, q⟩ => ⟨by rw [sizeLine_eq]; simpa using hl2, ?_⟩))
  have N₂ := N₁.made (ao := .tup (us.map er)) (o := { cls := .type "tuple", data := .seq us.toArray }) rfl (fun m h' e => ⟨_, _, e, by simp⟩)
  have q₂ := q _ N₁.rep.free
  rw [swapped_env L.sc, hs]
  refine wpAny_bind (wpAny_pure ?_)
  show wpAny _ _ (do rule "assign.swapped-stores"; let items ← unpackItems (.ref s₁.heap.objs.size) xs.length none; assignInOrder (xs.reverse.map fun n => bindName env n) items.reverse; pure Flow.next) _ _ _
  refine wpAny_bind (wpAny_rule (wpAny_bind ?_))
  have hsz : xs.length = us.toArray.size := by rw [List.size_toArray]; simpa using hl1.symm
  rw [hsz]
  refine wpAny_unpackItems_tuple (t := s₁.heap.objs.size) r.1 ⟨_, Heap.get?_push_size _ rfl, rfl, _, rfl⟩ fun h' hx => ?_
  have N₃ := N₂.trans (nowX_ext (env := env) (s := { s₁ with heap := s₁.heap.push { cls := .type "tuple", data := .seq us.toArray } }) N₂.rep hx)
  refine wpAny_bind ?_
  have := stoS_run (c := c) (n := n) (f := f) (vs' := us.reverse) (by simp) q₂ A _ env r N₃.rep (L.keeps N₃.kp) C
  refine xstep this fun _ s₄ m₄ ρ₄ N₄ L₄ q₄ => wpAny_pure ⟨m₄, ρ₄, (NowX.of N₃ fun a o ho _ => L.ownNone C ho).trans N₄, L₄, q₄⟩
theorem st_aug {x : Str} {op : Operator} {e : Expr} {p pos : Pos} {old : Value} (hv : ρ.lookup x = some old) (hk : f.sc.names.lookup x = some .local)
    (h : Ev c n f ρ e mem (fun v m₁ => Inp c n op old v m₁ (fun r m₂ => Sto c n f ρ x r m₂ N))) : St c n f ρ (.AugAssign (.Name x p) op e pos) mem N R := fun A s env ro Rp L C => by
  obtain ⟨m, hn, hm⟩ := L.ns
  obtain ⟨u, hu, rfl⟩ := Option.map_eq_some_iff.mp (hm x old hv hk)
  refine wpAny_AugAssign_Name (wpAny_loadName_local (by rw [L.sc]; exact L.kind) (by unfold Env.kindOf; rw [L.sc]; exact hk) hn hu ?_)
  exact step (h A s env ro Rp L) fun v s₁ m₁ N₁ q => step (q u v rfl rfl A s₁ ro N₁.rep) fun w s₂ m₂ N₂ q₂ =>
    xstep (q₂ w rfl A s₂ env ro N₂.rep (L.keeps (N₁.trans N₂).kp) C) fun _ s₃ m₃ ρ₃ N₃ L₃ q₃ => ⟨m₃, ρ₃, (NowX.of (N₁.trans N₂) fun a o ho _ => L.ownNone C ho).trans N₃, L₃, q₃⟩
theorem st_if {t : Expr} {b o : List Stmt} {pos : Pos} (h : Tst c n f ρ t mem (fun x m₁ => if x then Sts c n f ρ b m₁ N R else Sts c n f ρ o m₁ N R)) : St c n f ρ (.If t b o pos) mem N R := fun A s env ro Rp L C =>
  wpAny_If (step (h A s env ro Rp L) fun x s₁ m₁ N₁ q => by
    cases x with
    | true => exact xfin (NowX.of N₁ fun a o ho _ => L.ownNone C ho) (q A s₁ env ro N₁.rep (L.keeps N₁.kp) C)
    | false => exact xfin (NowX.of N₁ fun a o ho _ => L.ownNone C ho) (q A s₁ env ro N₁.rep (L.keeps N₁.kp) C))
theorem st_pass {pos : Pos} (h : N ρ mem) : St c n f ρ (.Pass pos) mem N R := fun A s env r Rp L C => wpAny_Pass ⟨mem, ρ, .refl Rp, L, h⟩
/-- a while by a number that falls -/
theorem st_while {t : Expr} {b : List Stmt} {pos : Pos} (I : Nat → Loc → Mem → Prop) (k : Nat) (h0 : I k ρ mem)
    (turn : ∀ k ρ₁ m₁, I k ρ₁ m₁ → Tst c n f ρ₁ t m₁ (fun x m₂ => if x then Sts c n f ρ₁ b m₂ (fun ρ₃ m₃ => ∃ ρ₄, (∀ p ∈ ρ₄, ρ₃.lookup p.1 = some p.2) ∧ ∃ j, j < k ∧ I j ρ₄ m₃) R else N ρ₁ m₂)) : St c n f ρ (.While t b [] pos) mem N R := fun A s env ro Rp L C => by
  refine wpAny_While ?_
  refine codeAny_whileLoop (fun k s' => ∃ m₁ ρ₁, NowX c env s mem s' m₁ ∧ LocOk c f ρ₁ m₁ env s'.heap ∧ I k ρ₁ m₁) ?_ k ⟨mem, ρ, .refl Rp, L, h0⟩
  rintro k s' ⟨m₁, ρ₁, N₁, L₁, hI⟩
  refine step (turn k ρ₁ m₁ hI A s' env ro N₁.rep L₁) fun x s₂ m₂ N₂ q => ?_
  have X₂ : NowX c env s' m₁ s₂ m₂ := NowX.of N₂ fun a o ho _ => L₁.ownNone C ho
  cases x with
  | false => exact wpAny_execs_nil ⟨m₂, ρ₁, N₁.trans X₂, L₁.keeps N₂.kp, q⟩
  | true =>
    refine xstep (q A s₂ env ro N₂.rep (L₁.keeps N₂.kp) C) fun fl s₃ m₃ ρ₃ N₃ L₃ q₃ => ?_
    cases fl with
    | next =>
      obtain ⟨ρ₄, hw, j, hj, hI'⟩ := q₃
      exact ⟨j, hj, m₃, ρ₄, (N₁.trans X₂).trans N₃, L₃.weaken fun y v e => hw (y, v) (mem_of_look e), hI'⟩
    | ret v => exact ⟨m₃, ρ₃, (N₁.trans X₂).trans N₃, L₃, q₃⟩
    | brk => exact q₃.elim
    | cont => exact q₃.elim
-- what a for or a comprehension goes through
inductive Src where
  | lst (a : Addr)
  | rng (lo hi : Int)
noncomputable def rngVals (lo hi : Int) : List Value := (List.range (hi - lo).toNat).map fun (k : Nat) => .int (lo + (k : Int)) 0
noncomputable def SrcOk (mem : Mem) (vs : List Value) : Src → Prop
  | .lst a => LstAt mem a vs
  | .rng lo hi => vs = rngVals lo hi
noncomputable def It (h : Heap) (I : Addr) (i : Nat) : Src → Prop
  | .lst a => h.IsListIter I a i ∧ a ≠ I
  | .rng lo hi => IsRangeIter h I (lo + (i : Int)) (((hi - lo).toNat : Int) - (i : Int)) 1
theorem It.keep {h h' : Heap} {I : Addr} {i : Nat} {sr : Src} (x : It h I i sr) (hk : ∀ o, h.get? I = some o → h'.get? I = some o) : It h' I i sr := by
  cases sr with
  | lst a => exact ⟨let ⟨o, e, r⟩ := x.1; ⟨o, hk o e, r⟩, x.2⟩
  | rng lo hi => exact hk _ x
theorem It.get {h : Heap} {I : Addr} {i : Nat} {sr : Src} (x : It h I i sr) : ∃ o, h.get? I = some o := by
  cases sr with
  | lst a => obtain ⟨⟨o, e, _⟩, _⟩ := x; exact ⟨o, e⟩
  | rng lo hi => exact ⟨_, x⟩
/-- what a value that is gone through gives -/
noncomputable def SrcV (v : Value) (mem : Mem) (vs : List Value) (sr : Src) : Prop :=
  (∃ a, v = .ref a ∧ LstAt mem a vs ∧ sr = .lst a) ∨ (∃ a lo hi, v = .ref a ∧ mem a = some (.rng lo hi) ∧ -(2 ^ 62) ≤ lo ∧ lo < 2 ^ 62 ∧ -(2 ^ 62) ≤ hi ∧ hi < 2 ^ 62 ∧ vs = rngVals lo hi ∧ sr = .rng lo hi)
theorem SrcV.ok {v : Value} {vs : List Value} {sr : Src} (x : SrcV v mem vs sr) : SrcOk mem vs sr := by
  rcases x with ⟨a, _, h, rfl⟩ | ⟨a, lo, hi, _, _, _, _, _, _, h, rfl⟩
  · exact h
  · exact h
theorem iter_start {A : Around} {s : Shared} {v : Value} {vs : List Value} {sr : Src} {Q : Value → Shared → Prop} {E : Value → Shared → Prop} (Rp : Rep c mem s.heap) (x : SrcV v mem vs sr)
    (h : ∀ I h', It h' I 0 sr → s.heap.get? I = none → c.h₀.get? I = none → Now c s mem { s with heap := h' } mem → Q (.ref I) { s with heap := h' }) : wpAny c.M A (pyIter v) Q E s := by
  have hnew : s.heap.get? s.heap.objs.size = none := by
    cases q' : s.heap.get? s.heap.objs.size with
    | none => rfl
    | some o => exact absurd (Heap.lt_size q') (Nat.lt_irrefl _)
  rcases x with ⟨a, rfl, hl, rfl⟩ | ⟨a, lo, hi, rfl, hr, h1, h2, h3, h4, _, rfl⟩
  · obtain ⟨us, hu, _⟩ := hl.get Rp
    refine wpAny_pyIter_list hu (h s.heap.objs.size _ ⟨⟨_, Heap.get?_push_size _ rfl, rfl, rfl⟩, ?_⟩ hnew Rp.next (Now.push Rp))
    obtain ⟨o, ho, _⟩ := hu
    exact Nat.ne_of_lt (Heap.lt_size ho)
  · obtain ⟨t, u, w, hr'⟩ := Rp.at_ a _ hr
    refine wpAny_pyIter_range hr' (small_one h1 h2 h3 h4) (h s.heap.objs.size _ ?_ hnew Rp.next (Now.push Rp))
    show IsRangeIter _ _ _ _ _
    have := Heap.get?_push_size s.heap (o := { cls := .type "range_iterator", data := .fields #[rawInt lo, rawInt (Builtin.Range.rangeSize lo hi 1), rawInt 1] }) rfl
    rw [rangeSize_nat] at this ⊢
    simpa using this
theorem rng_get {lo hi : Int} {i : Nat} {v : Value} (h : (rngVals lo hi)[i]? = some v) : v = .int (lo + (i : Int)) 0 ∧ i < (hi - lo).toNat := by
  unfold rngVals at h
  rw [List.getElem?_map] at h
  obtain ⟨k, hk, rfl⟩ := Option.map_eq_some_iff.mp h
  obtain ⟨h1, rfl⟩ := List.getElem?_eq_some_iff.mp hk
  simp at h1 ⊢
  exact h1
theorem next_item {A : Around} {s : Shared} {vs : List Value} {sr : Src} {I : Addr} {i : Nat} {v : Value} {Q : Option Value → Shared → Prop} {E : Value → Shared → Prop} (Rp : Rep c mem s.heap) (ok : SrcOk mem vs sr) (it : It s.heap I i sr) (hv : vs[i]? = some v)
    (h : ∀ v' h' tk, er v' = v → It h' I (i + 1) sr → Heap.SameBut I s.heap h' → Q (some v') { s with heap := h', toks := tk }) : wpAny c.M A (pyNext (.ref I)) Q E s := by
  cases sr with
  | lst a =>
    obtain ⟨us, hu, rfl⟩ := LstAt.get Rp ok
    rw [List.getElem?_map] at hv
    obtain ⟨u, hu', rfl⟩ := Option.map_eq_some_iff.mp hv
    exact wpAny_pyNext_list_item it.1 hu (by simpa using hu') fun h' it' hs => h u h' s.toks rfl ⟨it', it.2⟩ hs
  | rng lo hi =>
    have ok' : vs = rngVals lo hi := ok
    subst ok'
    obtain ⟨rfl, hi'⟩ := rng_get hv
    refine wpAny_pyNext_range_item it (by omega) fun h' it' hs => h _ h' _ rfl ?_ hs
    show IsRangeIter _ _ _ _ _
    have e1 : lo + ((i + 1 : Nat) : Int) = lo + (i : Int) + 1 := by omega
    have e2 : ((hi - lo).toNat : Int) - ((i + 1 : Nat) : Int) = ((hi - lo).toNat : Int) - (i : Int) - 1 := by omega
    rw [e1, e2]; exact it'
theorem next_end {A : Around} {s : Shared} {vs : List Value} {sr : Src} {I : Addr} {i : Nat} {Q : Option Value → Shared → Prop} {E : Value → Shared → Prop} (hh : A.handled = none) (Rp : Rep c mem s.heap) (ok : SrcOk mem vs sr) (it : It s.heap I i sr) (hv : vs[i]? = none)
    (h : ∀ h', Heap.ExtBut I s.heap h' → Q none { s with heap := h' }) : wpAny c.M A (pyNext (.ref I)) Q E s := by
  cases sr with
  | lst a =>
    obtain ⟨us, hu, rfl⟩ := LstAt.get Rp ok
    exact wpAny_pyNext_list_end hh it.1 hu (by simpa using hv) h
  | rng lo hi =>
    have ok' : vs = rngVals lo hi := ok
    subst ok'
    refine wpAny_pyNext_range_end hh it ?_ h
    unfold rngVals at hv
    simp at hv
    omega
end
end Mine
end
section
-- Lay8
set_option maxRecDepth 100000
set_option autoImplicit false
set_option linter.unusedVariables false
namespace Mine
open PySem PySem.W PySem.Calls PyProof.Rows
section
variable {c : Cx} {n : Nat} {f : Fs} {ρ : Loc} {mem : Mem} {N : Loc → Mem → Prop} {R : Value → Mem → Prop}
theorem letGo_ok {A : Around} {s : Shared} {target : Expr} {v : Value} {I : Addr} {i : Nat} {sr : Src} {Q : Unit → Shared → Prop} {E : Value → Shared → Prop} (it : It s.heap I i sr) (h : Q () s) : wpAny c.M A (letOwnedTupleGo target (.ref I) v) Q E s := by
  have key : ∃ o n vs, s.heap.get? I = some o ∧ o.cls = .type n ∧ o.data = .fields vs ∧ (["enumerate", "zip", "dict_itemiterator", "dict_reverseitemiterator", "odict_iterator", "itertools.zip_longest", "itertools.pairwise"].contains n) = false := by
    cases sr with
    | lst a => obtain ⟨⟨o, e, h1, h2⟩, _⟩ := it; exact ⟨o, _, _, e, h1, h2, by decide⟩
    | rng lo hi => exact ⟨_, _, _, it, rfl, rfl, by decide⟩
  obtain ⟨⟨oc, od, odt, osl⟩, n, vs, e, h1, h2, h3⟩ := key
  dsimp only at h1 h2
  subst h1 h2
  have main : wpAny c.M A (match v with
      | .ref a => do
        let o ← load I
        match o.cls, o.data with
        | .type n, .fields vs =>
          if ["enumerate", "zip", "dict_itemiterator", "dict_reverseitemiterator", "odict_iterator", "itertools.zip_longest", "itertools.pairwise"].contains n && vs[0]? == some (rawInt a) then
            rule "for.unpacks-the-owned-tuple"
            updateField I 0 .none
        | _, _ => pure ()
      | _ => pure ()) Q E s := by
    cases v <;> first | exact wpAny_pure h | skip
    refine wpAny_bind (wpAny_load e ?_)
    dsimp only
    rw [h3, Bool.false_and]
    exact wpAny_pure h
  cases target <;> first | exact wpAny_pure h | skip
  all_goals (cases v <;> first | exact wpAny_pure h | exact main)
theorem LocOk.ne {env : Env} {h : Heap} {I : Addr} (L : LocOk c f ρ mem env h) (hI : h.get? I = none) : env.locals ≠ I ∧ ∀ x a, f.sc.names.lookup x = some .cell → env.cells.lookup x = some a → a ≠ I := by
  refine ⟨fun q => ?_, fun x a h1 h2 q => ?_⟩
  · obtain ⟨m, ⟨o, _, _, ho, _⟩, _⟩ := L.ns
    rw [q, hI] at ho; cases ho
  · obtain ⟨a', u, h3, ⟨o, ho, _⟩, _⟩ := L.cells x h1
    rw [h2] at h3; cases h3
    rw [q, hI] at ho; cases ho
theorem LocOk.other {env : Env} {h h' : Heap} {I : Addr} (L : LocOk c f ρ mem env h) (h1 : env.locals ≠ I) (h2 : ∀ x a, f.sc.names.lookup x = some .cell → env.cells.lookup x = some a → a ≠ I) (hs : Heap.ExtBut I h h') : LocOk c f ρ mem env h' := by
  refine ⟨L.sc, L.fn, L.kind, L.gl, L.bi, L.off, L.new, ?_, fun y v q1 q2 => ?_, fun y q1 => ?_, L.apart⟩
  · obtain ⟨m, hn, hm⟩ := L.ns; exact ⟨m, hn.extBut hs h1, hm⟩
  · obtain ⟨a, u, q3, ⟨o, q4, q5⟩, q6⟩ := L.cell y v q1 q2
    exact ⟨a, u, q3, ⟨o, hs a o (h2 y a q2 q3) q4, q5⟩, q6⟩
  · obtain ⟨a, u, q3, ⟨o, q4, q5⟩, q6⟩ := L.cells y q1
    exact ⟨a, u, q3, ⟨o, hs a o (h2 y a q1 q3) q4, q5⟩, q6⟩
theorem Rep.other {h h' : Heap} {I : Addr} (Rp : Rep c mem h) (h1 : mem I = none) (h2 : c.h₀.get? I = none) (hs : Heap.ExtBut I h h') : Rep c mem h' :=
  Rp.ext fun a o e q => hs a o (fun z => by subst z; rcases q with q | q; rw [h2] at q; cases q; exact q h1) e
theorem noOwn {env : Env} {h : Heap} {I : Addr} (L : LocOk c f ρ mem env h) (C : CellsOnly f env) (hI : h.get? I = none) : ¬ OwnOf env I := fun q => by
  obtain ⟨h1, h2⟩ := L.ne hI
  rcases q with rfl | ⟨hf, x, hx⟩
  · exact h1 rfl
  · exact h2 x I (C x I hf hx) hx rfl
/-- the loop of a for, whatever its target -/
theorem for_loop {A : Around} {s : Shared} {target : Expr} {it : Value} {body : List Stmt} {env : Env} {RR : Result → Shared → Prop} (I : Nat → Shared → Prop)
    (turn : ∀ k s, I k s → wpAny c.M A (pyNext it) (fun r s₁ => match r with
      | none => RR (.ok .next) s₁
      | some v => wpAny c.M A (letOwnedTupleGo target it v) (fun _ s₁' => wpAny c.M A (assign target env v) (fun _ s₂ => wpAny c.M A (execs body env) (fun fl s₃ => match fl with
          | .next | .cont => ∃ m, m < k ∧ I m s₃
          | .brk => RR (.ok .next) s₃
          | .ret v => RR (.ok (.ret v)) s₃) (fun _ _ => False) s₂) (fun _ _ => False) s₁') (fun _ _ => False) s₁) (fun _ _ => False) s)
    (k : Nat) (h : I k s) : codeAny c.M A (.forLoop target it body [] env) RR s := by
  refine codeAny_loop' rfl I (fun k s hI => ?_) k h
  show wpAny _ _ ((forTurn target it body [] env).onRaise (fun x => do noteFrame x env; theTreesLotGoes x)) _ _ s
  refine wpAny_noted ?_
  simp only [forTurn]
  refine wpAny_bind (wpAny_standAt (wpAny_bind (wpAny_onRaise (wpAny_mono (turn k s hI) (fun r s₁ h₁ => ?_) fun _ _ h' => h'.elim))))
  cases r with
  | none => exact wpAny_pure (.inr ⟨rfl, codeAny_block (wpAny_execs_nil h₁)⟩)
  | some v =>
    refine wpAny_bind (wpAny_mono h₁ (fun _ s₁' h₁' => ?_) fun _ _ h' => h'.elim)
    refine wpAny_bind (wpAny_mono h₁' (fun _ s₂ h₂ => wpAny_bind (wpAny_mono h₂ (fun fl s₃ h₃ => ?_) fun _ _ h' => h'.elim)) fun _ _ h' => h'.elim)
    cases fl with
    | next => exact wpAny_pure (.inl ⟨rfl, h₃⟩)
    | cont => exact wpAny_pure (.inl ⟨rfl, h₃⟩)
    | brk => exact wpAny_pure h₃
    | ret v => exact wpAny_pure h₃
theorem SrcV.un {v : Value} {vs : List Value} {sr : Src} (x : SrcV (er v) mem vs sr) : SrcV v mem vs sr := by
  rcases x with ⟨a, e, h⟩ | ⟨a, lo, hi, e, h⟩
  · exact .inl ⟨a, er_ref e, h⟩
  · exact .inr ⟨a, lo, hi, er_ref e, h⟩
theorem nowX_but {env : Env} {s : Shared} {h' : Heap} {tk : Nat} {I : Addr} (Rp : Rep c mem s.heap) (h1 : mem I = none) (h2 : c.h₀.get? I = none) (hI : ∃ o, s.heap.get? I = some o) (hn : ¬ OwnOf env I) (hs : Heap.ExtBut I s.heap h') :
    Rep c mem h' ∧ ∀ a o, OwnOf env a → s.heap.get? a = some o → ∃ o', h'.get? a = some o' :=
  ⟨Rp.other h1 h2 hs, fun a o ho e => ⟨o, hs a o (fun q => hn (q ▸ ho)) e⟩⟩
theorem st_for {target iter : Expr} {body : List Stmt} {pos : Pos}
    (h : Ev c n f ρ iter mem (fun v m₁ => ∃ vs sr, SrcV v m₁ vs sr ∧ ∃ I : Nat → Loc → Mem → Prop, I 0 ρ m₁ ∧ (∀ i ρ₁ m, I i ρ₁ m → SrcOk m vs sr) ∧
      (∀ i x ρ₁ m, vs[i]? = some x → I i ρ₁ m → As c n f ρ₁ target x m (fun ρ₂ m₂ => Sts c n f ρ₂ body m₂ (fun ρ₃ m₃ => ∃ ρ₄, (∀ p ∈ ρ₄, ρ₃.lookup p.1 = some p.2) ∧ I (i + 1) ρ₄ m₃) R)) ∧
      (∀ ρ₁ m, I vs.length ρ₁ m → N ρ₁ m)))
    (hs : ∀ env x, foldedSetIterable iter env x = pure x := by intro _ _; rfl) : St c n f ρ (.For target iter body [] pos) mem N R := fun A s env ro Rp L C => by
  refine wpAny_For (step (h A s env ro Rp L) fun v s₁ m₁ N₁ ⟨vs, sr, hsr, I, h0, hok, turn, done⟩ => ?_) (hs env)
  refine iter_start N₁.rep hsr.un fun Ia h₂ it₂ hIa hIa₀ N₂ => ?_
  have L₁ := L.keeps N₁.kp
  have hno : ¬ OwnOf env Ia := noOwn L₁ C hIa
  obtain ⟨hne1, hne2⟩ := L₁.ne hIa
  have hm₁ : m₁ Ia = none := by
    cases q : m₁ Ia with
    | none => rfl
    | some ao =>
      obtain ⟨o, e⟩ := (N₁.rep.at_ Ia ao q).get
      rw [hIa] at e; cases e
  have X₁ : NowX c env s mem s₁ m₁ := NowX.of N₁ fun a o ho _ => L.ownNone C ho
  have fin' : ∀ {s' : Shared} {m : Mem}, NowX c env s₁ m₁ s' m → NowX c env s mem s' m := fun x => X₁.trans x
  refine for_loop (fun k s' => ∃ i m ρ₁, k = vs.length + 1 - i ∧ i ≤ vs.length ∧ NowX c env s₁ m₁ s' m ∧ LocOk c f ρ₁ m env s'.heap ∧ It s'.heap Ia i sr ∧ m Ia = none ∧ I i ρ₁ m) ?_ (vs.length + 1) ⟨0, m₁, ρ, rfl, Nat.zero_le _, NowX.of N₂ fun a o ho _ => L₁.ownNone C ho, L₁.keeps N₂.kp, it₂, hm₁, h0⟩
  rintro k s' ⟨i, m, ρ₁, rfl, hi, X, L', it', hm, hI⟩
  have hx : ∀ {h' : Heap} {tk : Nat}, Heap.ExtBut Ia s'.heap h' → It h' Ia (i + 1) sr ∨ True → NowX c env s₁ m₁ { s' with heap := h', toks := tk } m ∧ LocOk c f ρ₁ m env h' := fun {h' tk} hs _ => by
    refine ⟨⟨X.rep.other hm hIa₀ hs, ⟨fun a o e q1 q2 q3 => ?_, X.kp.fresh⟩, ?_, fun a o ho e => ?_⟩, L'.other hne1 hne2 hs⟩
    · exact hs a o (fun q => by rw [q, hIa] at e; cases e) (X.kp.keep a o e q1 q2 q3)
    · obtain ⟨h, t, rfl⟩ := X.shape; exact ⟨_, _, rfl⟩
    · obtain ⟨o', e'⟩ := X.own a o ho e
      exact ⟨o', hs a o' (fun q => hno (q ▸ ho)) e'⟩
  cases hv : vs[i]? with
  | none =>
    have hil : i = vs.length := by rw [List.getElem?_eq_none_iff] at hv; omega
    subst hil
    refine next_end ro.1 X.rep (hok _ _ _ hI) it' hv fun h' hs => ?_
    obtain ⟨X', L''⟩ := hx (tk := s'.toks) hs (.inr trivial)
    exact ⟨m, ρ₁, fin' X', L'', done _ _ hI⟩
  | some x =>
    have hil : i < vs.length := (List.getElem?_eq_some_iff.mp hv).1
    refine next_item X.rep (hok _ _ _ hI) it' hv fun v' h' tk hv' it'' hs => ?_
    obtain ⟨X', L''⟩ := hx (tk := tk) hs.extBut (.inr trivial)
    refine letGo_ok it'' ?_
    refine xstep (turn i x ρ₁ m hv hI v' hv' A _ env ro X'.rep L'' C) fun _ s₂ m₂ ρ₂ X₂ L₂ q₂ => ?_
    have X₂' := X'.trans X₂
    refine xstep (q₂ A s₂ env ro X₂.rep L₂ C) fun fl s₃ m₃ ρ₃ X₃ L₃ q₃ => ?_
    have hkeep : ∀ {s₄ s₅ : Shared} {m₄ m₅ : Mem}, NowX c env s₄ m₄ s₅ m₅ → m₄ Ia = none → It s₄.heap Ia (i + 1) sr → It s₅.heap Ia (i + 1) sr ∧ m₅ Ia = none := fun {s₄ s₅ m₄ m₅} Y q1 q2 => by
      refine ⟨q2.keep fun o e => Y.kp.keepN e q1 hno, ?_⟩
      obtain ⟨o, e⟩ := q2.get
      exact Y.kp.off e q1
    obtain ⟨it₃, hm₃⟩ := hkeep (X₂.trans X₃) hm it''
    cases fl with
    | next =>
      obtain ⟨ρ₄, hw, hI'⟩ := q₃
      exact ⟨_, by omega, i + 1, m₃, ρ₄, rfl, hil, X₂'.trans X₃, L₃.weaken fun y v e => hw (y, v) (mem_of_look e), it₃, hm₃, hI'⟩
    | ret v => exact ⟨m₃, ρ₃, fin' (X₂'.trans X₃), L₃, q₃⟩
    | brk => exact q₃.elim
    | cont => exact q₃.elim
end
end Mine
end
section
-- Lay9
set_option maxRecDepth 100000
set_option autoImplicit false
set_option linter.unusedVariables false
namespace Mine
open PySem PySem.W PySem.Calls PyProof.Rows
-- comprehensions
noncomputable def freesOk (scope sc : Scope) : Bool := scope.names.all fun x => x.2 != .free || sc.names.lookup x.1 == some .cell
theorem closure_of {scope : Scope} {env : Env} (h : ∀ x ∈ scope.names, x.2 = .free → ∃ a, env.cells.lookup x.1 = some a) :
    ∃ cl, closureFor scope env = pure cl ∧ (∀ x a, cl.lookup x = some a → env.cells.lookup x = some a ∧ (x, NameKind.free) ∈ scope.names) ∧ (∀ x, (x, NameKind.free) ∈ scope.names → cl.lookup x = env.cells.lookup x) := by
  have key : ∀ (l : List (Str × NameKind)) (cs : List (Str × Addr)), (∀ x ∈ l, x.2 = .free → ∃ a, env.cells.lookup x.1 = some a) →
      ∃ cl, (forIn l cs (fun x (r : List (Str × Addr)) => if (x.2 == NameKind.free) = true then do let a ← cellOf env x.1; pure (ForInStep.yield ((x.1, a) :: r)) else pure (ForInStep.yield r)) : Sem _) = pure cl ∧
        (∀ x a, cl.lookup x = some a → cs.lookup x = some a ∨ (env.cells.lookup x = some a ∧ (x, NameKind.free) ∈ l)) ∧
        (∀ x, cl.lookup x = cs.lookup x ∨ cl.lookup x = env.cells.lookup x) ∧ (∀ x, (x, NameKind.free) ∈ l → cl.lookup x = env.cells.lookup x) := by
    intro l
    induction l with
    | nil => intro cs _; exact ⟨cs, rfl, fun x a e => .inl e, fun x => .inl rfl, fun x hx => by cases hx⟩
    | cons p r ih =>
      intro cs hl
      obtain ⟨x, k⟩ := p
      by_cases hk : k = .free
      · subst hk
        obtain ⟨a, ha⟩ := hl (x, .free) (List.mem_cons_self ..) rfl
        obtain ⟨cl, h1, h2, h3, h4⟩ := ih ((x, a) :: cs) fun y hy => hl y (List.mem_cons_of_mem _ hy)
        have hone : ∀ y b, ((x, a) :: cs).lookup y = some b → cs.lookup y = some b ∨ (env.cells.lookup y = some b ∧ y = x) := fun y b e => by
          by_cases hy : y = x
          · subst hy; rw [List.lookup_cons, beq_self_eq_true] at e; cases e; exact .inr ⟨ha, rfl⟩
          · rw [List.lookup_cons, show (y == x) = false from beq_eq_false_iff_ne.mpr hy] at e; exact .inl e
        refine ⟨cl, ?_, fun y b e => ?_, fun y => ?_, fun y hy => ?_⟩
        · rw [List.forIn_cons]
          simp only [beq_self_eq_true, if_true]
          have : cellOf env x = pure a := by unfold cellOf; dsimp only at ha; rw [ha]
          rw [this]
          simpa using h1
        · rcases h2 y b e with e | ⟨e, hm⟩
          · rcases hone y b e with e' | ⟨e', hy⟩
            · exact .inl e'
            · exact .inr ⟨e', by rw [hy]; exact List.mem_cons_self ..⟩
          · exact .inr ⟨e, List.mem_cons_of_mem _ hm⟩
        · rcases h3 y with e | e
          · by_cases hy : y = x
            · subst hy; rw [List.lookup_cons, beq_self_eq_true] at e; right; rw [e]; exact ha.symm
            · rw [List.lookup_cons, show (y == x) = false from beq_eq_false_iff_ne.mpr hy] at e; exact .inl e
          · exact .inr e
        · rcases List.mem_cons.mp hy with e | e
          · cases e
            rcases h3 x with e | e
            · rw [List.lookup_cons, beq_self_eq_true] at e; rw [e]; exact ha.symm
            · exact e
          · exact h4 y e
      · obtain ⟨cl, h1, h2, h3, h4⟩ := ih cs fun y hy => hl y (List.mem_cons_of_mem _ hy)
        refine ⟨cl, ?_, fun y b e => ?_, h3, fun y hy => ?_⟩
        · rw [List.forIn_cons]
          have : (k == NameKind.free) = false := by simpa using hk
          simp only [this]
          simpa using h1
        · rcases h2 y b e with e | ⟨e, hm⟩
          · exact .inl e
          · exact .inr ⟨e, List.mem_cons_of_mem _ hm⟩
        · rcases List.mem_cons.mp hy with e | e
          · cases e; exact absurd rfl hk
          · exact h4 y e
  obtain ⟨cl, h1, h2, h3, h4⟩ := key scope.names [] h
  refine ⟨cl, ?_, fun x a e => ?_, h4⟩
  · show (do let cs ← forIn scope.names [] _; pure cs) = _
    rw [show (forIn scope.names ([] : List (Str × Addr)) fun x (r : List (Str × Addr)) => _ : Sem _) = _ from h1]
    rfl
  · rcases h2 x a e with e | e
    · cases e
    · exact e
theorem relabel_eq {scope : Scope} {env : Env} {sc : Scope} (h : env.scope = sc) : relabel scope env = relabel scope (envS sc) := by
  unfold relabel Env.kindOf envS
  rw [h]
section
variable {c : Cx} {n : Nat} {f : Fs} {ρ : Loc} {mem : Mem} {N : Loc → Mem → Prop} {R : Value → Mem → Prop}
noncomputable def Ifs (c : Cx) (n : Nat) (f : Fs) (ρ : Loc) (ifs : List Expr) (mem : Mem) (Q : Bool → Mem → Prop) : Prop :=
  TE c n f ρ (fun env => (forIn ifs true fun c r => if r = true then do let ok ← isTrue c env (eval c env); pure (ForInStep.yield ok) else pure (ForInStep.yield r) : Sem Bool)) mem Q
theorem ifs_nil {Q : Bool → Mem → Prop} (h : Q true mem) : Ifs c n f ρ [] mem Q := fun A s env r Rp L => wpAny_tests_nil ⟨mem, Now.refl Rp, h⟩
theorem ifs_one {t : Expr} {Q : Bool → Mem → Prop} (h : Tst c n f ρ t mem Q) : Ifs c n f ρ [t] mem Q := fun A s env r Rp L => wpAny_tests_one (h A s env r Rp L)
theorem LocOk.again {f : Fs} {ρ₀ ρ₂ : Loc} {m m' : Mem} {cenv : Env} {h h' : Heap} (L₀ : LocOk c f ρ₀ m cenv h) (L₂ : LocOk c f ρ₂ m' cenv h') (hfn : f.fn = false) (hρ : ∀ x v, ρ₀.lookup x = some v → f.sc.names.lookup x = some .cell)
    (X : KpX cenv m h m' h') : LocOk c f ρ₀ m' cenv h' := by
  refine ⟨L₂.sc, L₂.fn, L₂.kind, L₂.gl, L₂.bi, L₂.off, L₂.new, ?_, fun x v h1 h2 => ?_, L₂.cells, L₂.apart⟩
  · obtain ⟨q, hq, _⟩ := L₂.ns
    exact ⟨q, hq, fun x v h1 h2 => by rw [hρ x v h1] at h2; cases h2⟩
  · obtain ⟨a, u, h3, ⟨o, h4, h5⟩, h6⟩ := L₀.cell x v h1 h2
    obtain ⟨a', u', h7, _, h8, _, h9⟩ := L₀.cells x h2
    rw [h3] at h7; cases h7
    exact ⟨a, u, h3, ⟨o, X.keep a o h4 h8 h9 (fun q => by rw [L₀.fn, hfn] at q; cases q), h5⟩, h6⟩
/-- what a list comprehension's loop does -/
noncomputable def CLoop (c : Cx) (n : Nat) (fc : Fs) (ρ₀ : Loc) (elt target : Expr) (ifs : List Expr) (m₁ : Mem) (vs : List Value) (sr : Src) (Q : Addr → List Value → Mem → Prop) : Prop :=
  ∃ J : Nat → List Value → Addr → Mem → Prop, (∀ D, m₁ D = none → J 0 [] D (upd m₁ D (.list []))) ∧ (∀ i out D m, J i out D m → SrcOk m vs sr ∧ m D = some (.list out) ∧ out.length ≤ 1000000) ∧
    (∀ i x out D m, vs[i]? = some x → J i out D m → As c n fc ρ₀ target x m (fun ρ₂ m₂ => Ifs c n fc ρ₂ ifs m₂ (fun ok m₃ =>
      if ok then Ev c n fc ρ₂ elt m₃ (fun v m₄ => m₄ D = some (.list out) ∧ J (i + 1) (out ++ [v]) D (upd m₄ D (.list (out ++ [v])))) else J (i + 1) out D m₃))) ∧
    (∀ D out m, J vs.length out D m → Q D out m)
theorem comp_loop {A : Around} {elt target iter : Expr} {ifs : List Expr} {scope : Scope} {pos : Pos} {it acc : Value} {env : Env} {s : Shared} {R : Result → Shared → Prop} (I : Nat → Shared → Prop)
    (turn : ∀ n s, I n s → wpAny c.M A (pyNext it) (fun r s₁ => match r with
      | none => R (.ok .next) s₁
      | some v => wpAny c.M A (letOwnedTupleGo target it v) (fun _ s₀ => wpAny c.M A (assign target env v) (fun _ s₂ =>
          wpAny c.M A (forIn ifs true fun c r => if r = true then do let ok ← isTrue c env (eval c env); pure (ForInStep.yield ok) else pure (ForInStep.yield r)) (fun ok s₃ => if ok = true then wpAny c.M A (eval elt env) (fun x s₄ =>
            wpAny c.M A (call (.builtin "list.append") [acc, x]) (fun _ s₅ => ∃ m, m < n ∧ I m s₅) (fun _ _ => False) s₄) (fun _ _ => False) s₃
            else ∃ m, m < n ∧ I m s₃) (fun _ _ => False) s₂)
          (fun _ _ => False) s₀) (fun _ _ => False) s₁) (fun _ _ => False) s)
    (n : Nat) (h : I n s) : codeAny c.M A (.compLoop (.ListComp elt [⟨target, iter, ifs, 0⟩] scope pos) 0 it acc env) R s := by
  refine codeAny_loop rfl I (fun n s hI => ?_) n h
  show wpAny _ A ((compTurn (.ListComp elt [⟨target, iter, ifs, 0⟩] scope pos) 0 it acc env).onRaise (fun x => do noteFrame x env; theTreesLotGoes x)) _ _ s
  refine wpAny_noted ?_
  rw [compTurn_list]
  refine wpAny_bind (wpAny_standAt (wpAny_bind (wpAny_mono (turn n s hI) (fun r s₁ h₁ => ?_) fun _ _ h' => h'.elim)))
  cases r with
  | none => exact wpAny_pure h₁
  | some v =>
    refine wpAny_bind (wpAny_mono h₁ (fun _ s₀ h₀' => ?_) fun _ _ h' => h'.elim)
    refine wpAny_bind (wpAny_mono h₀' (fun _ s₂ h₂ => ?_) fun _ _ h' => h'.elim)
    refine wpAny_bind (wpAny_mono h₂ (fun okb s₃ h₃ => ?_) fun _ _ h' => h'.elim)
    cases okb with
    | false => exact wpAny_pure ⟨rfl, h₃⟩
    | true => exact wpAny_bind (wpAny_bind (wpAny_mono h₃ (fun x s₄ h₄ => wpAny_bind (wpAny_mono h₄ (fun _ s₅ h₅ => wpAny_pure (wpAny_pure ⟨rfl, h₅⟩)) fun _ _ h' => h'.elim)) fun _ _ h' => h'.elim))
end
end Mine
end
section
-- Lay10
set_option maxRecDepth 100000
set_option autoImplicit false
set_option linter.unusedVariables false
namespace Mine
open PySem PySem.W PySem.Calls PyProof.Rows
theorem lookup_relabel_cell {env : Env} : ∀ {names : List (Str × NameKind)} {x : Str}, (∀ y ∈ names, y.2 ≠ .cell) →
    (names.map fun (n, k) => if (k == NameKind.free && env.scope.kind == .function && env.kindOf n == some .cell) then (n, NameKind.cell) else (n, k)).lookup x = some .cell → (x, NameKind.free) ∈ names ∧ env.kindOf x = some .cell
  | [], _, _, h => by simp at h
  | (n, k) :: r, x, hc, h => by
    have ih := @lookup_relabel_cell env r x fun y hy => hc y (List.mem_cons_of_mem _ hy)
    change List.lookup x ((if (k == NameKind.free && env.scope.kind == .function && env.kindOf n == some .cell) = true then (n, NameKind.cell) else (n, k)) :: _) = _ at h
    by_cases hq : (k == NameKind.free && env.scope.kind == .function && env.kindOf n == some .cell) = true
    · rw [if_pos hq] at h
      simp only [Bool.and_eq_true, beq_iff_eq] at hq
      cases hx : x == n with
      | true =>
        have : x = n := beq_iff_eq.mp hx
        subst this
        exact ⟨by rw [hq.1.1]; exact List.mem_cons_self .., hq.2⟩
      | false =>
        simp only [List.lookup_cons, hx] at h
        exact ⟨List.mem_cons_of_mem _ (ih h).1, (ih h).2⟩
    · rw [if_neg hq] at h
      cases hx : x == n with
      | true =>
        simp only [List.lookup_cons, hx] at h
        cases h
        exact absurd rfl (hc (n, .cell) (List.mem_cons_self ..))
      | false =>
        simp only [List.lookup_cons, hx] at h
        exact ⟨List.mem_cons_of_mem _ (ih h).1, (ih h).2⟩
section
variable {c : Cx} {n : Nat} {f : Fs} {ρ : Loc} {mem : Mem}
theorem comp_core {elt target iter : Expr} {ifs : List Expr} {scope : Scope} {pos cpos : Pos} {Q : Addr → List Value → Mem → Prop} (use : Option (Value → Sem Unit)) {P : Value → Shared → Prop} (fc : Fs) (ρ₀ : Loc)
    (hfc : fc = ⟨relabel scope (envS f.sc), false⟩) (hkind : scope.kind = .function) (hcell : ∀ y ∈ scope.names, y.2 ≠ .cell) (hnames : ∀ y ∈ scope.names, y.2 = .local → scope.names.lookup y.1 = some .local) (hfree : freesOk scope f.sc = true)
    (hρ₀ : ∀ x v, ρ₀.lookup x = some v → ρ.lookup x = some v ∧ fc.sc.names.lookup x = some .cell)
    (hs : ∀ env x, foldedSetIterable iter env x = pure x)
    {A : Around} {s : Shared} {env : Env} (ro : Room n A) (Rp : Rep c mem s.heap) (L : LocOk c f ρ mem env s.heap)
    (h : Ev c n f ρ iter mem (fun v m₁ => ∃ vs sr, SrcV v m₁ vs sr ∧ CLoop c n fc ρ₀ elt target ifs m₁ vs sr Q))
    (hP : ∀ D C out s₁ m₁ s' m', Now c s mem s₁ m₁ → Now c s₁ m₁ s' m' → s₁.heap.get? C = none → (∃ mm, s'.heap.Ns C mm) → m' C = none → c.h₀.get? C = none → Q D out m' → compPost c.M A (fun _ _ => False) use P (.ref D) C (.ok .next) s') :
    wpAny c.M A (comprehension (.ListComp elt [⟨target, iter, ifs, 0⟩] scope pos) scope env cpos (newList []) false (eval iter env) use) P (fun _ _ => False) s := by
  have hfr : ∀ x, (x, NameKind.free) ∈ scope.names → f.sc.names.lookup x = some .cell := fun x hx => by
    have := List.all_eq_true.mp hfree (x, .free) hx
    simpa using this
  obtain ⟨cl, hcl, hcl1, hcl2⟩ := closure_of (scope := scope) (env := env) fun x hx hk => by
    obtain ⟨a, u, h1, _⟩ := L.cells x.1 (hfr x.1 (by rw [← hk]; exact hx))
    exact ⟨a, h1⟩
  have hrl : relabel scope env = fc.sc := by rw [hfc]; exact relabel_eq L.sc
  refine wpAny_comprehension_free (use := use) rfl (hs env) hcl hkind hnames (step (h A s env ro Rp L) fun v s₁ m₁ N₁ ⟨vs, sr, hsr, J, j0, jok, turn, done⟩ => ?_)
  refine iter_start N₁.rep hsr.un fun Ia h₂ it₂ hIa hIa₀ N₂ => ?_
  have L₂ := L.keeps (N₁.trans N₂).kp
  have hm₁ : m₁ Ia = none := by
    cases q : m₁ Ia with
    | none => rfl
    | some ao =>
      obtain ⟨o, e⟩ := (N₁.rep.at_ Ia ao q).get
      rw [hIa] at e; cases e
  have hIlt : Ia < h₂.objs.size := let ⟨_, e⟩ := it₂.get; Heap.lt_size e
  refine wpAny_newObj_type (wpAny_newFunctionEnv hcell (by intro y hy; simp at hy) (fun h₃ hns hsb => ?_) hkind)
  have N₃ : Now c s mem _ _ := (N₁.trans N₂).made (ao := .list []) (o := { cls := .type "list", data := .seq ([] : List Value).toArray }) rfl (fun m h' e => ⟨_, _, e, by simp⟩)
  have hDfree : m₁ h₂.objs.size = none := N₂.rep.free
  dsimp only at hns hsb N₃ ⊢
  generalize hH2 : h₂.push { cls := .type "list", dict := none, data := .seq ([] : List Value).toArray } = H2 at hns hsb N₃ ⊢
  have hsz : H2.objs.size = h₂.objs.size + 1 := by rw [← hH2, Heap.size_push]
  have hClt : h₂.objs.size < H2.objs.size := by rw [hsz]; exact Nat.lt_succ_self _
  generalize hCe : H2.objs.size = C at hns hsb ⊢
  generalize hDe : h₂.objs.size = D at hDfree N₃ hClt ⊢
  have hCn : H2.get? C = none := by
    rw [← hCe]
    cases q' : H2.get? H2.objs.size with
    | none => rfl
    | some o => exact absurd (Heap.lt_size q') (Nat.lt_irrefl _)
  have hCm : upd m₁ D (.list []) C = none := by rw [← hCe]; exact N₃.rep.free
  have hC₀ : c.h₀.get? C = none := by rw [← hCe]; exact N₃.rep.next
  have hext : ∀ b o, H2.get? b = some o → h₃.get? b = some o := fun b o e => hsb.extBut b o (fun q => by rw [q, hCn] at e; cases e) (Heap.get?_push_of_some _ e)
  have N₄ : Now c s mem { s₁ with heap := h₃, toks := s₁.toks + ([] : List (Str × Value)).length } (upd m₁ D (.list [])) :=
    N₃.trans ⟨N₃.rep.keeps hext, .keeps fun b o e _ => hext b o e, _, _, rfl⟩
  have N₃' : Now c s₁ m₁ { s₁ with heap := H2 } (upd m₁ D (.list [])) := by
    have := N₂.made (ao := .list []) (o := { cls := .type "list", dict := none, data := .seq ([] : List Value).toArray }) rfl (fun m h' e => ⟨_, _, e, by simp⟩)
    dsimp only at this
    rw [hH2, hDe] at this
    exact this
  have N₄' : Now c s₁ m₁ { s₁ with heap := h₃, toks := s₁.toks + ([] : List (Str × Value)).length } (upd m₁ D (.list [])) :=
    N₃'.trans ⟨N₃'.rep.keeps hext, .keeps fun b o e _ => hext b o e, _, _, rfl⟩
  have hCD : C ≠ D := fun q => by rw [q, upd_same] at hCm; cases hCm
  have hCm₁ : m₁ C = none := by rw [upd_ne hCD] at hCm; exact hCm
  have hCs : s₁.heap.get? C = none := by
    cases q : s₁.heap.get? C with
    | none => rfl
    | some o => have := N₃'.kp.keep C o q hCm₁; rw [hCn] at this; cases this
  have L₄ := L.keeps N₄.kp
  have hIaD : Ia ≠ D := fun q => by rw [← hDe] at q; exact absurd hIlt (by rw [q]; exact Nat.lt_irrefl _)
  have hIC : Ia ≠ C := fun q => absurd (Nat.lt_trans hIlt (hDe ▸ hClt)) (by rw [q, hCe]; exact Nat.lt_irrefl _)
  have hI₄ : upd m₁ D (.list []) Ia = none := by rw [upd_ne hIaD]; exact hm₁
  have it₄ : It h₃ Ia 0 sr := it₂.keep fun o e => hext _ _ (by rw [← hH2]; exact Heap.get?_push_of_some _ e)
  have Lc : LocOk c fc ρ₀ (upd m₁ D (.list [])) (compEnvC scope cl C env) h₃ := by
    have hcells : ∀ x, fc.sc.names.lookup x = some .cell → (x, NameKind.free) ∈ scope.names ∧ f.sc.names.lookup x = some .cell := fun x hx => by
      rw [← hrl] at hx
      obtain ⟨h1, h2⟩ := lookup_relabel_cell hcell hx
      exact ⟨h1, hfr x h1⟩
    have hne : ∀ x a, f.sc.names.lookup x = some .cell → env.cells.lookup x = some a → a ≠ C := fun x a h1 h2 => by
      obtain ⟨a', u, h3, ⟨o, h4, _⟩, _⟩ := (L.keeps N₁.kp).cells x h1
      rw [h2] at h3; cases h3
      intro q; rw [q, hCs] at h4; cases h4
    refine ⟨hrl, by rw [hfc]; rfl, by rw [hfc]; exact hkind, L.gl, L.bi, hCm, hC₀, ⟨_, hns, fun x v h1 h2 => ?_⟩, fun x v h1 h2 => ?_, fun x h1 => ?_, fun x y a h1 h2 h3 h4 => ?_⟩
    · rw [(hρ₀ x v h1).2] at h2; cases h2
    · obtain ⟨h3, h4⟩ := hcells x h2
      obtain ⟨a, u, h5, h6, h7⟩ := L₄.cell x v (hρ₀ x v h1).1 h4
      exact ⟨a, u, by show cl.lookup x = _; rw [hcl2 x h3]; exact h5, h6, h7⟩
    · obtain ⟨h3, h4⟩ := hcells x h1
      obtain ⟨a, u, h5, h6, h7, h8, _⟩ := L₄.cells x h4
      exact ⟨a, u, by show cl.lookup x = _; rw [hcl2 x h3]; exact h5, h6, h7, h8, hne x a h4 h5⟩
    · exact L.apart x y a (hcells x h1).2 (hcells y h2).2 (hcl1 x a h3).1 (hcl1 y a h4).1
  have Cc : CellsOnly fc (compEnvC scope cl C env) := fun x a h1 _ => by cases h1
  have hno : ∀ a, OwnOf (compEnvC scope cl C env) a ↔ a = C := fun a => ⟨fun q => q.elim id fun z => (by cases z.1), .inl⟩
  have hIno : ¬ OwnOf (compEnvC scope cl C env) Ia := fun q => hIC ((hno _).mp q)
  have loop : codeAny c.M A (.compLoop (.ListComp elt [⟨target, iter, ifs, 0⟩] scope pos) 0 (.ref Ia) (.ref D) (compEnvC scope cl C env)) (compPost c.M A (fun _ _ => False) use P (.ref D) C) { s₁ with heap := h₃, toks := s₁.toks + ([] : List (Str × Value)).length } := by
    refine comp_loop (fun k s' => ∃ i m out, k = vs.length + 1 - i ∧ i ≤ vs.length ∧ NowX c (compEnvC scope cl C env) s₁ m₁ s' m ∧ LocOk c fc ρ₀ m (compEnvC scope cl C env) s'.heap ∧ It s'.heap Ia i sr ∧ m Ia = none ∧ J i out D m) ?_ (vs.length + 1)
      ⟨0, _, [], rfl, Nat.zero_le _, NowX.of N₄' fun a o ho _ => by rw [(hno a).mp ho]; exact hCm₁, Lc, it₄, hI₄, j0 D hDfree⟩
    rintro k s' ⟨i, m, out, rfl, hi, X, L', it', hm, hJ⟩
    obtain ⟨hok, hDm, hlen⟩ := jok i out D m hJ
    have hne1 : (compEnvC scope cl C env).locals ≠ Ia := fun q => hIC q.symm
    have hne2 : ∀ x a, fc.sc.names.lookup x = some .cell → (compEnvC scope cl C env).cells.lookup x = some a → a ≠ Ia := fun x a h1 h2 q => by
      obtain ⟨a', u, h3, ⟨o, h4, h4'⟩, h5, _⟩ := L'.cells x h1
      rw [h2] at h3; cases h3
      rw [q] at h4
      cases sr with
      | lst b => obtain ⟨⟨o', h6, h7, h8⟩, _⟩ := it'; rw [h6] at h4; cases h4; rw [h8] at h4'; cases h4'
      | rng lo hi => have h6 : s'.heap.get? Ia = some _ := it'; rw [h6] at h4; cases h4; cases h4'
    have hx : ∀ {h' : Heap} {tk : Nat}, Heap.ExtBut Ia s'.heap h' → NowX c (compEnvC scope cl C env) s₁ m₁ { s' with heap := h', toks := tk } m ∧ LocOk c fc ρ₀ m (compEnvC scope cl C env) h' := fun {h' tk} hs => by
      refine ⟨⟨X.rep.other hm hIa₀ hs, ⟨fun a o e q1 q2 q3 => ?_, X.kp.fresh⟩, ?_, fun a o ho e => ?_⟩, L'.other hne1 hne2 hs⟩
      · exact hs a o (fun q => by rw [q, hIa] at e; cases e) (X.kp.keep a o e q1 q2 q3)
      · obtain ⟨h, t, rfl⟩ := X.shape; exact ⟨_, _, rfl⟩
      · obtain ⟨o', e'⟩ := X.own a o ho e
        exact ⟨o', hs a o' (fun q => hIno (q ▸ ho)) e'⟩
    cases hv : vs[i]? with
    | none =>
      have hil : i = vs.length := by rw [List.getElem?_eq_none_iff] at hv; omega
      subst hil
      refine next_end ro.1 X.rep hok it' hv fun h' hs => ?_
      obtain ⟨X', L''⟩ := hx (tk := s'.toks) hs
      refine hP D C out s₁ m₁ _ m N₁ ⟨X'.rep, ⟨fun a o e q1 => X'.kp.keepN e q1 (fun q => by rw [(hno a).mp q, hCs] at e; cases e), X'.kp.fresh⟩, X'.shape⟩ hCs ?_ L''.off hC₀ (done D out m hJ)
      obtain ⟨mm, hmm, _⟩ := L''.ns
      exact ⟨mm, hmm⟩
    | some x =>
      have hil : i < vs.length := (List.getElem?_eq_some_iff.mp hv).1
      refine next_item X.rep hok it' hv fun v' h' tk hv' it'' hs => ?_
      obtain ⟨X', L''⟩ := hx (tk := tk) hs.extBut
      refine letGo_ok it'' ?_
      refine xstep (turn i x out D m hv hJ v' hv' A _ _ ro X'.rep L'' Cc) fun _ s₂ m₂ ρ₂ X₂ L₂ q₂ => ?_
      have X₂' := X'.trans X₂
      have hkeep : ∀ {s₅ : Shared} {m₅ : Mem}, NowX c (compEnvC scope cl C env) { s' with heap := h', toks := tk } m s₅ m₅ → It s₅.heap Ia (i + 1) sr ∧ m₅ Ia = none := fun {s₅ m₅} Y => by
        refine ⟨it''.keep fun o e => Y.kp.keepN e hm hIno, ?_⟩
        obtain ⟨o, e⟩ := it''.get
        exact Y.kp.off e hm
      refine step (q₂ A s₂ _ ro X₂.rep L₂) fun ok s₃ m₃ N₅ q₃ => ?_
      have X₃ := X₂.trans (NowX.of N₅ fun a o ho _ => L₂.ownNone Cc ho)
      have L₃ := L₂.keeps N₅.kp
      cases ok with
      | false =>
        rw [if_neg (by decide)] at q₃ ⊢
        obtain ⟨it₃, hm₃⟩ := hkeep X₃
        exact ⟨_, by omega, i + 1, m₃, out, rfl, hil, X'.trans X₃, L''.again L₃ (by rw [hfc]) (fun x v e => (hρ₀ x v e).2) X₃.kp, it₃, hm₃, q₃⟩
      | true =>
        rw [if_pos rfl] at q₃ ⊢
        refine step (q₃ A s₃ _ ro X₃.rep L₃) fun y s₄ m₄ N₆ ⟨hD₄, hJ'⟩ => ?_
        have X₄ := X₃.trans (NowX.of N₆ fun a o ho _ => L₃.ownNone Cc ho)
        have L₄ := L₃.keeps N₆.kp
        refine step (cal_append (n := n) hD₄ hlen (Q := fun _ m₅ => m₅ = upd m₄ D (.list (out ++ [er y]))) rfl (.builtin "list.append") [.ref D, y] rfl rfl A s₄ ro X₄.rep) fun _ s₅ m₅ N₇ e₅ => ?_
        subst e₅
        have X₅ := X₄.trans (NowX.of N₇ fun a o ho _ => L₄.ownNone Cc ho)
        have L₅ := L₄.keeps N₇.kp
        obtain ⟨it₅, hm₅⟩ := hkeep X₅
        exact ⟨_, by omega, i + 1, _, _, rfl, hil, X'.trans X₅, L''.again L₅ (by rw [hfc]) (fun x v e => (hρ₀ x v e).2) X₅.kp, it₅, hm₅, hJ'⟩
  have hiter : ∀ {Q' : Value → Shared → Prop} {E' : Value → Shared → Prop} {s' : Shared}, It s'.heap Ia 0 sr → Q' (.ref Ia) s' → wpAny c.M A (pyIter (.ref Ia)) Q' E' s' := fun {Q' E' s'} it q => by
    cases sr with
    | lst a => exact wpAny_pyIter_listiter it.1 q
    | rng lo hi => exact wpAny_pyIter_rangeiter it q
  exact codeAny_compStart_list loop (hiter it₄ loop)
end
end Mine
end
section
-- Lay11
set_option maxRecDepth 100000
set_option autoImplicit false
set_option linter.unusedVariables false
namespace Mine
open PySem PySem.W PySem.Calls PyProof.Rows
noncomputable def compOk (scope sc : Scope) : Bool := decide (scope.kind = .function) && scope.names.all (fun x => x.2 != .cell) && scope.names.all (fun x => x.2 != .local || scope.names.lookup x.1 == some .local) && freesOk scope sc
noncomputable def compFs (scope : Scope) (f : Fs) : Fs := ⟨relabel scope (envS f.sc), false⟩
section
variable {c : Cx} {n : Nat} {f : Fs} {ρ : Loc} {mem : Mem} {N : Loc → Mem → Prop} {R : Value → Mem → Prop}
theorem compOk_split {scope sc : Scope} (h : compOk scope sc = true) : scope.kind = .function ∧ (∀ y ∈ scope.names, y.2 ≠ .cell) ∧ (∀ y ∈ scope.names, y.2 = .local → scope.names.lookup y.1 = some .local) ∧ freesOk scope sc = true := by
  simp only [compOk, Bool.and_eq_true, decide_eq_true_eq, List.all_eq_true] at h
  obtain ⟨⟨⟨h1, h2⟩, h3⟩, h4⟩ := h
  refine ⟨h1, fun y hy => by simpa using h2 y hy, fun y hy q => ?_, h4⟩
  have := h3 y hy
  rw [q] at this
  simpa using this
theorem carry {ρ₀ : Loc} {fc : Fs} (h : ∀ p ∈ ρ₀, ρ.lookup p.1 = some p.2 ∧ fc.sc.names.lookup p.1 = some .cell) : ∀ x v, ρ₀.lookup x = some v → ρ.lookup x = some v ∧ fc.sc.names.lookup x = some .cell := fun x v e => h (x, v) (mem_of_look e)
theorem ev_comp {elt target iter : Expr} {ifs : List Expr} {scope : Scope} {pos : Pos} {Q : Value → Mem → Prop} (ρ₀ : Loc) (hok : compOk scope f.sc = true)
    (hρ₀ : ∀ p ∈ ρ₀, ρ.lookup p.1 = some p.2 ∧ (compFs scope f).sc.names.lookup p.1 = some .cell)
    (h : Ev c n f ρ iter mem (fun v m₁ => ∃ vs sr, SrcV v m₁ vs sr ∧ CLoop c n (compFs scope f) ρ₀ elt target ifs m₁ vs sr (fun D out m => Q (.ref D) m)))
    (hs : ∀ env x, foldedSetIterable iter env x = pure x := by intro _ _; rfl) : Ev c n f ρ (.ListComp elt [⟨target, iter, ifs, 0⟩] scope pos) mem Q := fun A s env ro Rp L => by
  obtain ⟨h1, h2, h3, h4⟩ := compOk_split hok
  rw [eval_ListComp]
  refine comp_core none (compFs scope f) ρ₀ rfl h1 h2 h3 h4 (carry hρ₀) hs ro Rp L h fun D C out s₁ m₁ s' m' N₁ N₂ hC hns hm h0 q => ?_
  obtain ⟨mm, hmm⟩ := hns
  refine ⟨mm, hmm, fun h' hs' => ⟨m', N₁.trans ⟨heap_ext N₂.rep hm h0 hs', ⟨fun a o e q1 => ?_, N₂.kp.fresh⟩, ?_⟩, q⟩⟩
  · rw [hs'.2 a (fun z => by rw [z, hC] at e; cases e)]; exact N₂.kp.keep a o e q1
  · obtain ⟨h, t, rfl⟩ := N₂.shape; exact ⟨_, _, rfl⟩
theorem swaps_env {e : Expr} {t : Expr} {k : Nat} {env : Env} {sc : Scope} (h : env.scope = sc) : swapsWith e (some t) k env = swapsWith e (some t) k (envS sc) := by
  unfold swapsWith Env.blockKind Env.kindOf envS
  rw [h]
theorem st_assignC {t e : Expr} {pos : Pos} (h : Ev c n f ρ e mem (fun v m₁ => As c n f ρ t v m₁ N)) (hp : swapsWith e (some t) pos.line (envS f.sc) = pure false) (ht : (notTup t || notTup e) = true := by rfl) (hs : plainE t = true := by rfl) : St c n f ρ (.Assign [t] e pos) mem N R := fun A s env r Rp L C =>
  wpAny_Assign_stores (step (h A s env r Rp L) fun v s₁ m₁ N₁ q => by
    have e1 : (assignEach [t] env).map (·.2) = [assign t env] := by rw [assignEach_plain hs]; rfl
    rw [e1]
    show wpAny _ _ (assign t env v) _ _ _
    exact xstep (q v rfl A s₁ env r N₁.rep (L.keeps N₁.kp) C) fun _ s₂ m₂ ρ₂ N₂ L₂ q₂ => ⟨m₂, ρ₂, (NowX.of N₁ fun a o ho _ => L.ownNone C ho).trans N₂, L₂, q₂⟩) (by show swapsWith e (some t) pos.line env = _; rw [swaps_env L.sc, hp]) (swapped_none ht)
theorem st_comp {elt target iter : Expr} {ifs : List Expr} {scope : Scope} {pos spos py : Pos} {y : Str} (ρ₀ : Loc) (hok : compOk scope f.sc = true)
    (hsw : swapsWith (.ListComp elt [⟨target, iter, ifs, 0⟩] scope pos) (some (.Name y py)) spos.line (envS f.sc) = pure true)
    (hρ₀ : ∀ p ∈ ρ₀, ρ.lookup p.1 = some p.2 ∧ (compFs scope f).sc.names.lookup p.1 = some .cell)
    (h : Ev c n f ρ iter mem (fun v m₁ => ∃ vs sr, SrcV v m₁ vs sr ∧ CLoop c n (compFs scope f) ρ₀ elt target ifs m₁ vs sr (fun D out m => Sto c n f ρ y (.ref D) m N)))
    (hs : ∀ env x, foldedSetIterable iter env x = pure x := by intro _ _; rfl) : St c n f ρ (.Assign [.Name y py] (.ListComp elt [⟨target, iter, ifs, 0⟩] scope pos) spos) mem N R := fun A s env ro Rp L Ce => by
  obtain ⟨h1, h2, h3, h4⟩ := compOk_split hok
  rw [exec_Assign_Name_used _ _ _ _ (by rw [swaps_env L.sc]; exact hsw)]
  refine wpAny_bind (wpAny_standAt (wpAny_bind ?_))
  show wpAny _ A (do let _ ← comprehension (.ListComp elt [⟨target, iter, ifs, 0⟩] scope pos) scope env _ (newList []) false (eval iter env) (some (assign (.Name y py) env))) _ _ s
  refine wpAny_bind ?_
  refine comp_core (some (assign (.Name y py) env)) (compFs scope f) ρ₀ rfl h1 h2 h3 h4 (carry hρ₀) hs ro Rp L h fun D C out s₁ m₁ s' m' N₁ N₂ hC hns hm h0 q => ?_
  obtain ⟨mm, hmm⟩ := hns
  have L₁ := L.keeps N₁.kp
  have L₂ := L₁.keeps N₂.kp
  have hno : ¬ OwnOf env C := noOwn L₁ Ce hC
  show wpAny _ _ (assign (.Name y py) env (.ref D)) _ _ _
  refine xstep (as_name (pos := py) q (.ref D) rfl A s' env ro N₂.rep L₂ Ce) fun _ s₃ m₃ ρ₃ N₃ L₃ q₃ => ?_
  have hCe : ∃ o, s'.heap.get? C = some o := by obtain ⟨o, _, _, e, _⟩ := hmm; exact ⟨o, e⟩
  obtain ⟨oC, eC⟩ := hCe
  have hm₃ : m₃ C = none := N₃.kp.off eC hm
  refine ⟨mm, hmm.at' fun o e => N₃.kp.keepN e hm hno, fun h' hs' => wpAny_pure (wpAny_pure ⟨m₃, ρ₃, (NowX.of N₁ fun a o ho _ => L.ownNone Ce ho).trans ⟨heap_ext N₃.rep hm₃ h0 hs', ?_, ?_, fun a o ho e => ?_⟩, ?_, q₃⟩)⟩
  · have X := (NowX.of (env := env) N₂ fun a o ho _ => L₁.ownNone Ce ho).trans N₃
    refine ⟨fun a o e q1 q2 q3 => ?_, X.kp.fresh⟩
    rw [hs'.2 a (fun z => by rw [z, hC] at e; cases e)]; exact X.kp.keep a o e q1 q2 q3
  · obtain ⟨h, t, rfl⟩ := N₂.shape; obtain ⟨h, t, rfl⟩ := N₃.shape; exact ⟨_, _, rfl⟩
  · have X := (NowX.of (env := env) N₂ fun a o ho _ => L₁.ownNone Ce ho).trans N₃
    obtain ⟨o', e'⟩ := X.own a o ho e
    exact ⟨o', by rw [hs'.2 a (fun z => hno (z ▸ ho))]; exact e'⟩
  · exact L₃.other (I := C) (fun z => hno (.inl z.symm)) (fun x a h1 h2 z => by
      obtain ⟨a', u, h3, ⟨o, h4, _⟩, _⟩ := L₁.cells x h1
      rw [h2] at h3; cases h3
      rw [z, hC] at h4; cases h4) hs'.extBut
end
end Mine
end
section
-- Lay12
set_option maxRecDepth 100000
set_option autoImplicit false
set_option linter.unusedVariables false
namespace Mine
open PySem PySem.W PySem.Calls PyProof.Rows
theorem Room.deeper {n : Nat} {A : Around} {env : Env} (h : Room (n + 1) A) : Room n (A.deeper env) :=
  ⟨h.1, by have := h.2.1; show A.depth + 1 + n < 1000; omega, by have := h.2.2; show A.units + 3 + 8 * n < 9900; omega⟩
theorem Room.under {n : Nat} {A : Around} {cd : Code} (h : Room (n + 1) A) (hw : cd.weight ≤ 1) (hu : cd.cUnits ≤ 8) : Room n (A.under cd) :=
  ⟨h.1, by have := h.2.1; show A.depth + cd.weight + n < 1000; omega, by have := h.2.2; show A.units + cd.cUnits + 8 * n < 9900; omega⟩
noncomputable def CodeCal (c : Cx) (n : Nat) (a : Addr) (vs : List Value) (mem : Mem) (Q : Value → Mem → Prop) : Prop :=
  ∀ (A : Around) (s : Shared) (vals : List Value), Room n A → Rep c mem s.heap → vals.map er = vs → codeAny c.M A (.call (.ref a) ⟨vals, []⟩) (fun r s' => ∃ v mem', r = .ok (.ret v) ∧ Now c s mem s' mem' ∧ Q (er v) mem') s
section
variable {c : Cx} {n : Nat} {mem : Mem} {Q : Value → Mem → Prop}
theorem CodeCal.cal {a : Addr} {vs : List Value} (h : CodeCal c n a vs mem Q) : Cal c n (.ref a) vs mem Q := fun f' vs' hf hv A s r R => by
  obtain rfl := er_ref hf
  refine wpAny_call (codeAny_mono (h A s vs' r R hv) fun r s' ⟨v, m', e, N, q⟩ => ?_)
  subst e
  exact ⟨m', N, q⟩
theorem erP_zip : ∀ (xs : List Str) (vals : List Value), (xs.zip vals).map erP = xs.zip (vals.map er)
  | [], _ => rfl
  | _ :: _, [] => rfl
  | x :: xs, v :: vals => by
    show erP (x, v) :: (xs.zip vals).map erP = (x, er v) :: xs.zip (vals.map er)
    rw [erP_zip xs vals]; rfl
theorem look_mem {l : List (Str × NameKind)} {x : Str} {k : NameKind} (h : l.lookup x = some k) : (x, k) ∈ l := mem_of_lookup h
theorem nocell_look {l : List (Str × NameKind)} (h : ∀ x ∈ l, x.2 ≠ .cell) {x : Str} : l.lookup x ≠ some .cell := fun q => h _ (look_mem q) rfl
/-- what a call hands back to where it was called -/
theorem now_back {env : Env} {s s₁ s' : Shared} {m' : Mem} (X : NowX c env s₁ mem s' m') (hk : ∀ b o, s.heap.get? b = some o → s₁.heap.get? b = some o) (hs : ∃ h tk, s₁ = { s with heap := h, toks := tk })
    (hown : ∀ b o, s.heap.get? b = some o → ¬ OwnOf env b) : Now c s mem s' m' := by
  refine ⟨X.rep, ⟨fun b o e hb => X.kp.keepN (hk b o e) hb (hown b o e), fun b h1 h2 => ?_⟩, ?_⟩
  · have := X.kp.fresh b h1 h2
    cases q : s.heap.get? b with
    | none => rfl
    | some o => rw [hk b o q] at this; cases this
  · obtain ⟨h, t, rfl⟩ := hs; obtain ⟨h, t, rfl⟩ := X.shape; exact ⟨_, _, rfl⟩
theorem code_plain {a : Addr} {vs : List Value} {name qual : Str} {params : Arguments} {body : List Stmt} {scope : Scope} {dV kV doc pm cdv ct oc : Value} {an od : Option Addr} {osl : Array (Option Value)} {ρ : Loc}
    (look : c.K.lookup a = some ⟨oc, od, .func (fnOf name qual params body scope dV kV doc pm an cdv ct), osl⟩) (hcd : codeIn c.K cdv qual = true)
    (hbind : ∀ (s : Shared) (vals : List Value), c.K.In s.heap → vals.map er = vs → ∃ binds, BindsTo s (fnOf name qual params body scope dV kV doc pm an cdv ct) ⟨vals, []⟩ binds ∧ (binds.map erP).reverse = ρ ∧ ∀ x ∈ binds, scope.names.lookup x.1 = some .local)
    (hsc : (decide (scope.kind = .function) && !scope.isCoroutine && !scope.isGenerator && scope.names.all (fun x => x.2 != .cell)) = true)
    (h : Sts c n ⟨scope, true⟩ ρ body mem (fun _ m => Q .none m) Q) : CodeCal c (n + 1) a vs mem Q := fun A s vals ro Rp hv => by
  simp only [Bool.and_eq_true, decide_eq_true_eq, Bool.not_eq_true', List.all_eq_true] at hsc
  obtain ⟨⟨⟨hk, hco⟩, hge⟩, hnc⟩ := hsc
  have hnc' : ∀ x ∈ scope.names, x.2 ≠ .cell := fun x hx => by simpa using hnc x hx
  obtain ⟨binds, hb, rfl, hl⟩ := hbind s vals Rp.kin hv
  refine codeAny_call_def (fd := fnOf name qual params body scope dV kV doc pm an cdv ct) (body := body) (by have := ro.2.1; show A.depth < 1000; omega) (Rp.kin _ _ look) rfl Rp.lim (codeRec_of Rp.kin hcd) rfl hb hnc' hl (fun h₁ hns hkp => ?_) hco hge hk
  have Rp₁ : Rep c mem h₁ := Rp.keeps hkp
  have L : LocOk c ⟨scope, true⟩ (binds.map erP).reverse mem (callEnv (fnOf name qual params body scope dV kV doc pm an cdv ct) s.heap.objs.size a) h₁ := by
    refine ⟨rfl, rfl, hk, rfl, rfl, Rp.free, Rp.next, ⟨_, hns, fun x v h1 h2 => ?_⟩, fun x v h1 h2 => absurd h2 (nocell_look hnc'), fun x h1 => absurd h1 (nocell_look hnc'), fun x y b h1 => absurd h1 (nocell_look hnc')⟩
    rw [← List.map_reverse, lookup_erP] at h1
    exact h1
  have C : CellsOnly ⟨scope, true⟩ (callEnv (fnOf name qual params body scope dV kV doc pm an cdv ct) s.heap.objs.size a) := fun x b _ hb => by cases hb
  refine wpAny_mono (h _ _ _ ro.deeper Rp₁ L C) (fun fl s' ⟨m', ρ', X, L', q⟩ => ?_) fun _ _ z => z.elim
  have N : Now c s mem s' m' := now_back X hkp ⟨_, _, rfl⟩ fun b o e ho => by
    rcases ho with ho | ⟨_, x, hx⟩
    · have := Heap.lt_size e; rw [ho] at this; exact absurd this (Nat.lt_irrefl _)
    · cases hx
  cases fl with
  | next => exact ⟨.none, m', rfl, N, q⟩
  | ret v => exact ⟨v, m', rfl, N, q⟩
  | brk => exact q.elim
  | cont => exact q.elim
theorem bindL_at (kf : Str → Option NameKind) : ∀ (binds : List (Str × Value)) (m : Str → Option Value) (x : Str), kf x = some .local → bindL kf binds m x = (binds.reverse.lookup x).or (m x)
  | [], m, x, _ => by simp [bindL]
  | (y, v) :: r, m, x, hx => by
    unfold bindL
    rw [bindL_at kf r _ x hx, List.reverse_cons]
    have e : (r.reverse ++ [(y, v)]).lookup x = (r.reverse.lookup x).or (if x = y then some v else none) := by
      rw [List.lookup_append]
      congr 1
      by_cases h : x = y
      · subst h; simp
      · simp [List.lookup_cons, show (x == y) = false from beq_eq_false_iff_ne.mpr h, h]
    rw [e]
    by_cases h : x = y
    · subst h; simp [hx]
    · cases r.reverse.lookup x with
      | some u => rfl
      | none => by_cases hk : kf y = some .local <;> simp [hk, h]
theorem bindC_at (kf : Str → Option NameKind) : ∀ (binds : List (Str × Value)) (m : Str → Option Value) (x : Str), kf x ≠ some .local → bindC kf binds m x = (binds.reverse.lookup x).or (m x)
  | [], m, x, _ => by simp [bindC]
  | (y, v) :: r, m, x, hx => by
    unfold bindC
    rw [bindC_at kf r _ x hx, List.reverse_cons]
    have e : (r.reverse ++ [(y, v)]).lookup x = (r.reverse.lookup x).or (if x = y then some v else none) := by
      rw [List.lookup_append]
      congr 1
      by_cases h : x = y
      · subst h; simp
      · simp [List.lookup_cons, show (x == y) = false from beq_eq_false_iff_ne.mpr h, h]
    rw [e]
    by_cases h : x = y
    · subst h; simp [hx]
    · cases r.reverse.lookup x with
      | some u => rfl
      | none => by_cases hk : kf y = some .local <;> simp [hk, h]
theorem cells_in : ∀ (names : List (Str × NameKind)) (k : Nat) (acc : List (Str × Addr)) (x : Str) (a : Addr), (x, a) ∈ cellsFrom k names acc → (x, a) ∈ acc ∨ (x, NameKind.cell) ∈ names
  | [], k, acc, x, a, h => .inl h
  | (y, kd) :: r, k, acc, x, a, h => by
    unfold cellsFrom at h
    split at h
    · rename_i hk
      rcases cells_in r _ _ x a h with h | h
      · rcases List.mem_cons.mp h with h | h
        · cases h; exact .inr (by rw [beq_iff_eq.mp hk]; exact List.mem_cons_self ..)
        · exact .inl h
      · exact .inr (List.mem_cons_of_mem _ h)
    · rcases cells_in r _ _ x a h with h | h
      · exact .inl h
      · exact .inr (List.mem_cons_of_mem _ h)
theorem cells_has : ∀ (names : List (Str × NameKind)) (k : Nat) (acc : List (Str × Addr)) (x : Str), (acc.lookup x).isSome = true ∨ (x, NameKind.cell) ∈ names → ((cellsFrom k names acc).lookup x).isSome = true
  | [], k, acc, x, h => by rcases h with h | h; exact h; cases h
  | (y, kd) :: r, k, acc, x, h => by
    unfold cellsFrom
    split
    · rename_i hk
      refine cells_has r _ _ x ?_
      by_cases hx : x = y
      · subst hx; left; simp
      · rcases h with h | h
        · left; rw [List.lookup_cons, show (x == y) = false from beq_eq_false_iff_ne.mpr hx]; exact h
        · rcases List.mem_cons.mp h with h | h
          · cases h; exact absurd rfl hx
          · exact .inr h
    · rename_i hk
      refine cells_has r _ _ x ?_
      rcases h with h | h
      · exact .inl h
      · rcases List.mem_cons.mp h with h | h
        · cases h; exact absurd rfl hk
        · exact .inr h
theorem code_cells {a : Addr} {vs : List Value} {name qual : Str} {params : Arguments} {body : List Stmt} {scope : Scope} {dV kV doc pm cdv ct oc : Value} {an od : Option Addr} {osl : Array (Option Value)} {ρ : Loc}
    (look : c.K.lookup a = some ⟨oc, od, .func (fnOf name qual params body scope dV kV doc pm an cdv ct), osl⟩) (hcd : codeIn c.K cdv qual = true)
    (hbind : ∀ (vals : List Value), vals.map er = vs → ∃ binds, bindArgs (fnOf name qual params body scope dV kV doc pm an cdv ct) ⟨vals, []⟩ = pure binds ∧ (binds.map erP).reverse = ρ ∧ ∀ x ∈ binds, scope.names.lookup x.1 = some .local ∨ scope.names.lookup x.1 = some .cell)
    (hsc : (decide (scope.kind = .function) && !scope.isCoroutine && !scope.isGenerator && scope.names.all (fun x => x.2 != .cell || scope.names.lookup x.1 == some .cell)) = true)
    (h : Sts c n ⟨scope, true⟩ ρ body mem (fun _ m => Q .none m) Q) : CodeCal c (n + 1) a vs mem Q := fun A s vals ro Rp hv => by
  simp only [Bool.and_eq_true, decide_eq_true_eq, Bool.not_eq_true', List.all_eq_true] at hsc
  obtain ⟨⟨⟨hk, hco⟩, hge⟩, hnc⟩ := hsc
  have hnc' : ∀ x, (x, NameKind.cell) ∈ scope.names → scope.names.lookup x = some .cell := fun x hx => by simpa using hnc _ hx
  obtain ⟨binds, hb, rfl, hl⟩ := hbind vals hv
  refine codeAny_call_cells (fd := fnOf name qual params body scope dV kV doc pm an cdv ct) (body := body) (by have := ro.2.1; show A.depth < 1000; omega) (Rp.kin _ _ look) rfl Rp.lim (codeRec_of Rp.kin hcd) rfl hb rfl
    (fun x hx => (hl x hx).imp id fun q => ⟨q, cells_has _ _ _ _ (.inr (look_mem q))⟩) (fun s₁ x => ?_) hco hge hk
  have hsz : ∀ y b, (callEnvC (fnOf name qual params body scope dV kV doc pm an cdv ct) s.heap.objs.size a).cells.lookup y = some b → s.heap.objs.size < b := fun y b hb => x.above y b (mem_of_lookup hb)
  have hmn : ∀ b, s.heap.objs.size ≤ b → mem b = none := fun b hb => by
    cases q : mem b with
    | none => rfl
    | some ao => exact absurd (Rp.lt q) (Nat.not_lt.mpr hb)
  have h0n : ∀ b, s.heap.objs.size ≤ b → c.h₀.get? b = none := fun b hb => by
    cases q : c.h₀.get? b with
    | none => rfl
    | some o => exact absurd (Heap.lt_size (Rp.stay _ _ q)) (Nat.not_lt.mpr hb)
  have Rp₁ : Rep c mem s₁.heap := Rp.keeps x.toInCall.keep
  have hcell : ∀ y, scope.names.lookup y = some .cell → ∃ b, (callEnvC (fnOf name qual params body scope dV kV doc pm an cdv ct) s.heap.objs.size a).cells.lookup y = some b := fun y hy =>
    Option.isSome_iff_exists.mp (cells_has _ _ _ _ (.inr (look_mem hy)))
  have L : LocOk c ⟨scope, true⟩ (binds.map erP).reverse mem (callEnvC (fnOf name qual params body scope dV kV doc pm an cdv ct) s.heap.objs.size a) s₁.heap := by
    refine ⟨rfl, rfl, hk, rfl, rfl, hmn _ (Nat.le_refl _), h0n _ (Nat.le_refl _), ⟨_, x.toInCall.ns, fun y v h1 h2 => ?_⟩, fun y v h1 h2 => ?_, fun y h1 => ?_, fun y z b h1 h2 h3 h4 => ?_⟩
    · rw [← List.map_reverse, lookup_erP] at h1
      rw [bindL_at _ _ _ _ h2]
      obtain ⟨u, hu, rfl⟩ := Option.map_eq_some_iff.mp h1
      rw [hu]; rfl
    · rw [← List.map_reverse, lookup_erP] at h1
      obtain ⟨u, hu, rfl⟩ := Option.map_eq_some_iff.mp h1
      obtain ⟨b, hb⟩ := hcell y h2
      refine ⟨b, u, hb, ?_, rfl⟩
      have := x.cell y b hb
      rw [bindC_at _ _ _ _ (by show scope.names.lookup y ≠ _; rw [h2]; decide), hu] at this
      exact this
    · obtain ⟨b, hb⟩ := hcell y h1
      exact ⟨b, _, hb, x.cell y b hb, hmn _ (Nat.le_of_lt (hsz y b hb)), h0n _ (Nat.le_of_lt (hsz y b hb)), Nat.ne_of_gt (hsz y b hb)⟩
    · exact name_of_addr x.apart (mem_of_lookup h3) (mem_of_lookup h4)
  have C : CellsOnly ⟨scope, true⟩ (callEnvC (fnOf name qual params body scope dV kV doc pm an cdv ct) s.heap.objs.size a) := fun y b _ hb => by
    rcases cells_in _ _ _ _ _ (mem_of_lookup hb) with q | q
    · cases q
    · exact hnc' y q
  refine wpAny_mono (h _ _ _ ro.deeper Rp₁ L C) (fun fl s' ⟨m', ρ', X, L', q⟩ => ?_) fun _ _ z => z.elim
  have N : Now c s mem s' m' := now_back X x.toInCall.keep x.toInCall.same fun b o e ho => by
    rcases ho with ho | ⟨_, y, hy⟩
    · have := Heap.lt_size e; rw [ho] at this; exact absurd this (Nat.lt_irrefl _)
    · exact absurd (Heap.lt_size e) (Nat.not_lt.mpr (Nat.le_of_lt (hsz y b hy)))
  cases fl with
  | next => exact ⟨.none, m', rfl, N, q⟩
  | ret v => exact ⟨v, m', rfl, N, q⟩
  | brk => exact q.elim
  | cont => exact q.elim
end
end Mine
end
section
-- Lay13
set_option maxRecDepth 100000
set_option autoImplicit false
set_option linter.unusedVariables false
namespace Mine
open PySem PySem.W PySem.Calls PyProof.Rows
section
variable {c : Cx} {n : Nat} {mem : Mem} {Q : Value → Mem → Prop}
theorem tc_weight (C : Addr) (rest : List Value) (kw : List (Str × Value)) : (Code.builtin "type.__call__" ⟨.ref C :: rest, kw⟩).weight ≤ 1 := by
  have : (Code.builtin "type.__call__" ⟨.ref C :: rest, kw⟩).weight = 1 := by kernel_rfl
  rw [this]; decide
theorem tc_units (args : Args) : (Code.builtin "type.__call__" args).cUnits ≤ 8 := by
  have : (Code.builtin "type.__call__" args).cUnits = 1 := by kernel_rfl
  rw [this]; decide
theorem Rep.inst {s : Shared} {C : Addr} (R : Rep c mem s.heap) : mem s.heap.objs.size = none ∧ mem (s.heap.objs.size + 1) = none ∧
    Now c s mem { s with heap := (s.heap.push emptyDict).push (instObj C s.heap.objs.size) } (upd (upd mem s.heap.objs.size (.own (s.heap.objs.size + 1))) (s.heap.objs.size + 1) (.inst C [])) := by
  have hmn : ∀ b, s.heap.objs.size ≤ b → mem b = none := fun b hb => by
    cases q : mem b with
    | none => rfl
    | some ao => exact absurd (R.lt q) (Nat.not_lt.mpr hb)
  have h0n : ∀ b, s.heap.objs.size ≤ b → c.h₀.get? b = none := fun b hb => by
    cases q : c.h₀.get? b with
    | none => rfl
    | some o => exact absurd (Heap.lt_size (R.stay _ _ q)) (Nat.not_lt.mpr hb)
  have hsn : ∀ b, s.heap.objs.size ≤ b → s.heap.get? b = none := fun b hb => by
    cases q : s.heap.get? b with
    | none => rfl
    | some o => exact absurd (Heap.lt_size q) (Nat.not_lt.mpr hb)
  have k : ∀ b o, s.heap.get? b = some o → ((s.heap.push emptyDict).push (instObj C s.heap.objs.size)).get? b = some o := fun b o e => Heap.get?_push_of_some _ (Heap.get?_push_of_some _ e)
  have hd : ((s.heap.push emptyDict).push (instObj C s.heap.objs.size)).get? s.heap.objs.size = some emptyDict := by heap_get
  have hx : ((s.heap.push emptyDict).push (instObj C s.heap.objs.size)).get? (s.heap.objs.size + 1) = some (instObj C s.heap.objs.size) := by heap_get
  refine ⟨hmn _ (Nat.le_refl _), hmn _ (Nat.le_succ _), ⟨R.base, fun b o e => k b o (R.stay b o e), fun b o e => ?_, fun b o e => ?_⟩, ⟨fun b o e _ => k b o e, fun b h1 h2 => ?_⟩, _, _, rfl⟩
  · unfold upd at e
    split at e
    · rename_i q; subst q; cases e
      refine ⟨s.heap.objs.size, [], 0, hx, ?_, hd, Nat.le_refl _, fun e he => (by cases he), fun x => rfl⟩
      rw [upd_ne (Nat.ne_of_lt (Nat.lt_succ_self _)), upd_same]
    · split at e
      · rename_i q; subst q; cases e; exact ⟨_, hd⟩
      · refine (R.at_ b o e).stays (fun o' q => k b o' q) fun d' hd' => ⟨?_, fun o' q => k d' o' q⟩
        rw [upd_ne (fun z => by rw [z, hmn _ (Nat.le_succ _)] at hd'; cases hd'), upd_ne (fun z => by rw [z, hmn _ (Nat.le_refl _)] at hd'; cases hd')]
        exact hd'
  · unfold upd at e
    split at e
    · rename_i q; subst q; exact .inr (h0n _ (Nat.le_succ _))
    · split at e
      · rename_i q; subst q; exact .inr (h0n _ (Nat.le_refl _))
      · exact R.new b o e
  · unfold upd at h2
    split at h2
    · rename_i q; subst q; exact hsn _ (Nat.le_succ _)
    · split at h2
      · rename_i q; subst q; exact hsn _ (Nat.le_refl _)
      · exact absurd h1 h2
theorem code_class {C fi : Addr} {vs : List Value} (ok : ClsOk c.K C) (hi : findIn c.K (.ref C) "__init__" = some (some (.ref fi))) (hf : typeIn c.K (.ref fi) = some (.type "function"))
    (h : ∀ a d, mem a = none → mem d = none → a ≠ d → CodeCal c n fi (.ref a :: vs) (upd (upd mem d (.own a)) a (.inst C [])) (fun v m => v = .none ∧ Q (.ref a) m)) : CodeCal c (n + 1) C vs mem Q := fun A s vals ro Rp hv => by
  obtain ⟨hh, g, d, t, os⟩ := s
  obtain ⟨h1, h2, N⟩ := Rep.inst (C := C) Rp
  refine make_core (makes_of Rp.kin ok.makes) (looks_findIn Rp.kin hi) (fun self => bind_fn Rp.kin self hf) (.inl (by
    rw [bne_iff_ne]; intro q; cases q)) ?_
  refine codeAny_mono (h (hh.objs.size + 1) hh.objs.size h2 h1 (Nat.ne_of_gt (Nat.lt_succ_self _)) _ _ (.ref (hh.objs.size + 1) :: vals) (ro.under (tc_weight _ _ _) (tc_units _)) N.rep (by rw [List.map_cons, hv]; rfl)) fun r s' ⟨v, m', e, N', q1, q2⟩ => ?_
  subst e
  exact ⟨er_none q1, _, _, rfl, N.trans N', q2⟩
-- methods
theorem meth_own {a C f : Addr} {fs : List (Str × Value)} {name : Str} (ok : ClsOk c.K C) (e : mem a = some (.inst C fs)) (hf : findIn c.K (.ref C) name = some (some (.ref f))) (ht : typeIn c.K (.ref f) = some (.type "function"))
    (hn : fs.lookup name = none) : Meth c (.ref a) name mem (.ref f) := fun ov' s A pl P E he Rp h => by
  obtain rfl := er_ref he
  obtain ⟨d, es, k, I, h1, h2, h3, h4, h5, h6⟩ := inst_at Rp e
  refine method_fn Rp.kin I (plainGet_of (name := name) ok.get).1 (plainGet_of (name := name) ok.get).2 hf ht ?_ h
  have q1 : ((es.find? fun e => e.key.isStr name).map fun e => er e.val) = none := by rw [h6]; exact hn
  have q2 : es.find? (fun e => e.key.isStr name) = none := Option.map_eq_none_iff.mp q1
  show (lookIn name (dictOf es k)).map (·.isSome) = some false
  rw [lookIn_dict, getL_of h5, q2]; rfl
theorem callee_K {f : Addr} (hk : keepIn c.K (.ref f) = true) : Callee c (.ref f) := fun f' hf h X => by
  obtain rfl := er_ref hf
  exact keeps_K hk h X
theorem callee_builtin {id : String} : Callee c (.builtin id) := fun f' hf h X => by
  obtain rfl := er_builtin hf
  exact ⟨.machine, .inr (.inl rfl), Looks.of_pure rfl⟩
theorem callee_type {id : String} : Callee c (.type id) := fun f' hf h X => by
  obtain rfl := er_type hf
  exact ⟨.machine, .inr (.inl rfl), Looks.of_pure rfl⟩
end
end Mine
end
section
-- Lay14
set_option maxRecDepth 100000
set_option autoImplicit false
set_option linter.unusedVariables false
namespace Mine
open PySem PySem.W PySem.Calls PyProof.Rows
noncomputable def sL (xs : List Str) : List Value := xs.map fun x => .str x 0
noncomputable def iL (xs : List Int) : List Value := xs.map fun x => .int x 0
theorem strsAre_er : ∀ {vs : List Value} {xs : List Str}, vs.map er = sL xs → StrsAre vs xs
  | [], [], _ => .nil
  | [], _ :: _, h => by cases h
  | _ :: _, [], h => by cases h
  | v :: vs, x :: xs, h => by
    obtain ⟨h1, h2⟩ := List.cons.inj h
    obtain ⟨t, rfl⟩ := er_str h1
    exact .cons x t (strsAre_er h2)
theorem er_strsAre : ∀ {vs : List Value} {xs : List Str}, StrsAre vs xs → vs.map er = sL xs
  | _, _, .nil => rfl
  | _, _, .cons x t h => by
    show er (.str x t) :: _ = .str x 0 :: _
    rw [er_strsAre h]; rfl
theorem intsAre_er : ∀ {vs : List Value} {xs : List Int}, vs.map er = iL xs → IntsAre vs xs
  | [], [], _ => .nil
  | [], _ :: _, h => by cases h
  | _ :: _, [], h => by cases h
  | v :: vs, x :: xs, h => by
    obtain ⟨h1, h2⟩ := List.cons.inj h
    obtain ⟨t, rfl⟩ := er_int h1
    exact .cons x t (intsAre_er h2)
theorem er_intsAre : ∀ {vs : List Value} {xs : List Int}, IntsAre vs xs → vs.map er = iL xs
  | _, _, .nil => rfl
  | _, _, .cons x t h => by
    show er (.int x t) :: _ = .int x 0 :: _
    rw [er_intsAre h]; rfl
section
variable {c : Cx} {n : Nat} {mem : Mem} {Q : Value → Mem → Prop}
-- texts
theorem cmp_eqS {x y : Str} (h : Q (.bool (x == y)) mem) : Cmp c n .Eq (.str x 0) (.str y 0) mem Q := fun a b ha hb A s r R => by
  obtain ⟨t, rfl⟩ := er_str ha; obtain ⟨u, rfl⟩ := er_str hb
  exact PyProof.Rows.eq_str ⟨mem, Now.refl R, h⟩
theorem cmp_neS {x y : Str} (h : Q (.bool (x != y)) mem) : Cmp c n .NotEq (.str x 0) (.str y 0) mem Q := fun a b ha hb A s r R => by
  obtain ⟨t, rfl⟩ := er_str ha; obtain ⟨u, rfl⟩ := er_str hb
  exact PyProof.Rows.ne_str ⟨mem, Now.refl R, h⟩
theorem cal_strInt {i : Int} (hi : i.natAbs.log2 < 1920) (h : Q (.str (Str.ofString (toString i)) 0) mem) : Cal c n (.type "str") [.int i 0] mem Q := fun f' vs' hf hv A s r R => by
  obtain rfl := er_type hf
  obtain ⟨v, rfl, hw⟩ := er_one hv
  obtain ⟨t, rfl⟩ := er_int hw
  exact PySem.P.str_of_int hi ⟨mem, Now.toks R, h⟩
theorem cal_intInt {i : Int} (h : Q (.int i 0) mem) : Cal c n (.type "int") [.int i 0] mem Q := fun f' vs' hf hv A s r R => by
  obtain rfl := er_type hf
  obtain ⟨v, rfl, hw⟩ := er_one hv
  obtain ⟨t, rfl⟩ := er_int hw
  exact PySem.call_int_int ⟨mem, Now.refl R, h⟩
theorem cal_intBool {b : Bool} (h : Q (.int (if b then 1 else 0) 0) mem) : Cal c n (.type "int") [.bool b] mem Q := fun f' vs' hf hv A s r R => by
  obtain rfl := er_type hf
  obtain ⟨v, rfl, hw⟩ := er_one hv
  obtain rfl := er_bool hw
  exact PySem.call_int_bool ⟨mem, Now.toks R, h⟩
theorem cal_max {i j : Int} (h : Q (.int (max i j) 0) mem) : Cal c n (.builtin "max") [.int i 0, .int j 0] mem Q := fun f' vs' hf hv A s r R => by
  obtain rfl := er_builtin hf
  obtain ⟨v, u, rfl, hw1, hw2⟩ := er_two hv
  obtain ⟨t, rfl⟩ := er_int hw1; obtain ⟨t', rfl⟩ := er_int hw2
  refine PySem.Flt.max_two_num r.1 (.int _ _) (.int _ _) fun h' tk hk => ⟨mem, ⟨R.keeps hk, .keeps fun a o e _ => hk a o e, _, _, rfl⟩, ?_⟩
  have e : er (if PySem.Flt.ltV (.int i t) (.int j t') = true then .int j t' else .int i t) = .int (max i j) 0 := by
    show er (if decide (i < j) = true then _ else _) = _
    by_cases q : i < j
    · rw [if_pos (decide_eq_true q)]; show Value.int j 0 = _; congr 1; omega
    · rw [if_neg (by simpa using q)]; show Value.int i 0 = _; congr 1; omega
  show Q (er _) mem; rw [e]; exact h
theorem cal_min {i j : Int} (h : Q (.int (min i j) 0) mem) : Cal c n (.builtin "min") [.int i 0, .int j 0] mem Q := fun f' vs' hf hv A s r R => by
  obtain rfl := er_builtin hf
  obtain ⟨v, u, rfl, hw1, hw2⟩ := er_two hv
  obtain ⟨t, rfl⟩ := er_int hw1; obtain ⟨t', rfl⟩ := er_int hw2
  refine PySem.Flt.min_two_num r.1 (.int _ _) (.int _ _) fun h' tk hk => ⟨mem, ⟨R.keeps hk, .keeps fun a o e _ => hk a o e, _, _, rfl⟩, ?_⟩
  have e : er (if PySem.Flt.ltV (.int j t') (.int i t) = true then .int j t' else .int i t) = .int (min i j) 0 := by
    show er (if decide (j < i) = true then _ else _) = _
    by_cases q : j < i
    · rw [if_pos (decide_eq_true q)]; show Value.int j 0 = _; congr 1; omega
    · rw [if_neg (by simpa using q)]; show Value.int i 0 = _; congr 1; omega
  show Q (er _) mem; rw [e]; exact h
theorem Now.madeAt {s : Shared} {o : Obj} {ao : AO} {tk : Nat} (R : Rep c mem s.heap) (hf : o.isFreed = false) (hi : ∀ m h', h'.get? s.heap.objs.size = some o → Is c m h' s.heap.objs.size ao) :
    Now c s mem { s with heap := s.heap.push o, toks := tk } (upd mem s.heap.objs.size ao) := by
  have := (Now.toks (tk := tk) R).made hf hi
  exact this
theorem cal_range1 {b : Int} (h : ∀ a, mem a = none → Q (.ref a) (upd mem a (.rng 0 b))) : Cal c n (.type "range") [.int b 0] mem Q := fun f' vs' hf hv A s r R => by
  obtain rfl := er_type hf
  obtain ⟨v, rfl, hw⟩ := er_one hv
  obtain ⟨t, rfl⟩ := er_int hw
  exact PySem.call_range_1 ⟨_, Now.madeAt (ao := .rng 0 b) R rfl (fun m h' e => ⟨_, _, _, e⟩), h _ R.free⟩
theorem cal_range2 {a b : Int} (h : ∀ x, mem x = none → Q (.ref x) (upd mem x (.rng a b))) : Cal c n (.type "range") [.int a 0, .int b 0] mem Q := fun f' vs' hf hv A s r R => by
  obtain rfl := er_type hf
  obtain ⟨v, u, rfl, hw, hw'⟩ := er_two hv
  obtain ⟨t, rfl⟩ := er_int hw; obtain ⟨t', rfl⟩ := er_int hw'
  exact PySem.call_range_2 ⟨_, Now.madeAt (ao := .rng a b) R rfl (fun m h' e => ⟨_, _, _, e⟩), h _ R.free⟩
-- identity
theorem cmp_isSame {a : Addr} (h : Q (.bool true) mem) : Cmp c n .Is (.ref a) (.ref a) mem Q := fun x y hx hy A s r R => by
  obtain rfl := er_ref hx; obtain rfl := er_ref hy
  exact wpAny_is_ref_self ⟨mem, Now.refl R, h⟩
theorem cmp_isntSame {a : Addr} (h : Q (.bool false) mem) : Cmp c n .IsNot (.ref a) (.ref a) mem Q := fun x y hx hy A s r R => by
  obtain rfl := er_ref hx; obtain rfl := er_ref hy
  exact wpAny_isNot_ref_self ⟨mem, Now.refl R, h⟩
theorem inst_notTup {h : Heap} {a C : Addr} {fs : List (Str × Value)} (R : Rep c mem h) (e : mem a = some (.inst C fs)) : ∃ o, h.get? a = some o ∧ o.cls ≠ .type "tuple" := by
  obtain ⟨d, es, k, h1, _⟩ := R.at_ a _ e
  exact ⟨_, h1, fun q => by cases q⟩
theorem cmp_is {a b C : Addr} {fs : List (Str × Value)} {bo : AO} (ea : mem a = some (.inst C fs)) (eb : mem b = some bo) (h : Q (.bool (decide (a = b))) mem) : Cmp c n .Is (.ref a) (.ref b) mem Q := by
  by_cases q : a = b
  · subst q; exact cmp_isSame (by simpa using h)
  · intro x y hx hy A s r R
    obtain rfl := er_ref hx; obtain rfl := er_ref hy
    obtain ⟨o, h1, h2⟩ := inst_notTup R ea
    obtain ⟨o', h3⟩ := (R.at_ b _ eb).get
    exact wpAny_is_ref_other q h1 h3 h2 ⟨mem, Now.refl R, by show Q (.bool false) mem; rw [decide_eq_false q] at h; exact h⟩
theorem cmp_isnt {a b C : Addr} {fs : List (Str × Value)} {bo : AO} (ea : mem a = some (.inst C fs)) (eb : mem b = some bo) (h : Q (.bool (decide (a ≠ b))) mem) : Cmp c n .IsNot (.ref a) (.ref b) mem Q := by
  by_cases q : a = b
  · subst q; exact cmp_isntSame (by simpa using h)
  · intro x y hx hy A s r R
    obtain rfl := er_ref hx; obtain rfl := er_ref hy
    obtain ⟨o, h1, h2⟩ := inst_notTup R ea
    obtain ⟨o', h3⟩ := (R.at_ b _ eb).get
    exact wpAny_isNot_ref_other q h1 h3 h2 ⟨mem, Now.refl R, by show Q (.bool true) mem; rw [decide_eq_true q] at h; exact h⟩
theorem cmp_isntNone {v : Value} (hv : v = .none ∨ ∃ a, v = .ref a) (h : Q (.bool (v != .none)) mem) : Cmp c n .IsNot v .none mem Q := fun x y hx hy A s r R => by
  obtain rfl := er_none hy
  rcases hv with rfl | ⟨a, rfl⟩
  · obtain rfl := er_none hx
    exact wpAny_isNot_plain rfl ⟨mem, Now.refl R, h⟩
  · obtain rfl := er_ref hx
    exact wpAny_isNot_plain rfl ⟨mem, Now.refl R, h⟩
-- lists
theorem bin_addL {a b : Addr} {vs ws : List Value} (ea : mem a = some (.list vs)) (eb : mem b = some (.list ws)) (hl : vs.length + ws.length ≤ 16777216) (h : ∀ x, mem x = none → Q (.ref x) (upd mem x (.list (vs ++ ws)))) : Bin c n .Add (.ref a) (.ref b) mem Q := fun x y hx hy A s r R => by
  obtain rfl := er_ref hx; obtain rfl := er_ref hy
  obtain ⟨us, k, h1, rfl⟩ := list_get R ea
  obtain ⟨us', k', h2, rfl⟩ := list_get R eb
  rw [List.length_map, List.length_map] at hl
  exact PySem.P.add_list h1 h2 ⟨_, Now.madeAt (ao := .list (us.map er ++ us'.map er)) R rfl (fun m h' e => ⟨_, _, e, by simp⟩), h _ R.free⟩ (hsz := by rw [sizeLine_eq, List.size_toArray, List.size_toArray]; exact hl)
theorem cmp_inL {a : Addr} {xs : List Str} {k : Str} (e : LstAt mem a (sL xs)) (h : Q (.bool (decide (k ∈ xs))) mem) : Cmp c n .In (.str k 0) (.ref a) mem Q := fun x y hx hy A s r R => by
  obtain ⟨t, rfl⟩ := er_str hx; obtain rfl := er_ref hy
  obtain ⟨us, h1, h2⟩ := e.get R
  have hS := strsAre_er h2
  refine PySem.SeqAt.in_listAt (isStrOf k) h1 (fun y hy => ?_) ⟨mem, Now.refl R, ?_⟩
  · exact (eq_isStrOf k t hS y (by simpa using hy)).at _ _
  · have : us.toArray.any (isStrOf k) = decide (k ∈ xs) := by
      rw [List.any_toArray, any_isStrOf k hS, Bool.eq_iff_iff]; simp
    show Q (er (.bool _)) mem
    rw [this]; exact h
theorem cmp_notInL {a : Addr} {xs : List Str} {k : Str} (e : LstAt mem a (sL xs)) (h : Q (.bool (decide (k ∉ xs))) mem) : Cmp c n .NotIn (.str k 0) (.ref a) mem Q := fun x y hx hy A s r R => by
  obtain ⟨t, rfl⟩ := er_str hx; obtain rfl := er_ref hy
  obtain ⟨us, h1, h2⟩ := e.get R
  have hS := strsAre_er h2
  refine PySem.SeqAt.notIn_listAt (isStrOf k) h1 (fun y hy => ?_) ⟨mem, Now.refl R, ?_⟩
  · exact (eq_isStrOf k t hS y (by simpa using hy)).at _ _
  · have : (!us.toArray.any (isStrOf k)) = decide (k ∉ xs) := by
      rw [List.any_toArray, any_isStrOf k hS, Bool.eq_iff_iff]; simp
      exact ⟨fun q m => q k m rfl, fun q x m e => q (e ▸ m)⟩
    show Q (er (.bool _)) mem
    rw [this]; exact h
end
end Mine
end
section
-- Lay15
set_option maxRecDepth 100000
set_option autoImplicit false
set_option linter.unusedVariables false
namespace Mine
open PySem PySem.W PySem.Calls PyProof.Rows
section
variable {c : Cx} {n : Nat} {mem : Mem} {Q : Value → Mem → Prop}
-- methods of lists and dicts
theorem meth_append {a : Addr} {vs : List Value} (e : mem a = some (.list vs)) : Meth c (.ref a) "append" mem (.builtin "list.append") := fun ov' s A pl P E he R h => by
  obtain rfl := er_ref he
  obtain ⟨us, k, h1, _⟩ := list_get R e
  exact getMethod_builtin ⟨_, h1, rfl⟩ PySem.F.plainAttrs_list PySem.F.slot_list_append (by rfl) (fun b hb => by cases hb; exact ⟨_, h1, rfl⟩) h
theorem meth_pop {a : Addr} {vs : List Value} (e : mem a = some (.list vs)) : Meth c (.ref a) "pop" mem (.builtin "list.pop") := fun ov' s A pl P E he R h => by
  obtain rfl := er_ref he
  obtain ⟨us, k, h1, _⟩ := list_get R e
  exact getMethod_builtin ⟨_, h1, rfl⟩ PySem.F.plainAttrs_list PySem.F.slot_list_pop (by rfl) (fun b hb => by cases hb; exact ⟨_, h1, rfl⟩) h
theorem meth_get {a : Addr} {kvs : List (Str × Value)} (e : mem a = some (.dict kvs)) : Meth c (.ref a) "get" mem (.builtin "dict.get") := fun ov' s A pl P E he R h => by
  obtain rfl := er_ref he
  obtain ⟨kus, hd, _⟩ := dict_get R e
  refine getMethod_builtin hd.typeIs PySem.F.plainAttrs_dict PySem.F.slot_dict_get (by rfl) (fun b hb => ?_) h
  cases hb
  obtain ⟨o, es, ep, ho, hc, _⟩ := hd
  exact ⟨o, ho, hc.2.1⟩
-- isinstance
theorem cal_isinst {a C D : Addr} {fs : List (Str × Value)} {b : Bool} (ok : ClsOk c.K C) (e : mem a = some (.inst C fs)) (hb : kitOne c.K (.ref C) (.ref D) = some b) (h : Q (.bool b) mem) : Cal c n (.builtin "isinstance") [.ref a, .ref D] mem Q := fun f' vs' hf hv A s r R => by
  obtain rfl := er_builtin hf
  obtain ⟨v, u, rfl, hw1, hw2⟩ := er_two hv
  obtain rfl := er_ref hw1; obtain rfl := er_ref hw2
  obtain ⟨d, es, k, I, _⟩ := inst_at R e
  exact kia_one (kitx_own ok.get ok.dict ok.cls ok.gs ok.tk ok.obj) R.kin I hb (fun q => by cases q) fun tk => ⟨mem, Now.toks R, h⟩
theorem cal_isinstT {a t C D D' : Addr} {fs : List (Str × Value)} {b : Bool} (ok : ClsOk c.K C) (e : mem a = some (.inst C fs)) (et : mem t = some (.tup [.ref D, .ref D'])) (hb : kitAny c.K (.ref C) [.ref D, .ref D'] = some b) (h : Q (.bool b) mem) : Cal c n (.builtin "isinstance") [.ref a, .ref t] mem Q := fun f' vs' hf hv A s r R => by
  obtain rfl := er_builtin hf
  obtain ⟨v, u, rfl, hw1, hw2⟩ := er_two hv
  obtain rfl := er_ref hw1; obtain rfl := er_ref hw2
  obtain ⟨d, es, k, I, _⟩ := inst_at R e
  obtain ⟨us, m, h1, h2⟩ := R.at_ t _ et
  obtain ⟨x, y, hxy, hx, hy⟩ := er_two h2
  obtain rfl := er_ref hx; obtain rfl := er_ref hy
  have h1' : s.heap.get? t = some ⟨.type "tuple", none, .seq [Value.ref D, Value.ref D'].toArray m, #[]⟩ := by rw [← hxy, Array.toArray_toList]; exact h1
  exact kia_tup (kitx_own ok.get ok.dict ok.cls ok.gs ok.tk ok.obj) R.kin I h1' hb (fun q => by cases q) fun tk => ⟨mem, Now.toks R, h⟩
theorem cal_isinstN {D : Addr} {b : Bool} (hb : kitOne c.K (.type "NoneType") (.ref D) = some b) (h : Q (.bool b) mem) : Cal c n (.builtin "isinstance") [.none, .ref D] mem Q := fun f' vs' hf hv A s r R => by
  obtain rfl := er_builtin hf
  obtain ⟨v, u, rfl, hw1, hw2⟩ := er_two hv
  obtain rfl := er_none hw1; obtain rfl := er_ref hw2
  exact kia_one kitx_none R.kin trivial hb (fun q => by cases q) fun tk => ⟨mem, Now.toks R, h⟩
-- lists side by side
theorem cmp_eqNil {a b : Addr} {vs : List Value} (ea : LstAt mem a vs) (eb : LstAt mem b []) (h : Q (.bool vs.isEmpty) mem) : Cmp c n .Eq (.ref a) (.ref b) mem Q := fun x y hx hy A s r R => by
  obtain rfl := er_ref hx; obtain rfl := er_ref hy
  obtain ⟨us, h1, rfl⟩ := ea.get R
  obtain ⟨us', h2, h3⟩ := eb.get R
  obtain rfl : us' = [] := by simpa using h3
  have hu : A.units < cLine := by have := r.2.2; show A.units < 9900; omega
  cases us with
  | nil => exact SeqAt.eq_listAt (e := fun _ => true) h1 h2 rfl hu (fun j h1 _ => absurd h1 (Nat.not_lt_zero _)) ⟨mem, Now.refl R, h⟩
  | cons u r' => exact SeqAt.eq_list_lengthsAt h1 h2 (by simp) hu ⟨mem, Now.refl R, h⟩
theorem cmp_neNil {a b : Addr} {vs : List Value} (ea : LstAt mem a vs) (eb : LstAt mem b []) (h : Q (.bool (!vs.isEmpty)) mem) : Cmp c n .NotEq (.ref a) (.ref b) mem Q := fun x y hx hy A s r R => by
  obtain rfl := er_ref hx; obtain rfl := er_ref hy
  obtain ⟨us, h1, rfl⟩ := ea.get R
  obtain ⟨us', h2, h3⟩ := eb.get R
  obtain rfl : us' = [] := by simpa using h3
  have hu : A.units < cLine := by have := r.2.2; show A.units < 9900; omega
  cases us with
  | nil => exact SeqAt.RcNeAt.lists (e := fun _ => true) h1 h2 rfl hu (fun j h1 _ => absurd h1 (Nat.not_lt_zero _)) _ _ _ _ ⟨mem, Now.refl R, h⟩
  | cons u r' => exact SeqAt.RcNeAt.lists_lengths h1 h2 (by simp) hu _ _ _ _ ⟨mem, Now.refl R, h⟩
theorem range_all {n : Nat} {e : Nat → Bool} (h : ∀ j, j < n → e j = true) : (List.range n).all e = true := by
  rw [List.all_eq_true]; intro j hj; exact h j (List.mem_range.mp hj)
/-- two lists of the same texts -/
theorem cmp_neSame {a b : Addr} {xs : List Str} (ea : LstAt mem a (sL xs)) (eb : LstAt mem b (sL xs)) (h : Q (.bool false) mem) : Cmp c n .NotEq (.ref a) (.ref b) mem Q := fun x y hx hy A s r R => by
  obtain rfl := er_ref hx; obtain rfl := er_ref hy
  obtain ⟨us, h1, h1'⟩ := ea.get R
  obtain ⟨us', h2, h2'⟩ := eb.get R
  have hu : A.units < cLine := by have := r.2.2; show A.units < 9900; omega
  have hl : us.length = xs.length := by have := congrArg List.length h1'; simpa [sL] using this
  have hl' : us'.length = xs.length := by have := congrArg List.length h2'; simpa [sL] using this
  refine SeqAt.RcNeAt.lists (e := fun _ => true) h1 h2 (by simp [hl, hl']) hu (fun j q1 q2 => ?_) _ _ _ _ ⟨mem, Now.refl R, by rw [range_all fun _ _ => rfl]; exact h⟩
  have q1' : j < us.length := by simpa using q1
  have q2' : j < us'.length := by simpa using q2
  have e1 : (us.map er)[j]? = (sL xs)[j]? := by rw [h1']
  have e2 : (us'.map er)[j]? = (sL xs)[j]? := by rw [h2']
  have hj : j < xs.length := by omega
  simp only [sL, List.getElem?_map, List.getElem?_eq_getElem q1', List.getElem?_eq_getElem q2', List.getElem?_eq_getElem hj, Option.map_some, Option.some.injEq] at e1 e2
  obtain ⟨t, e3⟩ := er_str e1
  obtain ⟨t', e4⟩ := er_str e2
  simp only [List.getElem_toArray]
  rw [e3, e4]
  have := (eqGives_str xs[j] xs[j] t t').at A.in1 s
  rw [beq_self_eq_true] at this
  exact this
end
end Mine
end
section
-- Lay16
set_option maxRecDepth 100000
set_option autoImplicit false
set_option linter.unusedVariables false
namespace Mine
open PySem PySem.W PySem.Calls PyProof.Rows
section
variable {c : Cx} {n : Nat} {mem : Mem} {Q : Value → Mem → Prop}
theorem Now.added {s : Shared} {h' : Heap} {tk : Nat} {a : Addr} {ao : AO} (R : Rep c mem s.heap) (hk : ∀ b o, s.heap.get? b = some o → h'.get? b = some o) (hs : s.heap.get? a = none) (hi : ∀ m, Is c m h' a ao) :
    mem a = none ∧ Now c s mem { s with heap := h', toks := tk } (upd mem a ao) := by
  have hm : mem a = none := by
    cases q : mem a with
    | none => rfl
    | some o => obtain ⟨o', e⟩ := (R.at_ a o q).get; rw [hs] at e; cases e
  have h0 : c.h₀.get? a = none := by
    cases q : c.h₀.get? a with
    | none => rfl
    | some o => rw [R.stay _ _ q] at hs; cases hs
  refine ⟨hm, ⟨R.base, fun b o e => hk b o (R.stay b o e), fun b o e => ?_, fun b o e => ?_⟩, ⟨fun b o e _ => hk b o e, fun b h1 h2 => ?_⟩, _, _, rfl⟩
  · unfold upd at e
    split at e
    · rename_i q; subst q; cases e; exact hi _
    · refine (R.at_ b o e).stays (fun o' q => hk b o' q) fun d hd => ⟨?_, fun o' q => hk d o' q⟩
      rw [upd_ne (fun z => by rw [z, hm] at hd; cases hd)]; exact hd
  · unfold upd at e
    split at e
    · rename_i q; subst q; exact .inr h0
    · exact R.new b o e
  · unfold upd at h2
    split at h2
    · rename_i q; subst q; exact hs
    · exact absurd h1 h2
theorem past (h : Heap) {a : Addr} (ha : h.objs.size ≤ a) : h.get? a = none := by
  cases q : h.get? a with
  | none => rfl
  | some o => exact absurd (Heap.lt_size q) (Nat.not_lt.mpr ha)
theorem cal_sortedI {a : Addr} {xs : List Int} (e : LstAt mem a (iL xs)) (hl : xs.length < 64) (h : ∀ x ys, mem x = none → ys.Perm xs → ys.Pairwise (· ≤ ·) → Q (.ref x) (upd mem x (.list (iL ys)))) :
    Cal c n (.builtin "sorted") [.ref a] mem Q := fun f' vs' hf hv A s r R => by
  obtain rfl := er_builtin hf
  obtain ⟨v, rfl, hw⟩ := er_one hv
  obtain rfl := er_ref hw
  obtain ⟨us, h1, h2⟩ := e.get R
  have hI := intsAre_er h2
  have hlen : us.length = xs.length := by have := congrArg List.length h2; simpa [iL] using this
  refine sorted_ints h1 hI (by omega) fun out ys q1 q2 q3 => ?_
  obtain ⟨k, hk⟩ := sortedAll_at s.heap us out
  obtain ⟨hm, N⟩ := Now.added (tk := s.toks) (a := s.heap.objs.size + 1) (ao := .list (iL ys)) R (fun b o => sortedAll_old) (past _ (Nat.le_succ _)) (fun m => ⟨_, _, hk, er_intsAre q1⟩)
  exact ⟨_, N, h _ ys hm q2 q3⟩
theorem cal_sortedS {a : Addr} {xs : List Str} (e : LstAt mem a (sL xs)) (hl : xs.length < 64) (h : ∀ x ys, mem x = none → ys.Perm xs → sortedS ys = true → Q (.ref x) (upd mem x (.list (sL ys)))) :
    Cal c n (.builtin "sorted") [.ref a] mem Q := fun f' vs' hf hv A s r R => by
  obtain rfl := er_builtin hf
  obtain ⟨v, rfl, hw⟩ := er_one hv
  obtain rfl := er_ref hw
  obtain ⟨us, h1, h2⟩ := e.get R
  have hI := strsAre_er h2
  have hlen : us.length = xs.length := by have := congrArg List.length h2; simpa [sL] using this
  refine sorted_strs h1 hI (by omega) fun out ys q1 q2 q3 => ?_
  obtain ⟨k, hk⟩ := sortedAll_at s.heap us out
  obtain ⟨hm, N⟩ := Now.added (tk := s.toks) (a := s.heap.objs.size + 1) (ao := .list (sL ys)) R (fun b o => sortedAll_old) (past _ (Nat.le_succ _)) (fun m => ⟨_, _, hk, er_strsAre q1⟩)
  exact ⟨_, N, h _ ys hm q2 q3⟩
theorem keys_strs {kus : List (Str × Value)} {vs : List Value} (hl : vs.length = kus.length) (h : ∀ (j : Nat) (v : Value), vs[j]? = some v → ∃ k x, kus[j]? = some (k, x) ∧ c.kd.is k v = true) : StrsAre vs (kus.map (·.1)) := by
  induction vs generalizing kus with
  | nil => cases kus with | nil => exact .nil | cons _ _ => cases hl
  | cons v vs ih =>
    cases kus with
    | nil => cases hl
    | cons p r =>
      obtain ⟨k, x, e, hk⟩ := h 0 v rfl
      cases e
      obtain ⟨t, rfl⟩ : ∃ t, v = .str k t := by
        cases v with
        | str y t =>
          have : (y == k) = true := hk
          exact ⟨t, by rw [beq_iff_eq.mp this]⟩
        | _ => cases hk
      exact .cons _ _ (ih (by simpa using hl) fun j v e => h (j + 1) v e)
theorem sort_at {A : Around} {s : Shared} {a : Addr} {vs : List Value} {ss : List Str} {k : Nat} {P : Value → Shared → Prop} {E : Value → Shared → Prop} (ho : s.heap.get? a = some (seqObj "list" vs.toArray k)) (hS : StrsAre vs ss) (h64 : vs.length < 64)
    (h : ∀ (out : Array Value) (ys : List Str), StrsAre out.toList ys → ys.Perm ss → sortedS ys = true → P .none { s with heap := sortedHeap s.heap a vs out }) : wpAny c.M A (call (.builtin "list.sort") [.ref a]) P E s := by
  refine wpAny_call_entry slot_list_sort ⟨_, ho, rfl⟩ entry_list_sort (list_sort_treeK strKind_oneLt ho hS.keysOf (fun v₁ v₂ rest e => keyKind_strs (by rw [← e]; exact hS)) h64 fun st' hp hs => ⟨_, rfl, ?_⟩) (args_list_sort _)
  obtain ⟨ys, q1, q2, q3⟩ := sorted_out_str hS hp hs
  exact h _ ys q1 q2 q3
theorem cal_sortedD {a : Addr} {kvs : List (Str × Value)} (e : mem a = some (.dict kvs)) (hl : kvs.length < 64) (h : ∀ x ys, mem x = none → ys.Perm (kvs.map (·.1)) → sortedS ys = true → Q (.ref x) (upd mem x (.list (sL ys)))) :
    Cal c n (.builtin "sorted") [.ref a] mem Q := fun f' vs' hf hv A s r R => by
  obtain rfl := er_builtin hf
  obtain ⟨v, rfl, hw⟩ := er_one hv
  obtain rfl := er_ref hw
  obtain ⟨kus, hd, rfl⟩ := dict_get R e
  rw [List.length_map] at hl
  obtain ⟨ep, hat⟩ := hd.dictAt
  refine Calls.call_function_entry kind_sorted plain_sorted entry_sorted (args_sorted1 _) ?_
  unfold Builtin.«sorted»
  refine wpAny_bind (m := checkCount "sorted" 1 1 _) (wpAny_pure ?_)
  refine wpAny_bind (kdu_collect (A := A.in1) (kdl_dict (knd := c.kd) (kvs := kus) (ep := ep) (dict_sys R e)) r.1 hat (by rw [sizeLine_eq]; omega) fun h₁ tk acc hk hacc => ?_)
  have hlen : acc.toList.length = kus.length := by rw [Array.length_toList]; exact hacc.1
  refine wpAny_bind (wpAny_newList ?_ (by rw [hlen, sizeLine_eq]; omega))
  have hS : StrsAre acc.toList (kus.map (·.1)) := keys_strs hlen fun j v e => hacc.2 j v (by rw [← Array.getElem?_toList]; exact e)
  have ho : (h₁.push { cls := .type "list", data := .seq acc.toList.toArray }).get? h₁.objs.size = some (seqObj "list" acc.toList.toArray 0) := Heap.get?_push_size _ rfl
  refine wpAny_bind (wpAny_holding (sort_at (s := { s with heap := h₁.push { cls := .type "list", data := .seq acc.toList.toArray }, toks := tk }) ho hS (by omega) fun out ys q1 q2 q3 => ?_))
  obtain ⟨k, hk'⟩ := sortedHeap_at (out := out) ho
  have hsn : s.heap.get? h₁.objs.size = none := by
    cases q : s.heap.get? h₁.objs.size with
    | none => rfl
    | some o => exact absurd (Heap.lt_size (hk _ _ q)) (Nat.lt_irrefl _)
  have hold : ∀ b o, s.heap.get? b = some o → (sortedHeap (h₁.push { cls := .type "list", data := .seq acc.toList.toArray }) h₁.objs.size acc.toList out).get? b = some o := fun b o e' => by
    have := hk b o e'
    rw [sortedHeap_old (Nat.ne_of_lt (Heap.lt_size this)) (by rw [Heap.size_push]; exact Nat.lt_succ_of_lt (Heap.lt_size this))]
    exact Heap.get?_push_of_some _ this
  obtain ⟨hm, N⟩ := Now.added (tk := tk) (a := h₁.objs.size) (ao := .list (sL ys)) R hold hsn (fun m => ⟨_, _, hk', er_strsAre q1⟩)
  exact wpAny_pure ⟨_, rfl, _, N, h _ ys hm (by rw [List.map_map]; exact q2) q3⟩
end
end Mine
end
section
-- Lay17
set_option maxRecDepth 100000
set_option autoImplicit false
set_option linter.unusedVariables false
namespace Mine
open PySem PySem.W PySem.Calls PyProof.Rows
noncomputable def sumI : List Int → Int
  | [] => 0
  | x :: r => x + sumI r
theorem sumI_append (xs ys : List Int) : sumI (xs ++ ys) = sumI xs + sumI ys := by
  induction xs with
  | nil => simp [sumI]
  | cons x r ih => simp [sumI, ih]; omega
theorem preSum_take (ns : List Int) : ∀ k, k ≤ ns.length → preSum (fun i => (ns[i]?).getD 0) k = sumI (ns.take k)
  | 0, _ => by simp [preSum, sumI]
  | k + 1, h => by
    have hk : k < ns.length := h
    rw [preSum, preSum_take ns k (by omega), List.take_add_one, sumI_append, List.getElem?_eq_getElem hk]
    simp [sumI]
section
variable {c : Cx} {n : Nat} {mem : Mem} {Q : Value → Mem → Prop}
theorem new_iter {s : Shared} {a : Addr} {xs : Array Value} (h1 : s.heap.IsList a xs) : a < s.heap.objs.size := by obtain ⟨o, ho, _⟩ := h1; exact Heap.lt_size ho
theorem cal_sum {a : Addr} {ns : List Int} (e : LstAt mem a (iL ns)) (h : Q (.int (sumI ns) 0) mem) : Cal c n (.builtin "sum") [.ref a] mem Q := fun f' vs' hf hv A s r R => by
  obtain rfl := er_builtin hf
  obtain ⟨v, rfl, hw⟩ := er_one hv
  obtain rfl := er_ref hw
  obtain ⟨us, h1, h2⟩ := e.get R
  have hlen : us.length = ns.length := by have := congrArg List.length h2; simpa [iL] using this
  have hlt := new_iter h1
  refine call_sum_walkG (wpAny_pyIter_list h1 ?_)
  refine ⟨s.heap.objs.size, _, _, _, _, _, fun i => (ns[i]?).getD 0, rfl, Walks.list (A := A.in1) r.1 s.heap.objs.size a (Nat.ne_of_lt hlt) us.toArray, ⟨⟨_, Heap.get?_push_size _ rfl, rfl, rfl⟩, h1.push _⟩, fun b hb => ?_, fun i v hv' => ?_, fun h' tk t' hk => ?_⟩
  · have : b = s.heap.objs.size ∨ b = a := by simpa using hb
    rw [Heap.size_push]
    rcases this with rfl | rfl
    · exact Nat.lt_succ_self _
    · exact Nat.lt_succ_of_lt hlt
  · have q : (us.map er)[i]? = (iL ns)[i]? := by rw [h2]
    have hv'' : us[i]? = some v := by simpa using hv'
    rw [List.getElem?_map, hv''] at q
    simp only [iL, List.getElem?_map, Option.map_some] at q
    cases q' : ns[i]? with
    | none => rw [q'] at q; cases q
    | some z =>
      rw [q'] at q
      dsimp only; rw [q']; exact er_int (by simpa using q)
  · have hold : ∀ b o, s.heap.get? b = some o → h'.get? b = some o := fun b o e' => hk b o (fun q => by
      have : b = s.heap.objs.size := by simpa using q
      rw [this] at e'; exact absurd (Heap.lt_size e') (Nat.lt_irrefl _)) (Heap.get?_push_of_some _ e')
    refine ⟨mem, ⟨R.keeps hold, .keeps fun b o e' _ => hold b o e', _, _, rfl⟩, ?_⟩
    have : preSum (fun i => (ns[i]?).getD 0) us.toArray.size = sumI ns := by
      rw [List.size_toArray, hlen, preSum_take ns _ (Nat.le_refl _), List.take_length]
    rw [this]; exact h
theorem cal_all {a : Addr} {bs : List Bool} (e : LstAt mem a (bs.map .bool)) (h : Q (.bool (bs.all id)) mem) : Cal c n (.builtin "all") [.ref a] mem Q := fun f' vs' hf hv A s r R => by
  obtain rfl := er_builtin hf
  obtain ⟨v, rfl, hw⟩ := er_one hv
  obtain rfl := er_ref hw
  obtain ⟨us, h1, h2⟩ := e.get R
  have hlen : us.length = bs.length := by have := congrArg List.length h2; simpa using this
  have hlt := new_iter h1
  refine call_all_walk (wpAny_pyIter_list h1 ?_)
  refine ⟨s.heap.objs.size, _, _, _, _, _, fun i => (bs[i]?).getD true, rfl, Walks.list (A := A.in1) r.1 s.heap.objs.size a (Nat.ne_of_lt hlt) us.toArray, ⟨⟨_, Heap.get?_push_size _ rfl, rfl, rfl⟩, h1.push _⟩, fun i v s' Q' E' hv' hq => ?_, fun h' tk hk => ?_⟩
  · have q : (us.map er)[i]? = (bs.map Value.bool)[i]? := by rw [h2]
    have hv'' : us[i]? = some v := by simpa using hv'
    rw [List.getElem?_map, hv''] at q
    simp only [List.getElem?_map, Option.map_some] at q
    dsimp only at hq
    cases q' : bs[i]? with
    | none => rw [q'] at q; cases q
    | some z =>
      rw [q'] at q hq
      obtain rfl := er_bool (by simpa using q : er v = .bool z)
      exact wpAny_truthy_bool hq
  · have hold : ∀ b o, s.heap.get? b = some o → h'.get? b = some o := fun b o e' => hk b o (fun q => by
      have : b = s.heap.objs.size := by simpa using q
      rw [this] at e'; exact absurd (Heap.lt_size e') (Nat.lt_irrefl _)) (Heap.get?_push_of_some _ e')
    refine ⟨mem, ⟨R.keeps hold, .keeps fun b o e' _ => hold b o e', _, _, rfl⟩, ?_⟩
    have : (List.range us.toArray.size).all (fun i => (bs[i]?).getD true) = bs.all id := by
      rw [List.size_toArray, hlen, Bool.eq_iff_iff, List.all_eq_true, List.all_eq_true]
      constructor
      · intro q b hb
        obtain ⟨i, hi, rfl⟩ := List.getElem_of_mem hb
        have := q i (List.mem_range.mpr hi)
        rw [List.getElem?_eq_getElem hi] at this
        exact this
      · intro q i hi
        have hi' := List.mem_range.mp hi
        rw [List.getElem?_eq_getElem hi']
        exact q _ (List.getElem_mem hi')
    show Q (er (.bool _)) mem
    rw [this]; exact h
theorem look_nodup {α : Type} : ∀ {l : List (Str × α)}, (l.map (·.1)).Nodup → ∀ {p : Str × α}, p ∈ l → l.lookup p.1 = some p.2
  | [], _, p, hp => by cases hp
  | (y, u) :: r, hnd, p, hp => by
    rw [List.map_cons, List.nodup_cons] at hnd
    rcases List.mem_cons.mp hp with rfl | hp'
    · simp
    · rw [List.lookup_cons, show (p.1 == y) = false from beq_eq_false_iff_ne.mpr (fun z => hnd.1 (by rw [← z]; exact List.mem_map_of_mem (f := (·.1)) hp'))]
      exact look_nodup hnd.2 hp'
/-- two dicts with the same pairs of texts and ints -/
theorem hits_same {A : Around} {s : Shared} {kb : List (Str × Value)} : ∀ {ka : List (Str × Value)}, (∀ p ∈ ka, ∃ i t y, p.2 = .int i t ∧ valueAt kb p.1 = some y ∧ er y = .int i 0) → KeqHits A s kb ka true
  | [], _ => .nil
  | p :: r, h => by
    obtain ⟨k, v⟩ := p
    obtain ⟨i, t, y, h1, h2, h3⟩ := h (k, v) (List.mem_cons_self ..)
    dsimp only at h1 h2
    subst h1
    obtain ⟨u, rfl⟩ := er_int h3
    have he : SeqAt.EqAt A s (.int i t) (.int i u) true := by
      have := (MeetsSeq.EqGives.at (MeetsSeq.EqGives.int i i t u) A s)
      rw [beq_self_eq_true] at this
      exact this
    have := KeqHits.hit (A := A) (s := s) h2 he (hits_same fun q hq => h q (List.mem_cons_of_mem _ hq))
    exact this
theorem cmp_neSameD {a b : Addr} {kvs : List (Str × Value)} (ea : mem a = some (.dict kvs)) (eb : mem b = some (.dict kvs)) (hi : ∀ p ∈ kvs, ∃ i, p.2 = .int i 0) (h : Q (.bool false) mem) : Cmp c n .NotEq (.ref a) (.ref b) mem Q := fun x y hx hy A s r R => by
  obtain rfl := er_ref hx; obtain rfl := er_ref hy
  obtain ⟨ka, hd, hka⟩ := dict_get R ea
  obtain ⟨kb, hd', hkb⟩ := dict_get R eb
  have hu : A.units < cLine := by have := r.2.2; show A.units < 9900; omega
  have hnd : (ka.map (·.1)).Nodup := by obtain ⟨_, _, _, _, _, _, _, _, hn⟩ := hd; exact hn
  have hl : ka.length = kb.length := by rw [← List.length_map (f := erP) (as := ka), ← List.length_map (f := erP) (as := kb), hka, hkb]
  refine keq_ne (knd := c.kd) (r := true) (dict_sys R ea) (dict_sys R eb) hd hd' hu (fun _ => hits_same fun p hp => ?_) ⟨mem, Now.refl R, ?_⟩
  · obtain ⟨i, hi'⟩ := hi (erP p) (by rw [← hka]; exact List.mem_map_of_mem hp)
    obtain ⟨t, ht⟩ := er_int (v := p.2) hi'
    have hlk : ka.lookup p.1 = some p.2 := look_nodup hnd hp
    have h1 : (kb.map erP).lookup p.1 = some (er p.2) := by rw [hkb, ← hka, lookup_erP, hlk]; rfl
    rw [lookup_erP] at h1
    obtain ⟨y, hy, hy'⟩ := Option.map_eq_some_iff.mp h1
    exact ⟨i, t, y, ht, by rw [valueAt_eq]; exact hy, by rw [hy', ht]; rfl⟩
  · have : (!(ka.length == kb.length && true)) = false := by rw [hl]; simp
    rw [this]; exact h
end
end Mine
end
section
-- Lay18
set_option maxRecDepth 100000
set_option autoImplicit false
set_option linter.unusedVariables false
namespace Mine
open PySem PySem.W PySem.Calls PyProof.Rows
theorem entry_dul : entryFor table "dict.update.loop" = some Builtin.«dict.update.loop» := entryFor_of_tree (by kernel_rfl)
theorem plain_dul : plainId "dict.update.loop" = true := by decide +kernel
theorem miss_keys : typeLookup (.type "list") "keys" = pure none := am_miss_of_fast (by decide +kernel)
section
variable {c : Cx} {n : Nat} {mem : Mem} {Q : Value → Mem → Prop}
theorem attr_miss {A : Around} {s : Shared} {a : Addr} {xs : Array Value} {k : Nat} {sl : Array (Option Value)} {P : Option Value → Shared → Prop} {E : Value → Shared → Prop}
    (hx : s.heap.get? a = some { cls := .type "list", dict := none, data := .seq xs k, slots := sl }) (hA : A.handled = none) (h : ∀ h' tk, (∀ b o, s.heap.get? b = some o → h'.get? b = some o) → P none { s with heap := h', toks := tk }) :
    wpAny c.M A (getAttr? (.ref a) "keys") P E s := by
  obtain ⟨hp, g, d, tk, os⟩ := s
  have hT : ∀ tk', (⟨hp, g, d, tk', os⟩ : Shared).TypeIs (.ref a) "list" := fun _ => ⟨_, hx, rfl⟩
  have f1 := sub_AttributeError
  have f3 := PySem.F.slot_list_getattribute.lookup
  have f4 := PySem.F.slot_list_getattribute.bind (.ref a)
  have f5 := am_list_getattr_none
  have hname : (["__module__", "__name__", "__qualname__", "__doc__", "__annotations__"] : List Str).contains "keys" = false := by decide +kernel
  unfold getAttr? getAttrBy? getAttrBy
  repeat (any_goals (first | assumption | exact hT _ | ((with_reducible show wpAny _ _ (call (Value.builtin "list.__getattribute__") _ _) _ _ _); refine call_meets PySem.F.slot_list_getattribute (hT _) am_entry_list_getattribute (PySem.F.args_list_getattribute_2 _ _) (meets_getattribute_miss_list a xs k sl "keys" _ miss_keys hname (by rw [sizeLine_eq]; decide +kernel)) ⟨hx, hA, fun h' tk' e hx' => ?_⟩) | wp_step))
  obtain ⟨t', u', he⟩ := hx'.there
  show wpAny _ _ (getattributeRaised _ _ _ _ _ _ _) _ _ _
  unfold getattributeRaised
  repeat (any_goals (first | assumption | wp_step))
  all_goals exact h _ _ hx'.keeps
end
end Mine
end
section
-- Lay19
set_option maxRecDepth 100000
set_option autoImplicit false
set_option linter.unusedVariables false
namespace Mine
open PySem PySem.W PySem.Calls PyProof.Rows
section
variable {c : Cx} {n : Nat} {mem : Mem} {Q : Value → Mem → Prop}
/-- the pairs that the tuples of a list hold -/
noncomputable def PairsAt (h : Heap) (us : List Value) (kvs : List (Str × Value)) : Prop :=
  us.length = kvs.length ∧ ∀ (i : Nat) (k : Str) (v : Value), kvs[i]? = some (k, v) → ∃ (a : Addr) (t : Tok) (m : Nat), us[i]? = some (Value.ref a) ∧ h.get? a = some (tupObj #[.str k t, v] m)
theorem dul_loop {l D I : Addr} {us : List Value} {kvs : List (Str × Value)} {H : Heap} (hl : H.IsList l us.toArray) (hp : PairsAt H us kvs) (hD : H.get? D = none) (hI : H.get? I = none) (hDI : D ≠ I) (hlen : kvs.length ≤ 1000000)
    {s₀ : Shared} {R : Result → Shared → Prop} (hR : ∀ h' tk, (∀ b o, H.get? b = some o → h'.get? b = some o) → h'.DictOf c.kd D (kvs.foldl (fun acc kv => stored acc kv.1 kv.2) []) → R (.ok (.ret .none)) { s₀ with heap := h', toks := tk }) :
    ∀ (m i : Nat) (A : Around) (h : Heap) (tk : Nat), A.handled = none → i + m = kvs.length → (∀ b o, H.get? b = some o → h.get? b = some o) → h.IsListIter I l i → h.DictOf c.kd D ((kvs.take i).foldl (fun acc kv => stored acc kv.1 kv.2) []) →
      codeAny c.M A (.builtin "dict.update.loop" ⟨[.ref D, .ref I, rawInt i, .none], []⟩) R { s₀ with heap := h, toks := tk }
  | m, i, A, h, tk, hA, hm, hk, hit, hd => by
    have hlx : h.IsList l us.toArray := let ⟨o, e, r⟩ := hl; ⟨o, hk _ _ e, r⟩
    refine codeAny_builtin entry_dul ?_
    rw [Around.under_plainId plain_dul _]
    unfold Builtin.«dict.update.loop»
    match m with
    | 0 =>
      have hi : i = kvs.length := by omega
      subst hi
      refine wpAny_bind (wpAny_pyNext_list_end hA hit hlx (by have := hp.1; simp; omega) fun h' hx => ?_)
      have hDl : D ≠ I := hDI
      rw [List.take_length] at hd
      refine wpAny_bind (wpAny_pure (wpAny_pure ?_))
      refine hR h' tk (fun b o e => hx b o (fun q => by rw [q, hI] at e; cases e) (hk b o e)) ?_
      obtain ⟨o, es, ep, ho, r⟩ := hd
      exact ⟨o, es, ep, hx D o hDl ho, r⟩
    | m + 1 =>
      have hi : i < kvs.length := by omega
      obtain ⟨kv, hkv⟩ : ∃ kv, kvs[i]? = some kv := ⟨kvs[i], List.getElem?_eq_getElem hi⟩
      obtain ⟨k, v⟩ := kv
      obtain ⟨a, t, q, hu, ha⟩ := hp.2 i k v hkv
      refine wpAny_bind (wpAny_pyNext_list_item hit hlx (x := .ref a) (by simpa using hu) fun h₁ hit₁ hs₁ => ?_)
      have hk₁ : ∀ b o, H.get? b = some o → h₁.get? b = some o := fun b o e => hs₁.extBut b o (fun q => by rw [q, hI] at e; cases e) (hk b o e)
      have ha₁ := hk₁ a _ ha
      refine wpAny_bind (wpAny_holding ?_)
      refine wpAny_bind ?_
      refine wpAny_tryCatch ?_
      unfold Builtin.Dict.pairItems
      refine wpAny_bind (wpAny_typeOf (T := "tuple") ⟨_, ha₁, rfl⟩ ?_)
      rw [if_pos (by decide)]
      refine wpAny_bind (wpAny_seqItems ha₁ rfl (wpAny_pure ?_))
      dsimp only [Option.getD_some]
      have hd₁ : h₁.DictOf c.kd D ((kvs.take i).foldl (fun acc kv => stored acc kv.1 kv.2) []) := by
        obtain ⟨o, es, ep, ho, r⟩ := hd
        exact ⟨o, es, ep, hs₁.extBut D o hDI ho, r⟩
      have hlen' : ((kvs.take i).foldl (fun acc kv => stored acc kv.1 kv.2) []).length ≤ kvs.length := by
        have := merged_length_le [] (kvs.take i)
        unfold merged at this
        rw [List.length_take] at this
        simp at this
        omega
      refine wpAny_holding (wpAny_dictSet_pairs (knd := c.kd) (k := k) kd_is hd₁ (fun h₂ hd₂ hs₂ => ?_) (by rw [sizeLine_eq]; omega))
      refine wpAny_pure ⟨Code.quiet_builtin _ (by decide +kernel), ?_⟩
      have e1 : rawInt ((i : Int) + 1) = rawInt ((i + 1 : Nat) : Int) := by simp
      have hk₂ : ∀ b o, H.get? b = some o → h₂.get? b = some o := fun b o e => hs₂.extBut b o (fun q => by rw [q, hD] at e; cases e) (hk₁ b o e)
      have hit₂ : h₂.IsListIter I l (i + 1) := by obtain ⟨o, e, r⟩ := hit₁; exact ⟨o, hs₂.extBut I o (Ne.symm hDI) e, r⟩
      have e2 : (kvs.take (i + 1)).foldl (fun acc kv => stored acc kv.1 kv.2) [] = stored ((kvs.take i).foldl (fun acc kv => stored acc kv.1 kv.2) []) k v := by
        rw [List.take_add_one, hkv, List.foldl_append]; rfl
      have := dul_loop hl hp hD hI hDI hlen hR m (i + 1) A h₂ (tk + 1) hA (by omega) hk₂ hit₂ (by rw [e2]; exact hd₂)
      rw [← e1] at this
      exact this
theorem fold_erP (kvs : List (Str × Value)) : ∀ acc : List (Str × Value), (kvs.foldl (fun acc kv => stored acc kv.1 kv.2) acc).map erP = (kvs.map erP).foldl (fun acc kv => put acc kv.1 kv.2) (acc.map erP) := by
  induction kvs with
  | nil => intro acc; rfl
  | cons p r ih =>
    intro acc
    rw [List.foldl_cons, ih, stored_erP]
    rfl
/-- what dict(..) makes of a list of pairs -/
noncomputable def dictOfPairs (kvs : List (Str × Value)) : List (Str × Value) := kvs.foldl (fun acc kv => put acc kv.1 kv.2) []
theorem pairs_raw {h : Heap} (R : Rep c mem h) : ∀ {us : List Value} {kvs : List (Str × Value)}, us.length = kvs.length → (∀ (i : Nat) (k : Str) (v : Value), kvs[i]? = some (k, v) → ∃ t : Addr, us[i]? = some (Value.ref t) ∧ mem t = some (.tup [.str k 0, v])) →
    ∃ kus : List (Str × Value), kus.map erP = kvs ∧ PairsAt h us kus
  | [], [], _, _ => ⟨[], rfl, rfl, fun i k v e => by cases e⟩
  | [], _ :: _, hl, _ => by cases hl
  | _ :: _, [], hl, _ => by cases hl
  | u :: us, p :: kvs, hl, hp => by
    obtain ⟨kus, h1, h2, h3⟩ := pairs_raw R (us := us) (kvs := kvs) (by simpa using hl) fun i k v e => hp (i + 1) k v e
    obtain ⟨k, v⟩ := p
    obtain ⟨t, hu, ht⟩ := hp 0 k v rfl
    obtain ⟨as, m, ha, has⟩ := R.at_ t _ ht
    obtain ⟨x, y, hxy, hx, hy⟩ := er_two has
    obtain ⟨tk, rfl⟩ := er_str hx
    refine ⟨(k, y) :: kus, by rw [List.map_cons, h1]; show (k, er y) :: _ = _; rw [hy], by simp [h2], fun i k' v' e => ?_⟩
    cases i with
    | zero =>
      cases e
      refine ⟨t, tk, m, hu, ?_⟩
      rw [ha]
      have : as = #[.str k tk, y] := by rw [← Array.toArray_toList (xs := as), hxy]
      rw [this]
    | succ i => exact h3 i k' v' e
theorem cal_dictP {a : Addr} {vs : List Value} {kvs : List (Str × Value)} (e : mem a = some (.list vs)) (hl : vs.length = kvs.length) (hp : ∀ (i : Nat) (k : Str) (v : Value), kvs[i]? = some (k, v) → ∃ t, vs[i]? = some (Value.ref t) ∧ mem t = some (.tup [.str k 0, v])) (hlen : kvs.length ≤ 1000000)
    (h : ∀ x, mem x = none → Q (.ref x) (upd mem x (.dict (dictOfPairs kvs)))) : Cal c n (.type "dict") [.ref a] mem Q := fun f' vs' hf hv A s r R => by
  obtain rfl := er_type hf
  obtain ⟨v, rfl, hw⟩ := er_one hv
  obtain rfl := er_ref hw
  obtain ⟨us, m, h1, rfl⟩ := list_get R e
  have hul : us.length = kvs.length := by rw [List.length_map] at hl; exact hl
  obtain ⟨kus, hk1, hk2⟩ := pairs_raw R hul fun i k v e => by
    obtain ⟨t, q1, q2⟩ := hp i k v e
    rw [List.getElem?_map] at q1
    obtain ⟨u, q3, q4⟩ := Option.map_eq_some_iff.mp q1
    exact ⟨t, by rw [q3, er_ref q4], q2⟩
  have hkl : kus.length = kvs.length := by rw [← hk1, List.length_map]
  refine callType_codes (Q₁ := fun obj s₁ => obj = .ref s.heap.objs.size ∧ s₁ = { s with heap := s.heap.push { cls := .type "dict", data := .dict #[] } }) PySem.F.kt_called_dict (PySem.F.kt_typeCall_dict_1 _) PySem.F.entry_dict_init (kt_code_dict_new _ ⟨rfl, rfl⟩) ?_
  rintro obj s₁ ⟨rfl, rfl⟩
  have hnew : (s.heap.push { cls := .type "dict", data := .dict #[] }).DictOf c.kd s.heap.objs.size [] := Heap.DictOf.new s.heap
  refine ⟨hnew.typeIs, PySem.F.args_dict_init_2 _ _, ?_⟩
  unfold Builtin.«dict.__init__»
  refine wpAny_bind ?_
  unfold Builtin.Dict.selfAndRest
  refine wpAny_bind (wpAny_notOrdered_dict hnew.typeIs ?_)
  show wpAny _ _ (pure (s.heap.objs.size, [Value.ref a])) _ _ _
  refine wpAny_pure ?_
  show wpAny _ _ (Builtin.Dict.updateFrom "dict.__init__" s.heap.objs.size (.ref a) [] .none) _ _ _
  unfold Builtin.Dict.updateFrom
  have h1' : (s.heap.push { cls := .type "dict", data := .dict #[] }).get? a = some (listObj us.toArray m) := Heap.get?_push_of_some _ h1
  refine wpAny_bind (wpAny_typeOf (T := "list") ⟨_, h1', rfl⟩ ?_)
  rw [if_pos (by decide)]
  refine wpAny_bind (attr_miss h1' r.1 fun h₂ tk hk => ?_)
  rw [if_pos (by rfl)]
  have h2 : h₂.IsList a us.toArray := ⟨_, hk _ _ h1', rfl, m, rfl⟩
  refine wpAny_bind (wpAny_rule (wpAny_bind (wpAny_pyIter_list h2 ?_)))
  refine wpAny_pure ⟨Code.quiet_builtin _ (by decide +kernel), ?_⟩
  have hold : ∀ b o, s.heap.get? b = some o → (h₂.push { cls := .type "list_iterator", data := .fields #[.ref a, .int 0 0] }).get? b = some o := fun b o e => Heap.get?_push_of_some _ (hk b o (Heap.get?_push_of_some _ e))
  have hDlt : s.heap.objs.size < h₂.objs.size := by obtain ⟨o, _, _, ho, _⟩ := hnew; exact Heap.lt_size (hk _ _ ho)
  refine dul_loop (s₀ := s) (D := s.heap.objs.size) (I := h₂.objs.size) (kvs := kus) (H := s.heap) ⟨_, h1, rfl, m, rfl⟩ hk2 (past _ (Nat.le_refl _)) ?_ (Nat.ne_of_lt hDlt) (by omega) (fun h₃ tk₃ q1 q2 => ?_) kus.length 0 _ _ _ r.1 (by omega) hold ⟨_, Heap.get?_push_size _ rfl, rfl, rfl⟩ ?_
  · cases q : s.heap.get? h₂.objs.size with
    | none => rfl
    | some o => exact absurd (Heap.lt_size (hk _ _ (Heap.get?_push_of_some _ q))) (Nat.lt_irrefl _)
  · obtain ⟨hm, N⟩ := Now.added (tk := tk₃) (a := s.heap.objs.size) (ao := .dict (dictOfPairs kvs)) R q1 (past _ (Nat.le_refl _)) (fun m => ⟨_, q2, by rw [fold_erP, hk1]; rfl⟩)
    exact ⟨rfl, _, N, h _ hm⟩
  · obtain ⟨o, es, ep, ho, r'⟩ := hnew
    exact ⟨o, es, ep, Heap.get?_push_of_some _ (hk _ _ ho), r'⟩
end
end Mine
end
section
-- Lay20
set_option maxRecDepth 100000
set_option autoImplicit false
set_option linter.unusedVariables false
namespace Mine
open PySem PySem.W PySem.Calls PyProof.Rows
theorem vals1 {P : List Value → Prop} (h : ∀ a, P [a]) : ∀ vs : List Value, vs.length = 1 → P vs
  | [_], _ => h _
theorem vals2 {P : List Value → Prop} (h : ∀ a b, P [a, b]) : ∀ vs : List Value, vs.length = 2 → P vs
  | [_, _], _ => h _ _
theorem vals3 {P : List Value → Prop} (h : ∀ a b c, P [a, b, c]) : ∀ vs : List Value, vs.length = 3 → P vs
  | [_, _, _], _ => h _ _ _
theorem vals4 {P : List Value → Prop} (h : ∀ a b c d, P [a, b, c, d]) : ∀ vs : List Value, vs.length = 4 → P vs
  | [_, _, _, _], _ => h _ _ _ _
theorem zip_fst : ∀ (xs : List Str) (vals : List Value) (x : Str × Value), x ∈ xs.zip vals → x.1 ∈ xs
  | [], _, x, h => by cases h
  | _ :: _, [], x, h => by cases h
  | y :: xs, v :: vals, x, h => by
    rcases List.mem_cons.mp h with rfl | h
    · exact List.mem_cons_self ..
    · exact List.mem_cons_of_mem _ (zip_fst xs vals x h)
noncomputable abbrev isL (f : Fs) (x : Str) : Prop := f.sc.names.lookup x = some .local
noncomputable abbrev isG (f : Fs) (x : Str) : Prop := f.sc.names.lookup x = some .globalImplicit
noncomputable abbrev isC (f : Fs) (x : Str) : Prop := f.sc.names.lookup x = some .cell
section
variable {c : Cx} {n : Nat} {mem : Mem} {Q : Value → Mem → Prop}
theorem St.weaken {f : Fs} {ρ : Loc} {N : Loc → Mem → Prop} {R : Value → Mem → Prop} {st : Stmt} (ρ' : Loc) (hw : ∀ p ∈ ρ', ρ.lookup p.1 = some p.2) (h : St c n f ρ' st mem N R) : St c n f ρ st mem N R := TX.weaken hw h
theorem Sts.weaken {f : Fs} {ρ : Loc} {N : Loc → Mem → Prop} {R : Value → Mem → Prop} {st : List Stmt} (ρ' : Loc) (hw : ∀ p ∈ ρ', ρ.lookup p.1 = some p.2) (h : Sts c n f ρ' st mem N R) : Sts c n f ρ st mem N R := TX.weaken hw h
/-- a test that changes nothing -/
theorem tst_pure {f : Fs} {ρ : Loc} {t : Expr} {P : Bool → Mem → Prop} (b : Bool) (h : ∀ Q, Q b mem → Tst c n f ρ t mem Q) (q : P b mem) : Tst c n f ρ t mem P := h P q
/-- what holds between two statements -/
theorem St.mid {f : Fs} {ρ : Loc} {N : Loc → Mem → Prop} {R : Value → Mem → Prop} {st : Stmt} (P : Mem → Prop) (h : St c n f ρ st mem (fun ρ' m' => ρ' = ρ ∧ P m') R) (k : ∀ m', P m' → N ρ m') : St c n f ρ st mem N R :=
  h.mono (fun r m ⟨e, p⟩ => by subst e; exact k m p) fun _ _ x => x
theorem iteT {P P' : Prop} (h : P) : if true = true then P else P' := h
theorem iteF {P P' : Prop} (h : P') : if false = true then P else P' := h
/-- a plain def -/
theorem code_fn (xs : List Str) {a : Addr} {vs : List Value} {name qual : Str} {params : Arguments} {body : List Stmt} {scope : Scope} {dV kV doc pm cdv ct oc : Value} {an od : Option Addr} {osl : Array (Option Value)}
    (look : c.K.lookup a = some ⟨oc, od, .func (fnOf name qual params body scope dV kV doc pm an cdv ct), osl⟩) (hcd : codeIn c.K cdv qual = true) (hlen : vs.length = xs.length)
    (hb : ∀ vals : List Value, vals.length = xs.length → bindArgs (fnOf name qual params body scope dV kV doc pm an cdv ct) ⟨vals, []⟩ = pure (xs.zip vals))
    (hl : xs.all (fun x => scope.names.lookup x == some .local) = true)
    (hsc : (decide (scope.kind = .function) && !scope.isCoroutine && !scope.isGenerator && scope.names.all (fun x => x.2 != .cell)) = true)
    (h : Sts c n ⟨scope, true⟩ (xs.zip vs).reverse body mem (fun _ m => Q .none m) Q) : CodeCal c (n + 1) a vs mem Q :=
  code_plain look hcd (fun s vals _ hv => ⟨xs.zip vals, .of_eq (hb vals (by rw [← hlen, ← hv, List.length_map])), by rw [erP_zip, hv], fun x hx => by
    have := List.all_eq_true.mp hl x.1 (zip_fst _ _ _ hx)
    exact beq_iff_eq.mp this⟩) hsc h
/-- a def with cells -/
theorem code_fc (xs : List Str) {a : Addr} {vs : List Value} {name qual : Str} {params : Arguments} {body : List Stmt} {scope : Scope} {dV kV doc pm cdv ct oc : Value} {an od : Option Addr} {osl : Array (Option Value)}
    (look : c.K.lookup a = some ⟨oc, od, .func (fnOf name qual params body scope dV kV doc pm an cdv ct), osl⟩) (hcd : codeIn c.K cdv qual = true) (hlen : vs.length = xs.length)
    (hb : ∀ vals : List Value, vals.length = xs.length → bindArgs (fnOf name qual params body scope dV kV doc pm an cdv ct) ⟨vals, []⟩ = pure (xs.zip vals))
    (hl : xs.all (fun x => scope.names.lookup x == some .local || scope.names.lookup x == some .cell) = true)
    (hsc : (decide (scope.kind = .function) && !scope.isCoroutine && !scope.isGenerator && scope.names.all (fun x => x.2 != .cell || scope.names.lookup x.1 == some .cell)) = true)
    (h : Sts c n ⟨scope, true⟩ (xs.zip vs).reverse body mem (fun _ m => Q .none m) Q) : CodeCal c (n + 1) a vs mem Q :=
  code_cells look hcd (fun vals hv => ⟨xs.zip vals, hb vals (by rw [← hlen, ← hv, List.length_map]), by rw [erP_zip, hv], fun x hx => by
    have := List.all_eq_true.mp hl x.1 (zip_fst _ _ _ hx)
    simpa using this⟩) hsc h
/-- two lists or dicts of the memory changed one behind the other -/
theorem upd_upd {a : Addr} {o o' : AO} : upd (upd mem a o) a o' = upd mem a o' := by
  funext b
  unfold upd
  split <;> rfl
theorem upd_comm {a b : Addr} {o o' : AO} (h : a ≠ b) : upd (upd mem a o) b o' = upd (upd mem b o') a o := by
  funext x
  unfold upd
  split
  · rename_i q
    split
    · rename_i q'; rw [q] at q'; exact absurd q'.symm h
    · rfl
  · rfl
theorem Grow.set {m m' : Mem} {a : Addr} {o : AO} (g : Grow m m') (h : m a = none) : Grow m (Mine.upd m' a o) := fun b o' e => by
  rw [upd_ne]
  · exact g b o' e
  · rintro rfl; rw [h] at e; cases e
theorem Grow.none {m m' : Mem} {a : Addr} (g : Grow m m') (h : m' a = none) : m a = none := by
  cases q : m a with
  | none => rfl
  | some o => rw [g a o q] at h; cases h
end
end Mine
end
section
-- F1
set_option maxRecDepth 100000
set_option maxHeartbeats 8000000
set_option autoImplicit false
set_option linter.unusedVariables false
namespace Mine
open PySem PySem.W PySem.Calls PyProof.Rows
noncomputable abbrev cx (w : World) (h₀ : Heap) : Cx := ⟨PySem.Challenge.pw_og0012_01, w, K w.params, h₀⟩
section
variable {P : Params}
theorem g_size_of : nsIn (K P) mainGlobals "size_of" = some (some (.ref 28)) := by kernel_rfl
theorem lk_size_of : (K P).lookup 28 = some (ko_28 P) := by kernel_rfl
theorem cd_size_of : codeIn (K P) (.ref 27) "size_of" = true := by kernel_rfl
theorem ke_size_of : keepIn (K P) (.ref 28) = true := by kernel_rfl
theorem lk_Var_init : (K P).lookup 42 = some (ko_42 P) := by kernel_rfl
theorem cd_Var_init : codeIn (K P) (.ref 41) "Var.__init__" = true := by kernel_rfl
theorem ke_Var_init : keepIn (K P) (.ref 42) = true := by kernel_rfl
theorem fi_Var_init : findIn (K P) (.ref 66) "__init__" = some (some (.ref 42)) := by kernel_rfl
theorem ty_Var_init : typeIn (K P) (.ref 42) = some (.type "function") := by kernel_rfl
theorem lk_Var_parts : (K P).lookup 56 = some (ko_56 P) := by kernel_rfl
theorem cd_Var_parts : codeIn (K P) (.ref 55) "Var.parts" = true := by kernel_rfl
theorem ke_Var_parts : keepIn (K P) (.ref 56) = true := by kernel_rfl
theorem fi_Var_parts : findIn (K P) (.ref 66) "parts" = some (some (.ref 56)) := by kernel_rfl
theorem ty_Var_parts : typeIn (K P) (.ref 56) = some (.type "function") := by kernel_rfl
theorem lk_Lit_init : (K P).lookup 84 = some (ko_84 P) := by kernel_rfl
theorem cd_Lit_init : codeIn (K P) (.ref 83) "Lit.__init__" = true := by kernel_rfl
theorem ke_Lit_init : keepIn (K P) (.ref 84) = true := by kernel_rfl
theorem fi_Lit_init : findIn (K P) (.ref 108) "__init__" = some (some (.ref 84)) := by kernel_rfl
theorem ty_Lit_init : typeIn (K P) (.ref 84) = some (.type "function") := by kernel_rfl
theorem lk_Lit_parts : (K P).lookup 98 = some (ko_98 P) := by kernel_rfl
theorem cd_Lit_parts : codeIn (K P) (.ref 97) "Lit.parts" = true := by kernel_rfl
theorem ke_Lit_parts : keepIn (K P) (.ref 98) = true := by kernel_rfl
theorem fi_Lit_parts : findIn (K P) (.ref 108) "parts" = some (some (.ref 98)) := by kernel_rfl
theorem ty_Lit_parts : typeIn (K P) (.ref 98) = some (.type "function") := by kernel_rfl
theorem lk_App_init : (K P).lookup 126 = some (ko_126 P) := by kernel_rfl
theorem cd_App_init : codeIn (K P) (.ref 125) "App.__init__" = true := by kernel_rfl
theorem ke_App_init : keepIn (K P) (.ref 126) = true := by kernel_rfl
theorem fi_App_init : findIn (K P) (.ref 148) "__init__" = some (some (.ref 126)) := by kernel_rfl
theorem ty_App_init : typeIn (K P) (.ref 126) = some (.type "function") := by kernel_rfl
theorem lk_App_parts : (K P).lookup 138 = some (ko_138 P) := by kernel_rfl
theorem cd_App_parts : codeIn (K P) (.ref 137) "App.parts" = true := by kernel_rfl
theorem ke_App_parts : keepIn (K P) (.ref 138) = true := by kernel_rfl
theorem fi_App_parts : findIn (K P) (.ref 148) "parts" = some (some (.ref 138)) := by kernel_rfl
theorem ty_App_parts : typeIn (K P) (.ref 138) = some (.type "function") := by kernel_rfl
theorem lk_Lam_init : (K P).lookup 166 = some (ko_166 P) := by kernel_rfl
theorem cd_Lam_init : codeIn (K P) (.ref 165) "Lam.__init__" = true := by kernel_rfl
theorem ke_Lam_init : keepIn (K P) (.ref 166) = true := by kernel_rfl
theorem fi_Lam_init : findIn (K P) (.ref 190) "__init__" = some (some (.ref 166)) := by kernel_rfl
theorem ty_Lam_init : typeIn (K P) (.ref 166) = some (.type "function") := by kernel_rfl
theorem lk_Lam_parts : (K P).lookup 180 = some (ko_180 P) := by kernel_rfl
theorem cd_Lam_parts : codeIn (K P) (.ref 179) "Lam.parts" = true := by kernel_rfl
theorem ke_Lam_parts : keepIn (K P) (.ref 180) = true := by kernel_rfl
theorem fi_Lam_parts : findIn (K P) (.ref 190) "parts" = some (some (.ref 180)) := by kernel_rfl
theorem ty_Lam_parts : typeIn (K P) (.ref 180) = some (.type "function") := by kernel_rfl
theorem lk_Con_init : (K P).lookup 208 = some (ko_208 P) := by kernel_rfl
theorem cd_Con_init : codeIn (K P) (.ref 207) "Con.__init__" = true := by kernel_rfl
theorem ke_Con_init : keepIn (K P) (.ref 208) = true := by kernel_rfl
theorem fi_Con_init : findIn (K P) (.ref 230) "__init__" = some (some (.ref 208)) := by kernel_rfl
theorem ty_Con_init : typeIn (K P) (.ref 208) = some (.type "function") := by kernel_rfl
theorem lk_Con_parts : (K P).lookup 220 = some (ko_220 P) := by kernel_rfl
theorem cd_Con_parts : codeIn (K P) (.ref 219) "Con.parts" = true := by kernel_rfl
theorem ke_Con_parts : keepIn (K P) (.ref 220) = true := by kernel_rfl
theorem fi_Con_parts : findIn (K P) (.ref 230) "parts" = some (some (.ref 220)) := by kernel_rfl
theorem ty_Con_parts : typeIn (K P) (.ref 220) = some (.type "function") := by kernel_rfl
theorem lk_Prim_init : (K P).lookup 248 = some (ko_248 P) := by kernel_rfl
theorem cd_Prim_init : codeIn (K P) (.ref 247) "Prim.__init__" = true := by kernel_rfl
theorem ke_Prim_init : keepIn (K P) (.ref 248) = true := by kernel_rfl
theorem fi_Prim_init : findIn (K P) (.ref 270) "__init__" = some (some (.ref 248)) := by kernel_rfl
theorem ty_Prim_init : typeIn (K P) (.ref 248) = some (.type "function") := by kernel_rfl
theorem lk_Prim_parts : (K P).lookup 260 = some (ko_260 P) := by kernel_rfl
theorem cd_Prim_parts : codeIn (K P) (.ref 259) "Prim.parts" = true := by kernel_rfl
theorem ke_Prim_parts : keepIn (K P) (.ref 260) = true := by kernel_rfl
theorem fi_Prim_parts : findIn (K P) (.ref 270) "parts" = some (some (.ref 260)) := by kernel_rfl
theorem ty_Prim_parts : typeIn (K P) (.ref 260) = some (.type "function") := by kernel_rfl
theorem lk_Fresh_init : (K P).lookup 297 = some (ko_297 P) := by kernel_rfl
theorem cd_Fresh_init : codeIn (K P) (.ref 296) "Fresh.__init__" = true := by kernel_rfl
theorem ke_Fresh_init : keepIn (K P) (.ref 297) = true := by kernel_rfl
theorem fi_Fresh_init : findIn (K P) (.ref 314) "__init__" = some (some (.ref 297)) := by kernel_rfl
theorem ty_Fresh_init : typeIn (K P) (.ref 297) = some (.type "function") := by kernel_rfl
theorem lk_Fresh_avoid : (K P).lookup 304 = some (ko_304 P) := by kernel_rfl
theorem cd_Fresh_avoid : codeIn (K P) (.ref 303) "Fresh.avoid" = true := by kernel_rfl
theorem ke_Fresh_avoid : keepIn (K P) (.ref 304) = true := by kernel_rfl
theorem fi_Fresh_avoid : findIn (K P) (.ref 314) "avoid" = some (some (.ref 304)) := by kernel_rfl
theorem ty_Fresh_avoid : typeIn (K P) (.ref 304) = some (.type "function") := by kernel_rfl
theorem lk_Walker_init : (K P).lookup 332 = some (ko_332 P) := by kernel_rfl
theorem cd_Walker_init : codeIn (K P) (.ref 331) "Walker.__init__" = true := by kernel_rfl
theorem ke_Walker_init : keepIn (K P) (.ref 332) = true := by kernel_rfl
theorem fi_Walker_init : findIn (K P) (.ref 363) "__init__" = some (some (.ref 332)) := by kernel_rfl
theorem ty_Walker_init : typeIn (K P) (.ref 332) = some (.type "function") := by kernel_rfl
theorem lk_Walker_enter : (K P).lookup 339 = some (ko_339 P) := by kernel_rfl
theorem cd_Walker_enter : codeIn (K P) (.ref 338) "Walker.enter" = true := by kernel_rfl
theorem ke_Walker_enter : keepIn (K P) (.ref 339) = true := by kernel_rfl
theorem fi_Walker_enter : findIn (K P) (.ref 363) "enter" = some (some (.ref 339)) := by kernel_rfl
theorem ty_Walker_enter : typeIn (K P) (.ref 339) = some (.type "function") := by kernel_rfl
theorem lk_Walker_leave : (K P).lookup 346 = some (ko_346 P) := by kernel_rfl
theorem cd_Walker_leave : codeIn (K P) (.ref 345) "Walker.leave" = true := by kernel_rfl
theorem ke_Walker_leave : keepIn (K P) (.ref 346) = true := by kernel_rfl
theorem fi_Walker_leave : findIn (K P) (.ref 363) "leave" = some (some (.ref 346)) := by kernel_rfl
theorem ty_Walker_leave : typeIn (K P) (.ref 346) = some (.type "function") := by kernel_rfl
theorem lk_Walker_walk : (K P).lookup 353 = some (ko_353 P) := by kernel_rfl
theorem cd_Walker_walk : codeIn (K P) (.ref 352) "Walker.walk" = true := by kernel_rfl
theorem ke_Walker_walk : keepIn (K P) (.ref 353) = true := by kernel_rfl
theorem fi_Walker_walk : findIn (K P) (.ref 363) "walk" = some (some (.ref 353)) := by kernel_rfl
theorem ty_Walker_walk : typeIn (K P) (.ref 353) = some (.type "function") := by kernel_rfl
theorem lk_Walker_look : (K P).lookup 360 = some (ko_360 P) := by kernel_rfl
theorem cd_Walker_look : codeIn (K P) (.ref 359) "Walker.look" = true := by kernel_rfl
theorem ke_Walker_look : keepIn (K P) (.ref 360) = true := by kernel_rfl
theorem fi_Walker_look : findIn (K P) (.ref 363) "look" = some (some (.ref 360)) := by kernel_rfl
theorem ty_Walker_look : typeIn (K P) (.ref 360) = some (.type "function") := by kernel_rfl
theorem g_strong_groups : nsIn (K P) mainGlobals "strong_groups" = some (some (.ref 372)) := by kernel_rfl
theorem lk_strong_groups : (K P).lookup 372 = some (ko_372 P) := by kernel_rfl
theorem cd_strong_groups : codeIn (K P) (.ref 371) "strong_groups" = true := by kernel_rfl
theorem ke_strong_groups : keepIn (K P) (.ref 372) = true := by kernel_rfl
theorem g_is_atom : nsIn (K P) mainGlobals "is_atom" = some (some (.ref 379)) := by kernel_rfl
theorem lk_is_atom : (K P).lookup 379 = some (ko_379 P) := by kernel_rfl
theorem cd_is_atom : codeIn (K P) (.ref 378) "is_atom" = true := by kernel_rfl
theorem ke_is_atom : keepIn (K P) (.ref 379) = true := by kernel_rfl
theorem g_used_names : nsIn (K P) mainGlobals "used_names" = some (some (.ref 386)) := by kernel_rfl
theorem lk_used_names : (K P).lookup 386 = some (ko_386 P) := by kernel_rfl
theorem cd_used_names : codeIn (K P) (.ref 385) "used_names" = true := by kernel_rfl
theorem ke_used_names : keepIn (K P) (.ref 386) = true := by kernel_rfl
theorem g_recursive_names : nsIn (K P) mainGlobals "recursive_names" = some (some (.ref 391)) := by kernel_rfl
theorem lk_recursive_names : (K P).lookup 391 = some (ko_391 P) := by kernel_rfl
theorem cd_recursive_names : codeIn (K P) (.ref 390) "recursive_names" = true := by kernel_rfl
theorem ke_recursive_names : keepIn (K P) (.ref 391) = true := by kernel_rfl
theorem g_arities_of : nsIn (K P) mainGlobals "arities_of" = some (some (.ref 396)) := by kernel_rfl
theorem lk_arities_of : (K P).lookup 396 = some (ko_396 P) := by kernel_rfl
theorem cd_arities_of : codeIn (K P) (.ref 395) "arities_of" = true := by kernel_rfl
theorem ke_arities_of : keepIn (K P) (.ref 396) = true := by kernel_rfl
theorem g_cells_of : nsIn (K P) mainGlobals "cells_of" = some (some (.ref 401)) := by kernel_rfl
theorem lk_cells_of : (K P).lookup 401 = some (ko_401 P) := by kernel_rfl
theorem cd_cells_of : codeIn (K P) (.ref 400) "cells_of" = true := by kernel_rfl
theorem ke_cells_of : keepIn (K P) (.ref 401) = true := by kernel_rfl
theorem lk_TopFunctions_init : (K P).lookup 415 = some (ko_415 P) := by kernel_rfl
theorem cd_TopFunctions_init : codeIn (K P) (.ref 414) "TopFunctions.__init__" = true := by kernel_rfl
theorem ke_TopFunctions_init : keepIn (K P) (.ref 415) = true := by kernel_rfl
theorem fi_TopFunctions_init : findIn (K P) (.ref 425) "__init__" = some (some (.ref 415)) := by kernel_rfl
theorem ty_TopFunctions_init : typeIn (K P) (.ref 415) = some (.type "function") := by kernel_rfl
theorem lk_TopFunctions_instead_of : (K P).lookup 422 = some (ko_422 P) := by kernel_rfl
theorem cd_TopFunctions_instead_of : codeIn (K P) (.ref 421) "TopFunctions.instead_of" = true := by kernel_rfl
theorem ke_TopFunctions_instead_of : keepIn (K P) (.ref 422) = true := by kernel_rfl
theorem fi_TopFunctions_instead_of : findIn (K P) (.ref 425) "instead_of" = some (some (.ref 422)) := by kernel_rfl
theorem ty_TopFunctions_instead_of : typeIn (K P) (.ref 422) = some (.type "function") := by kernel_rfl
theorem g__law_pool : nsIn (K P) mainGlobals "_law_pool" = some (some (.ref 436)) := by kernel_rfl
theorem lk__law_pool : (K P).lookup 436 = some (ko_436 P) := by kernel_rfl
theorem cd__law_pool : codeIn (K P) (.ref 435) "_law_pool" = true := by kernel_rfl
theorem ke__law_pool : keepIn (K P) (.ref 436) = true := by kernel_rfl
theorem g__law_take : nsIn (K P) mainGlobals "_law_take" = some (some (.ref 443)) := by kernel_rfl
theorem lk__law_take : (K P).lookup 443 = some (ko_443 P) := by kernel_rfl
theorem cd__law_take : codeIn (K P) (.ref 442) "_law_take" = true := by kernel_rfl
theorem ke__law_take : keepIn (K P) (.ref 443) = true := by kernel_rfl
theorem g__law_one : nsIn (K P) mainGlobals "_law_one" = some (some (.ref 450)) := by kernel_rfl
theorem lk__law_one : (K P).lookup 450 = some (ko_450 P) := by kernel_rfl
theorem cd__law_one : codeIn (K P) (.ref 449) "_law_one" = true := by kernel_rfl
theorem ke__law_one : keepIn (K P) (.ref 450) = true := by kernel_rfl
theorem g__law_body : nsIn (K P) mainGlobals "_law_body" = some (some (.ref 457)) := by kernel_rfl
theorem lk__law_body : (K P).lookup 457 = some (ko_457 P) := by kernel_rfl
theorem cd__law_body : codeIn (K P) (.ref 456) "_law_body" = true := by kernel_rfl
theorem ke__law_body : keepIn (K P) (.ref 457) = true := by kernel_rfl
theorem g__law_top : nsIn (K P) mainGlobals "_law_top" = some (some (.ref 462)) := by kernel_rfl
theorem lk__law_top : (K P).lookup 462 = some (ko_462 P) := by kernel_rfl
theorem cd__law_top : codeIn (K P) (.ref 461) "_law_top" = true := by kernel_rfl
theorem ke__law_top : keepIn (K P) (.ref 462) = true := by kernel_rfl
theorem g__law_named : nsIn (K P) mainGlobals "_law_named" = some (some (.ref 469)) := by kernel_rfl
theorem lk__law_named : (K P).lookup 469 = some (ko_469 P) := by kernel_rfl
theorem cd__law_named : codeIn (K P) (.ref 468) "_law_named" = true := by kernel_rfl
theorem ke__law_named : keepIn (K P) (.ref 469) = true := by kernel_rfl
theorem g__law_led : nsIn (K P) mainGlobals "_law_led" = some (some (.ref 476)) := by kernel_rfl
theorem lk__law_led : (K P).lookup 476 = some (ko_476 P) := by kernel_rfl
theorem cd__law_led : codeIn (K P) (.ref 475) "_law_led" = true := by kernel_rfl
theorem ke__law_led : keepIn (K P) (.ref 476) = true := by kernel_rfl
theorem g__law_many : nsIn (K P) mainGlobals "_law_many" = some (some (.ref 481)) := by kernel_rfl
theorem lk__law_many : (K P).lookup 481 = some (ko_481 P) := by kernel_rfl
theorem cd__law_many : codeIn (K P) (.ref 480) "_law_many" = true := by kernel_rfl
theorem ke__law_many : keepIn (K P) (.ref 481) = true := by kernel_rfl
theorem g_law : nsIn (K P) mainGlobals "law" = some (some (.ref 486)) := by kernel_rfl
theorem lk_law : (K P).lookup 486 = some (ko_486 P) := by kernel_rfl
theorem cd_law : codeIn (K P) (.ref 485) "law" = true := by kernel_rfl
theorem ke_law : keepIn (K P) (.ref 486) = true := by kernel_rfl
theorem g_Var : nsIn (K P) mainGlobals "Var" = some (some (.ref 66)) := by kernel_rfl
theorem ke_Var : keepIn (K P) (.ref 66) = true := by kernel_rfl
theorem ok_Var : ClsOk (K P) 66 := ⟨by kernel_rfl, by kernel_rfl, by kernel_rfl, by kernel_rfl, by kernel_rfl, by kernel_rfl, by kernel_rfl, by kernel_rfl, by kernel_rfl, by kernel_rfl⟩
theorem g_Lit : nsIn (K P) mainGlobals "Lit" = some (some (.ref 108)) := by kernel_rfl
theorem ke_Lit : keepIn (K P) (.ref 108) = true := by kernel_rfl
theorem ok_Lit : ClsOk (K P) 108 := ⟨by kernel_rfl, by kernel_rfl, by kernel_rfl, by kernel_rfl, by kernel_rfl, by kernel_rfl, by kernel_rfl, by kernel_rfl, by kernel_rfl, by kernel_rfl⟩
theorem g_App : nsIn (K P) mainGlobals "App" = some (some (.ref 148)) := by kernel_rfl
theorem ke_App : keepIn (K P) (.ref 148) = true := by kernel_rfl
theorem ok_App : ClsOk (K P) 148 := ⟨by kernel_rfl, by kernel_rfl, by kernel_rfl, by kernel_rfl, by kernel_rfl, by kernel_rfl, by kernel_rfl, by kernel_rfl, by kernel_rfl, by kernel_rfl⟩
theorem g_Lam : nsIn (K P) mainGlobals "Lam" = some (some (.ref 190)) := by kernel_rfl
theorem ke_Lam : keepIn (K P) (.ref 190) = true := by kernel_rfl
theorem ok_Lam : ClsOk (K P) 190 := ⟨by kernel_rfl, by kernel_rfl, by kernel_rfl, by kernel_rfl, by kernel_rfl, by kernel_rfl, by kernel_rfl, by kernel_rfl, by kernel_rfl, by kernel_rfl⟩
theorem g_Con : nsIn (K P) mainGlobals "Con" = some (some (.ref 230)) := by kernel_rfl
theorem ke_Con : keepIn (K P) (.ref 230) = true := by kernel_rfl
theorem ok_Con : ClsOk (K P) 230 := ⟨by kernel_rfl, by kernel_rfl, by kernel_rfl, by kernel_rfl, by kernel_rfl, by kernel_rfl, by kernel_rfl, by kernel_rfl, by kernel_rfl, by kernel_rfl⟩
theorem g_Prim : nsIn (K P) mainGlobals "Prim" = some (some (.ref 270)) := by kernel_rfl
theorem ke_Prim : keepIn (K P) (.ref 270) = true := by kernel_rfl
theorem ok_Prim : ClsOk (K P) 270 := ⟨by kernel_rfl, by kernel_rfl, by kernel_rfl, by kernel_rfl, by kernel_rfl, by kernel_rfl, by kernel_rfl, by kernel_rfl, by kernel_rfl, by kernel_rfl⟩
theorem g_Fresh : nsIn (K P) mainGlobals "Fresh" = some (some (.ref 314)) := by kernel_rfl
theorem ke_Fresh : keepIn (K P) (.ref 314) = true := by kernel_rfl
theorem ok_Fresh : ClsOk (K P) 314 := ⟨by kernel_rfl, by kernel_rfl, by kernel_rfl, by kernel_rfl, by kernel_rfl, by kernel_rfl, by kernel_rfl, by kernel_rfl, by kernel_rfl, by kernel_rfl⟩
theorem g_Walker : nsIn (K P) mainGlobals "Walker" = some (some (.ref 363)) := by kernel_rfl
theorem ke_Walker : keepIn (K P) (.ref 363) = true := by kernel_rfl
theorem ok_Walker : ClsOk (K P) 363 := ⟨by kernel_rfl, by kernel_rfl, by kernel_rfl, by kernel_rfl, by kernel_rfl, by kernel_rfl, by kernel_rfl, by kernel_rfl, by kernel_rfl, by kernel_rfl⟩
theorem g_TopFunctions : nsIn (K P) mainGlobals "TopFunctions" = some (some (.ref 425)) := by kernel_rfl
theorem ke_TopFunctions : keepIn (K P) (.ref 425) = true := by kernel_rfl
theorem ok_TopFunctions : ClsOk (K P) 425 := ⟨by kernel_rfl, by kernel_rfl, by kernel_rfl, by kernel_rfl, by kernel_rfl, by kernel_rfl, by kernel_rfl, by kernel_rfl, by kernel_rfl, by kernel_rfl⟩
theorem na_Var_name : findIn (K P) (.ref 66) "name" = some none := by kernel_rfl
theorem ta_Var_name : takerIn (K P) 66 "name" = some none := by kernel_rfl
theorem na_Lit_kind : findIn (K P) (.ref 108) "kind" = some none := by kernel_rfl
theorem ta_Lit_kind : takerIn (K P) 108 "kind" = some none := by kernel_rfl
theorem na_Lit_value : findIn (K P) (.ref 108) "value" = some none := by kernel_rfl
theorem ta_Lit_value : takerIn (K P) 108 "value" = some none := by kernel_rfl
theorem na_App_fun : findIn (K P) (.ref 148) "fun" = some none := by kernel_rfl
theorem ta_App_fun : takerIn (K P) 148 "fun" = some none := by kernel_rfl
theorem na_App_args : findIn (K P) (.ref 148) "args" = some none := by kernel_rfl
theorem ta_App_args : takerIn (K P) 148 "args" = some none := by kernel_rfl
theorem na_Lam_params : findIn (K P) (.ref 190) "params" = some none := by kernel_rfl
theorem ta_Lam_params : takerIn (K P) 190 "params" = some none := by kernel_rfl
theorem na_Lam_body : findIn (K P) (.ref 190) "body" = some none := by kernel_rfl
theorem ta_Lam_body : takerIn (K P) 190 "body" = some none := by kernel_rfl
theorem na_Con_name : findIn (K P) (.ref 230) "name" = some none := by kernel_rfl
theorem ta_Con_name : takerIn (K P) 230 "name" = some none := by kernel_rfl
theorem na_Con_args : findIn (K P) (.ref 230) "args" = some none := by kernel_rfl
theorem ta_Con_args : takerIn (K P) 230 "args" = some none := by kernel_rfl
theorem na_Prim_op : findIn (K P) (.ref 270) "op" = some none := by kernel_rfl
theorem ta_Prim_op : takerIn (K P) 270 "op" = some none := by kernel_rfl
theorem na_Prim_args : findIn (K P) (.ref 270) "args" = some none := by kernel_rfl
theorem ta_Prim_args : takerIn (K P) 270 "args" = some none := by kernel_rfl
theorem na_Fresh_avoided : findIn (K P) (.ref 314) "avoided" = some none := by kernel_rfl
theorem ta_Fresh_avoided : takerIn (K P) 314 "avoided" = some none := by kernel_rfl
theorem na_Fresh_numbers : findIn (K P) (.ref 314) "numbers" = some none := by kernel_rfl
theorem ta_Fresh_numbers : takerIn (K P) 314 "numbers" = some none := by kernel_rfl
theorem na_Walker_uses : findIn (K P) (.ref 363) "uses" = some none := by kernel_rfl
theorem ta_Walker_uses : takerIn (K P) 363 "uses" = some none := by kernel_rfl
theorem na_Walker_numbers : findIn (K P) (.ref 363) "numbers" = some none := by kernel_rfl
theorem ta_Walker_numbers : takerIn (K P) 363 "numbers" = some none := by kernel_rfl
theorem na_Walker_lows : findIn (K P) (.ref 363) "lows" = some none := by kernel_rfl
theorem ta_Walker_lows : takerIn (K P) 363 "lows" = some none := by kernel_rfl
theorem na_Walker_open : findIn (K P) (.ref 363) "open" = some none := by kernel_rfl
theorem ta_Walker_open : takerIn (K P) 363 "open" = some none := by kernel_rfl
theorem na_Walker_is_open : findIn (K P) (.ref 363) "is_open" = some none := by kernel_rfl
theorem ta_Walker_is_open : takerIn (K P) 363 "is_open" = some none := by kernel_rfl
theorem na_Walker_found : findIn (K P) (.ref 363) "found" = some none := by kernel_rfl
theorem ta_Walker_found : takerIn (K P) 363 "found" = some none := by kernel_rfl
theorem na_TopFunctions_rows : findIn (K P) (.ref 425) "rows" = some none := by kernel_rfl
theorem ta_TopFunctions_rows : takerIn (K P) 425 "rows" = some none := by kernel_rfl
theorem io_Var_Var : kitOne (K P) (.ref 66) (.ref 66) = some true := by kernel_rfl
theorem io_Var_App : kitOne (K P) (.ref 66) (.ref 148) = some false := by kernel_rfl
theorem io_Var_Lam : kitOne (K P) (.ref 66) (.ref 190) = some false := by kernel_rfl
theorem io_Var_Con : kitOne (K P) (.ref 66) (.ref 230) = some false := by kernel_rfl
theorem iv_Var : kitAny (K P) (.ref 66) [.ref 66, .ref 108] = some true := by kernel_rfl
theorem il_Var : kitAny (K P) (.ref 66) [.ref 108, .ref 66] = some true := by kernel_rfl
theorem io_Lit_Var : kitOne (K P) (.ref 108) (.ref 66) = some false := by kernel_rfl
theorem io_Lit_App : kitOne (K P) (.ref 108) (.ref 148) = some false := by kernel_rfl
theorem io_Lit_Lam : kitOne (K P) (.ref 108) (.ref 190) = some false := by kernel_rfl
theorem io_Lit_Con : kitOne (K P) (.ref 108) (.ref 230) = some false := by kernel_rfl
theorem iv_Lit : kitAny (K P) (.ref 108) [.ref 66, .ref 108] = some true := by kernel_rfl
theorem il_Lit : kitAny (K P) (.ref 108) [.ref 108, .ref 66] = some true := by kernel_rfl
theorem io_App_Var : kitOne (K P) (.ref 148) (.ref 66) = some false := by kernel_rfl
theorem io_App_App : kitOne (K P) (.ref 148) (.ref 148) = some true := by kernel_rfl
theorem io_App_Lam : kitOne (K P) (.ref 148) (.ref 190) = some false := by kernel_rfl
theorem io_App_Con : kitOne (K P) (.ref 148) (.ref 230) = some false := by kernel_rfl
theorem iv_App : kitAny (K P) (.ref 148) [.ref 66, .ref 108] = some false := by kernel_rfl
theorem il_App : kitAny (K P) (.ref 148) [.ref 108, .ref 66] = some false := by kernel_rfl
theorem io_Lam_Var : kitOne (K P) (.ref 190) (.ref 66) = some false := by kernel_rfl
theorem io_Lam_App : kitOne (K P) (.ref 190) (.ref 148) = some false := by kernel_rfl
theorem io_Lam_Lam : kitOne (K P) (.ref 190) (.ref 190) = some true := by kernel_rfl
theorem io_Lam_Con : kitOne (K P) (.ref 190) (.ref 230) = some false := by kernel_rfl
theorem iv_Lam : kitAny (K P) (.ref 190) [.ref 66, .ref 108] = some false := by kernel_rfl
theorem il_Lam : kitAny (K P) (.ref 190) [.ref 108, .ref 66] = some false := by kernel_rfl
theorem io_Con_Var : kitOne (K P) (.ref 230) (.ref 66) = some false := by kernel_rfl
theorem io_Con_App : kitOne (K P) (.ref 230) (.ref 148) = some false := by kernel_rfl
theorem io_Con_Lam : kitOne (K P) (.ref 230) (.ref 190) = some false := by kernel_rfl
theorem io_Con_Con : kitOne (K P) (.ref 230) (.ref 230) = some true := by kernel_rfl
theorem iv_Con : kitAny (K P) (.ref 230) [.ref 66, .ref 108] = some false := by kernel_rfl
theorem il_Con : kitAny (K P) (.ref 230) [.ref 108, .ref 66] = some false := by kernel_rfl
theorem io_Prim_Var : kitOne (K P) (.ref 270) (.ref 66) = some false := by kernel_rfl
theorem io_Prim_App : kitOne (K P) (.ref 270) (.ref 148) = some false := by kernel_rfl
theorem io_Prim_Lam : kitOne (K P) (.ref 270) (.ref 190) = some false := by kernel_rfl
theorem io_Prim_Con : kitOne (K P) (.ref 270) (.ref 230) = some false := by kernel_rfl
theorem iv_Prim : kitAny (K P) (.ref 270) [.ref 66, .ref 108] = some false := by kernel_rfl
theorem il_Prim : kitAny (K P) (.ref 270) [.ref 108, .ref 66] = some false := by kernel_rfl
theorem io_None_Lam : kitOne (K P) (.type "NoneType") (.ref 190) = some false := by kernel_rfl
theorem gn_len : nsIn (K P) mainGlobals "len" = some none := by kernel_rfl
theorem bb_len : bootBuiltins "len" = some (.builtin "len") := by kernel_rfl
theorem gn_sorted : nsIn (K P) mainGlobals "sorted" = some none := by kernel_rfl
theorem bb_sorted : bootBuiltins "sorted" = some (.builtin "sorted") := by kernel_rfl
theorem gn_isinstance : nsIn (K P) mainGlobals "isinstance" = some none := by kernel_rfl
theorem bb_isinstance : bootBuiltins "isinstance" = some (.builtin "isinstance") := by kernel_rfl
theorem gn_all : nsIn (K P) mainGlobals "all" = some none := by kernel_rfl
theorem bb_all : bootBuiltins "all" = some (.builtin "all") := by kernel_rfl
theorem gn_sum : nsIn (K P) mainGlobals "sum" = some none := by kernel_rfl
theorem bb_sum : bootBuiltins "sum" = some (.builtin "sum") := by kernel_rfl
theorem gn_max : nsIn (K P) mainGlobals "max" = some none := by kernel_rfl
theorem bb_max : bootBuiltins "max" = some (.builtin "max") := by kernel_rfl
theorem gn_min : nsIn (K P) mainGlobals "min" = some none := by kernel_rfl
theorem bb_min : bootBuiltins "min" = some (.builtin "min") := by kernel_rfl
theorem gn_int : nsIn (K P) mainGlobals "int" = some none := by kernel_rfl
theorem bb_int : bootBuiltins "int" = some (.type "int") := by kernel_rfl
theorem gn_str : nsIn (K P) mainGlobals "str" = some none := by kernel_rfl
theorem bb_str : bootBuiltins "str" = some (.type "str") := by kernel_rfl
theorem gn_dict : nsIn (K P) mainGlobals "dict" = some none := by kernel_rfl
theorem bb_dict : bootBuiltins "dict" = some (.type "dict") := by kernel_rfl
theorem gn_range : nsIn (K P) mainGlobals "range" = some none := by kernel_rfl
theorem bb_range : bootBuiltins "range" = some (.type "range") := by kernel_rfl
end
end Mine
end
section
-- F2
set_option maxRecDepth 100000
set_option maxHeartbeats 400000
set_option autoImplicit false
set_option linter.unusedVariables false
namespace Mine
open PySem PySem.W PySem.Calls PyProof.Rows
section
variable {w : World} {h₀ : Heap} {n : Nat} {mem : Mem} {Q : Value → Mem → Prop}
theorem init_Var {a : Addr} {v : Value} (ha : mem a = some (.inst 66 [])) (h : Q .none (upd mem a (.inst 66 [("name", v)]))) : CodeCal (cx w h₀) (n + 1) 42 [.ref a, v] mem Q := by
  refine code_fn ["self", "name"] lk_Var_init cd_Var_init rfl (vals2 fun _ _ => by kernel_rfl) (by kernel_rfl) (by kernel_rfl) ?_
  generalize hf : (⟨(methDef 4 0).2.2, true⟩ : Fs) = f
  have nl0 : isL f "self" := by rw [← hf]; kernel_rfl
  have nl1 : isL f "name" := by rw [← hf]; kernel_rfl
  clear hf
  (walk_at "GO")
  refine seta_inst ok_Var ha ta_Var_name (by simp) ?_
  exact sts_nil h
theorem init_Lit {a : Addr} {u v : Value} (ha : mem a = some (.inst 108 [])) (h : Q .none (upd mem a (.inst 108 [("value", v), ("kind", u)]))) : CodeCal (cx w h₀) (n + 1) 84 [.ref a, u, v] mem Q := by
  refine code_fn ["self", "kind", "value"] lk_Lit_init cd_Lit_init rfl (vals3 fun _ _ _ => by kernel_rfl) (by kernel_rfl) (by kernel_rfl) ?_
  generalize hf : (⟨(methDef 5 0).2.2, true⟩ : Fs) = f
  have nl0 : isL f "self" := by rw [← hf]; kernel_rfl
  have nl1 : isL f "kind" := by rw [← hf]; kernel_rfl
  have nl2 : isL f "value" := by rw [← hf]; kernel_rfl
  clear hf
  (walk_at "GO")
  refine seta_inst ok_Lit ha ta_Lit_kind (by simp) ?_
  (walk_at "GO")
  refine seta_inst ok_Lit upd_same ta_Lit_value (by simp) ?_
  rw [upd_upd]
  exact sts_nil h
theorem init_App {a : Addr} {u v : Value} (ha : mem a = some (.inst 148 [])) (h : Q .none (upd mem a (.inst 148 [("args", v), ("fun", u)]))) : CodeCal (cx w h₀) (n + 1) 126 [.ref a, u, v] mem Q := by
  refine code_fn ["self", "fun", "args"] lk_App_init cd_App_init rfl (vals3 fun _ _ _ => by kernel_rfl) (by kernel_rfl) (by kernel_rfl) ?_
  generalize hf : (⟨(methDef 6 0).2.2, true⟩ : Fs) = f
  have nl0 : isL f "self" := by rw [← hf]; kernel_rfl
  have nl1 : isL f "fun" := by rw [← hf]; kernel_rfl
  have nl2 : isL f "args" := by rw [← hf]; kernel_rfl
  clear hf
  (walk_at "GO")
  refine seta_inst ok_App ha ta_App_fun (by simp) ?_
  (walk_at "GO")
  refine seta_inst ok_App upd_same ta_App_args (by simp) ?_
  rw [upd_upd]
  exact sts_nil h
theorem init_Lam {a : Addr} {u v : Value} (ha : mem a = some (.inst 190 [])) (h : Q .none (upd mem a (.inst 190 [("body", v), ("params", u)]))) : CodeCal (cx w h₀) (n + 1) 166 [.ref a, u, v] mem Q := by
  refine code_fn ["self", "params", "body"] lk_Lam_init cd_Lam_init rfl (vals3 fun _ _ _ => by kernel_rfl) (by kernel_rfl) (by kernel_rfl) ?_
  generalize hf : (⟨(methDef 7 0).2.2, true⟩ : Fs) = f
  have nl0 : isL f "self" := by rw [← hf]; kernel_rfl
  have nl1 : isL f "params" := by rw [← hf]; kernel_rfl
  have nl2 : isL f "body" := by rw [← hf]; kernel_rfl
  clear hf
  (walk_at "GO")
  refine seta_inst ok_Lam ha ta_Lam_params (by simp) ?_
  (walk_at "GO")
  refine seta_inst ok_Lam upd_same ta_Lam_body (by simp) ?_
  rw [upd_upd]
  exact sts_nil h
theorem init_Con {a : Addr} {u v : Value} (ha : mem a = some (.inst 230 [])) (h : Q .none (upd mem a (.inst 230 [("args", v), ("name", u)]))) : CodeCal (cx w h₀) (n + 1) 208 [.ref a, u, v] mem Q := by
  refine code_fn ["self", "name", "args"] lk_Con_init cd_Con_init rfl (vals3 fun _ _ _ => by kernel_rfl) (by kernel_rfl) (by kernel_rfl) ?_
  generalize hf : (⟨(methDef 8 0).2.2, true⟩ : Fs) = f
  have nl0 : isL f "self" := by rw [← hf]; kernel_rfl
  have nl1 : isL f "name" := by rw [← hf]; kernel_rfl
  have nl2 : isL f "args" := by rw [← hf]; kernel_rfl
  clear hf
  (walk_at "GO")
  refine seta_inst ok_Con ha ta_Con_name (by simp) ?_
  (walk_at "GO")
  refine seta_inst ok_Con upd_same ta_Con_args (by simp) ?_
  rw [upd_upd]
  exact sts_nil h
theorem init_Prim {a : Addr} {u v : Value} (ha : mem a = some (.inst 270 [])) (h : Q .none (upd mem a (.inst 270 [("args", v), ("op", u)]))) : CodeCal (cx w h₀) (n + 1) 248 [.ref a, u, v] mem Q := by
  refine code_fn ["self", "op", "args"] lk_Prim_init cd_Prim_init rfl (vals3 fun _ _ _ => by kernel_rfl) (by kernel_rfl) (by kernel_rfl) ?_
  generalize hf : (⟨(methDef 9 0).2.2, true⟩ : Fs) = f
  have nl0 : isL f "self" := by rw [← hf]; kernel_rfl
  have nl1 : isL f "op" := by rw [← hf]; kernel_rfl
  have nl2 : isL f "args" := by rw [← hf]; kernel_rfl
  clear hf
  (walk_at "GO")
  refine seta_inst ok_Prim ha ta_Prim_op (by simp) ?_
  (walk_at "GO")
  refine seta_inst ok_Prim upd_same ta_Prim_args (by simp) ?_
  rw [upd_upd]
  exact sts_nil h
/-- what a creation adds -/
theorem made_grow {a d : Addr} {o : AO} (h1 : mem a = none) (h2 : mem d = none) (h3 : a ≠ d) : Grow mem (upd (upd (upd mem d (.own a)) a (.inst 0 [])) a o) := by grind [upd, Grow]
theorem new_Var {v : Value} (h : ∀ a m', mem a = none → Grow mem m' → m' a = some (.inst 66 [("name", v)]) → Q (.ref a) m') : Cal (cx w h₀) (n + 2) (.ref 66) [v] mem Q :=
  (code_class ok_Var fi_Var_init ty_Var_init fun a d h1 h2 h3 => init_Var upd_same ⟨rfl, h a _ h1 (by grind [upd, Grow]) upd_same⟩).cal
theorem new_Lit {u v : Value} (h : ∀ a m', mem a = none → Grow mem m' → m' a = some (.inst 108 [("value", v), ("kind", u)]) → Q (.ref a) m') : Cal (cx w h₀) (n + 2) (.ref 108) [u, v] mem Q :=
  (code_class ok_Lit fi_Lit_init ty_Lit_init fun a d h1 h2 h3 => init_Lit upd_same ⟨rfl, h a _ h1 (by grind [upd, Grow]) upd_same⟩).cal
theorem new_App {u v : Value} (h : ∀ a m', mem a = none → Grow mem m' → m' a = some (.inst 148 [("args", v), ("fun", u)]) → Q (.ref a) m') : Cal (cx w h₀) (n + 2) (.ref 148) [u, v] mem Q :=
  (code_class ok_App fi_App_init ty_App_init fun a d h1 h2 h3 => init_App upd_same ⟨rfl, h a _ h1 (by grind [upd, Grow]) upd_same⟩).cal
theorem new_Lam {u v : Value} (h : ∀ a m', mem a = none → Grow mem m' → m' a = some (.inst 190 [("body", v), ("params", u)]) → Q (.ref a) m') : Cal (cx w h₀) (n + 2) (.ref 190) [u, v] mem Q :=
  (code_class ok_Lam fi_Lam_init ty_Lam_init fun a d h1 h2 h3 => init_Lam upd_same ⟨rfl, h a _ h1 (by grind [upd, Grow]) upd_same⟩).cal
theorem new_Con {u v : Value} (h : ∀ a m', mem a = none → Grow mem m' → m' a = some (.inst 230 [("args", v), ("name", u)]) → Q (.ref a) m') : Cal (cx w h₀) (n + 2) (.ref 230) [u, v] mem Q :=
  (code_class ok_Con fi_Con_init ty_Con_init fun a d h1 h2 h3 => init_Con upd_same ⟨rfl, h a _ h1 (by grind [upd, Grow]) upd_same⟩).cal
theorem new_Prim {u v : Value} (h : ∀ a m', mem a = none → Grow mem m' → m' a = some (.inst 270 [("args", v), ("op", u)]) → Q (.ref a) m') : Cal (cx w h₀) (n + 2) (.ref 270) [u, v] mem Q :=
  (code_class ok_Prim fi_Prim_init ty_Prim_init fun a d h1 h2 h3 => init_Prim upd_same ⟨rfl, h a _ h1 (by grind [upd, Grow]) upd_same⟩).cal
end
end Mine
end
section
-- F3
set_option maxRecDepth 100000
set_option maxHeartbeats 400000
set_option autoImplicit false
set_option linter.unusedVariables false
namespace Mine
open PySem PySem.W PySem.Calls PyProof.Rows
/-- expressions, as far as the program sees them -/
inductive Kd where
  | var (x : Str)
  | lit
  | app
  | lam (ps : List Str)
  | con
  | prim
inductive Ex where
  | node (k : Kd) (ps : List Ex)
noncomputable def clsOf : Kd → Addr
  | .var _ => 66
  | .lit => 108
  | .app => 148
  | .lam _ => 190
  | .con => 230
  | .prim => 270
noncomputable abbrev fld (fs : Loc) (x : Str) : Option Value := fs.lookup x
noncomputable abbrev refs (bs : List Addr) : List Value := bs.map .ref
/-- an object of the kind k with these parts -/
noncomputable def ExNode (m : Mem) (a : Addr) (k : Kd) (bs : List Addr) : Prop := ∃ fs, m a = some (.inst (clsOf k) fs) ∧ fld fs "parts" = none ∧ match k with
  | .var x => fld fs "name" = some (.str x 0) ∧ bs = []
  | .lit => bs = []
  | .app => ∃ b r l, bs = b :: r ∧ fld fs "fun" = some (.ref b) ∧ fld fs "args" = some (.ref l) ∧ m l = some (.list (refs r))
  | .lam ps => ∃ b l, bs = [b] ∧ fld fs "body" = some (.ref b) ∧ fld fs "params" = some (.ref l) ∧ m l = some (.list (sL ps))
  | .con => ∃ l, fld fs "args" = some (.ref l) ∧ m l = some (.list (refs bs))
  | .prim => ∃ l, fld fs "args" = some (.ref l) ∧ m l = some (.list (refs bs))
theorem ExNode.grow {m m' : Mem} {a : Addr} {k : Kd} {bs : List Addr} (x : ExNode m a k bs) (g : Grow m m') : ExNode m' a k bs := by
  obtain ⟨fs, h1, h2, h3⟩ := x
  refine ⟨fs, g _ _ h1, h2, ?_⟩
  cases k with
  | var x => exact h3
  | lit => exact h3
  | app => obtain ⟨b, r, l, q1, q2, q3, q4⟩ := h3; exact ⟨b, r, l, q1, q2, q3, g _ _ q4⟩
  | lam ps => obtain ⟨b, l, q1, q2, q3, q4⟩ := h3; exact ⟨b, l, q1, q2, q3, g _ _ q4⟩
  | con => obtain ⟨l, q1, q2⟩ := h3; exact ⟨l, q1, g _ _ q2⟩
  | prim => obtain ⟨l, q1, q2⟩ := h3; exact ⟨l, q1, g _ _ q2⟩
mutual
inductive ExAt (m : Mem) : Addr → Ex → Prop
  | mk {a : Addr} {k : Kd} {bs : List Addr} {ps : List Ex} (h : ExNode m a k bs) (hs : ExsAt m bs ps) : ExAt m a (.node k ps)
inductive ExsAt (m : Mem) : List Addr → List Ex → Prop
  | nil : ExsAt m [] []
  | cons {b : Addr} {bs : List Addr} {e : Ex} {es : List Ex} (h : ExAt m b e) (hs : ExsAt m bs es) : ExsAt m (b :: bs) (e :: es)
end
mutual
theorem ExAt.grow {m m' : Mem} (g : Grow m m') : ∀ {a : Addr} {e : Ex}, ExAt m a e → ExAt m' a e
  | _, _, .mk h hs => .mk (h.grow g) (ExsAt.grow g hs)
theorem ExsAt.grow {m m' : Mem} (g : Grow m m') : ∀ {bs : List Addr} {es : List Ex}, ExsAt m bs es → ExsAt m' bs es
  | _, _, .nil => .nil
  | _, _, .cons h hs => .cons (ExAt.grow g h) (ExsAt.grow g hs)
end
theorem ExsAt.length {m : Mem} : ∀ {bs : List Addr} {es : List Ex}, ExsAt m bs es → bs.length = es.length
  | _, _, .nil => rfl
  | _, _, .cons _ hs => by simp [hs.length]
theorem ExsAt.at {m : Mem} : ∀ {bs : List Addr} {es : List Ex}, ExsAt m bs es → ∀ {i : Nat} {b : Addr}, bs[i]? = some b → ∃ e, es[i]? = some e ∧ ExAt m b e
  | _, _, .nil, i, b, h => by cases h
  | _, _, .cons h hs, 0, b, q => by cases q; exact ⟨_, rfl, h⟩
  | _, _, .cons h hs, i + 1, b, q => hs.at (i := i) q
/-- a list of pairs (part, scope) -/
noncomputable def PartsAt (m : Mem) (r : Addr) (bs : List Addr) : Prop := ∃ ts : List Addr, m r = some (.list (refs ts)) ∧ ts.length = bs.length ∧ ∀ (i : Nat) (t b : Addr), ts[i]? = some t → bs[i]? = some b → ∃ s, m t = some (.tup [.ref b, s])
theorem PartsAt.grow {m m' : Mem} {r : Addr} {bs : List Addr} (x : PartsAt m r bs) (g : Grow m m') : PartsAt m' r bs :=
  let ⟨ts, h1, h2, h3⟩ := x; ⟨ts, g _ _ h1, h2, fun i t b q1 q2 => let ⟨s, e⟩ := h3 i t b q1 q2; ⟨s, g _ _ e⟩⟩
section
variable {c : Cx} {n : Nat} {f : Fs} {ρ : Loc} {mem : Mem}
theorem comp_local {scope : Scope} {x : Str} (h : scope.names.lookup x = some .local) : isL (compFs scope f) x := lookup_relabel_local h
theorem ev_parts {p1 p2 p3 p4 pos : Pos} {k k' : Nat} {iter : Expr} {scope : Scope} {Q : Value → Mem → Prop} (hok : compOk scope f.sc = true) (hx : scope.names.lookup (Str.ofString "arg") = some .local)
    (h : Ev c n f ρ iter mem (fun v m₁ => ∃ l bs, v = .ref l ∧ m₁ l = some (.list (refs bs)) ∧ bs.length ≤ 1000 ∧ ∀ D m, m₁ D = none → Grow m₁ m → PartsAt m D bs → Q (.ref D) m))
    (hs : ∀ env x, foldedSetIterable iter env x = pure x := by intro _ _; rfl) :
    Ev c n f ρ (.ListComp (.Tuple [.Name "arg" p1, .Tuple [] k p2] k' p3) [⟨.Name "arg" p4, iter, [], 0⟩] scope pos) mem Q := by
  have hl : isL (compFs scope f) "arg" := comp_local hx
  refine ev_comp [] hok (fun p hp => by cases hp) (h.mono ?_) hs
  rintro v m₁ ⟨l, bs, rfl, h1, h2, h3⟩
  refine ⟨_, _, .inl ⟨l, rfl, .inl h1, rfl⟩, fun i out D m => Grow m₁ m ∧ m₁ D = none ∧ i ≤ bs.length ∧ ∃ ts : List Addr, out = refs ts ∧ m D = some (.list (refs ts)) ∧ ts.length = i ∧ ∀ (j : Nat) (t b : Addr), ts[j]? = some t → bs[j]? = some b → ∃ s, m t = some (.tup [.ref b, s]), ?_, ?_, ?_, ?_⟩
  · intro D hD
    exact ⟨Grow.upd hD, hD, Nat.zero_le _, [], rfl, upd_same, rfl, fun j t b q => by cases q⟩
  · rintro i out D m ⟨g, hD, hi, ts, rfl, hm, hl', hts⟩
    exact ⟨.inl (g _ _ h1), hm, by simp [hl']; omega⟩
  · rintro i x out D m hx' ⟨g, hD, hi, ts, rfl, hm, hl', hts⟩
    rw [List.getElem?_map] at hx'
    obtain ⟨b, hb, rfl⟩ := Option.map_eq_some_iff.mp hx'
    have hib : i < bs.length := (List.getElem?_eq_some_iff.mp hb).1
    refine as_name (sto_local hl (ifs_nil ?_))
    rw [if_pos rfl]
    refine ev_tuple (evs_cons (ev_local rfl hl (evs_cons (ev_tuple (evs_nil ⟨by simp, fun t' ht' => ?_⟩)) (by rfl))) (by rfl))
    refine evs_nil ⟨by simp, fun t ht => ?_⟩
    have htD : t ≠ D := by rintro rfl; rw [upd_ne (by rintro rfl; rw [hm] at ht'; cases ht')] at ht; rw [hm] at ht; cases ht
    have hD' : upd (upd m t' (.tup [])) t (.tup [.ref b, .ref t']) D = some (.list (refs ts)) := by grind [upd]
    refine ⟨hD', ?_, hD, hib, ts ++ [t], by simp, by rw [upd_same]; simp, by simp [hl'], fun j u b' q1 q2 => ?_⟩
    · refine Grow.set ?_ hD
      exact (g.trans (Grow.upd ht')).trans (Grow.upd ht)
    · by_cases hj : j < ts.length
      · rw [List.getElem?_append_left hj] at q1
        obtain ⟨s, hs'⟩ := hts j u b' q1 q2
        exact ⟨s, by grind [upd]⟩
      · have : j = ts.length := by
          have := (List.getElem?_eq_some_iff.mp q1).1
          simp at this; omega
        subst this
        simp at q1
        subst q1
        rw [hl', hb] at q2; cases q2
        exact ⟨.ref t', by grind [upd]⟩
  · rintro D out m ⟨g, hD, _, ts, rfl, hm, hl', hts⟩
    exact h3 D m hD g ⟨ts, hm, by simpa [refs] using hl', hts⟩
end
end Mine
end
section
-- F4
set_option maxRecDepth 100000
set_option maxHeartbeats 400000
set_option autoImplicit false
set_option linter.unusedVariables false
namespace Mine
open PySem PySem.W PySem.Calls PyProof.Rows
section
variable {w : World} {h₀ : Heap} {n : Nat} {mem : Mem} {Q : Value → Mem → Prop}
theorem parts_none {a : Addr} (h : ∀ r m', mem r = none → Grow mem m' → PartsAt m' r [] → Q (.ref r) m') : (∀ r, mem r = none → Q (.ref r) (upd mem r (.list []))) := fun r hr =>
  h r _ hr (Grow.upd hr) ⟨[], upd_same, rfl, fun i t b q => by cases q⟩
theorem parts_Var {a : Addr} (h : ∀ r m', mem r = none → Grow mem m' → PartsAt m' r [] → Q (.ref r) m') : CodeCal (cx w h₀) (n + 1) 56 [.ref a] mem Q := by
  refine code_fn ["self"] lk_Var_parts cd_Var_parts rfl (vals1 fun _ => by kernel_rfl) (by kernel_rfl) (by kernel_rfl) ?_
  generalize hf : (⟨(methDef 4 2).2.2, true⟩ : Fs) = f
  have nl0 : isL f "self" := by rw [← hf]; kernel_rfl
  clear hf
  (walk_at "GO")
  exact ev_list (evs_nil ⟨by simp, parts_none (a := a) h⟩)
theorem parts_Lit {a : Addr} (h : ∀ r m', mem r = none → Grow mem m' → PartsAt m' r [] → Q (.ref r) m') : CodeCal (cx w h₀) (n + 1) 98 [.ref a] mem Q := by
  refine code_fn ["self"] lk_Lit_parts cd_Lit_parts rfl (vals1 fun _ => by kernel_rfl) (by kernel_rfl) (by kernel_rfl) ?_
  generalize hf : (⟨(methDef 5 2).2.2, true⟩ : Fs) = f
  have nl0 : isL f "self" := by rw [← hf]; kernel_rfl
  clear hf
  (walk_at "GO")
  exact ev_list (evs_nil ⟨by simp, parts_none (a := a) h⟩)
theorem parts_Con {a l : Addr} {bs : List Addr} {fs : Loc} (ha : mem a = some (.inst 230 fs)) (hf : fld fs "args" = some (.ref l)) (hl : mem l = some (.list (refs bs))) (hb : bs.length ≤ 1000)
    (h : ∀ r m', mem r = none → Grow mem m' → PartsAt m' r bs → Q (.ref r) m') : CodeCal (cx w h₀) (n + 1) 220 [.ref a] mem Q := by
  refine code_fn ["self"] lk_Con_parts cd_Con_parts rfl (vals1 fun _ => by kernel_rfl) (by kernel_rfl) (by kernel_rfl) ?_
  generalize hf : (⟨(methDef 8 2).2.2, true⟩ : Fs) = f
  have nl0 : isL f "self" := by rw [← hf]; kernel_rfl
  clear hf
  (walk_at "GO")
  refine ev_parts (by kernel_rfl) (by kernel_rfl) ?_
  refine ev_attr (ev_local rfl (by assumption) ?_)
  exact geta_inst ok_Con ha hf (fun i q => by cases q) na_Con_args ⟨l, bs, rfl, hl, hb, fun D m hD g x => h D m hD g x⟩
theorem parts_Prim {a l : Addr} {bs : List Addr} {fs : Loc} (ha : mem a = some (.inst 270 fs)) (hf : fld fs "args" = some (.ref l)) (hl : mem l = some (.list (refs bs))) (hb : bs.length ≤ 1000)
    (h : ∀ r m', mem r = none → Grow mem m' → PartsAt m' r bs → Q (.ref r) m') : CodeCal (cx w h₀) (n + 1) 260 [.ref a] mem Q := by
  refine code_fn ["self"] lk_Prim_parts cd_Prim_parts rfl (vals1 fun _ => by kernel_rfl) (by kernel_rfl) (by kernel_rfl) ?_
  generalize hf : (⟨(methDef 9 2).2.2, true⟩ : Fs) = f
  have nl0 : isL f "self" := by rw [← hf]; kernel_rfl
  clear hf
  (walk_at "GO")
  refine ev_parts (by kernel_rfl) (by kernel_rfl) ?_
  refine ev_attr (ev_local rfl (by assumption) ?_)
  exact geta_inst ok_Prim ha hf (fun i q => by cases q) na_Prim_args ⟨l, bs, rfl, hl, hb, fun D m hD g x => h D m hD g x⟩
theorem parts_Lam {a b : Addr} {fs : Loc} (ha : mem a = some (.inst 190 fs)) (hf : fld fs "body" = some (.ref b))
    (h : ∀ r m', mem r = none → Grow mem m' → PartsAt m' r [b] → Q (.ref r) m') : CodeCal (cx w h₀) (n + 1) 180 [.ref a] mem Q := by
  refine code_fn ["self"] lk_Lam_parts cd_Lam_parts rfl (vals1 fun _ => by kernel_rfl) (by kernel_rfl) (by kernel_rfl) ?_
  generalize hf : (⟨(methDef 7 2).2.2, true⟩ : Fs) = f
  have nl0 : isL f "self" := by rw [← hf]; kernel_rfl
  clear hf
  (walk_at "GO")
  refine ev_list (evs_cons (ev_tuple (evs_cons (ev_attr (ev_local rfl (by assumption) ?_)) rfl)) rfl)
  refine geta_inst ok_Lam ha hf (fun i q => by cases q) na_Lam_body ?_
  refine evs_cons (ev_tuple (evs_cons (ev_int (evs_nil ⟨by simp, fun t' h1 => ?_⟩)) rfl)) rfl
  refine evs_nil ⟨by simp, fun t h2 => evs_nil ⟨by simp, fun r h3 => ?_⟩⟩
  refine h r _ (by grind [upd]) (by grind [upd, Grow]) ⟨[t], upd_same, rfl, fun i u b' q1 q2 => ?_⟩
  cases i with
  | zero => cases q1; cases q2; exact ⟨.ref t', by grind [upd]⟩
  | succ i => cases q1
theorem parts_App {a b l : Addr} {bs : List Addr} {fs : Loc} (ha : mem a = some (.inst 148 fs)) (hf : fld fs "fun" = some (.ref b)) (hg : fld fs "args" = some (.ref l)) (hl : mem l = some (.list (refs bs))) (hb : bs.length ≤ 1000)
    (h : ∀ r m', mem r = none → Grow mem m' → PartsAt m' r (b :: bs) → Q (.ref r) m') : CodeCal (cx w h₀) (n + 1) 138 [.ref a] mem Q := by
  refine code_fn ["self"] lk_App_parts cd_App_parts rfl (vals1 fun _ => by kernel_rfl) (by kernel_rfl) (by kernel_rfl) ?_
  generalize hf : (⟨(methDef 6 2).2.2, true⟩ : Fs) = f
  have nl0 : isL f "self" := by rw [← hf]; kernel_rfl
  clear hf
  (walk_at "GO")
  refine ev_list (evs_cons (ev_tuple (evs_cons (ev_attr (ev_local rfl (by assumption) ?_)) rfl)) rfl)
  refine geta_inst ok_App ha hf (fun i q => by cases q) na_App_fun ?_
  refine evs_cons (ev_tuple (evs_nil ⟨by simp, fun t' h1 => ?_⟩)) rfl
  refine evs_nil ⟨by simp, fun t h2 => evs_nil ⟨by simp, fun r h3 => ?_⟩⟩
  have g1 : Grow mem (upd (upd (upd mem t' (.tup [])) t (.tup [.ref b, .ref t'])) r (.list [.ref t])) := by grind [upd, Grow]
  have q1 : upd (upd (upd mem t' (.tup [])) t (.tup [.ref b, .ref t'])) r (.list [.ref t]) t = some (.tup [.ref b, .ref t']) := by grind [upd]
  have q2 : upd (upd (upd mem t' (.tup [])) t (.tup [.ref b, .ref t'])) r (.list [.ref t]) r = some (.list [.ref t]) := upd_same
  have hr : mem r = none := by grind [upd]
  generalize upd (upd (upd mem t' (.tup [])) t (.tup [.ref b, .ref t'])) r (.list [.ref t]) = m₁ at g1 q1 q2 ⊢
  refine ev_parts (by kernel_rfl) (by kernel_rfl) ?_
  refine ev_attr (ev_local rfl (by assumption) ?_)
  refine geta_inst ok_App (g1 _ _ ha) hg (fun i q => by cases q) na_App_args ⟨l, bs, rfl, g1 _ _ hl, hb, fun D m hD g x => ?_⟩
  obtain ⟨ts, x1, x2, x3⟩ := x
  refine bin_addL (vs := [.ref t]) (ws := refs ts) (g _ _ q2) x1 (by simp [x2]; omega) fun y hy => ?_
  refine h y _ (Grow.none (g1.trans g) hy) ((g1.trans g).trans (Grow.upd hy)) ⟨t :: ts, upd_same, by simp [x2], fun i u b' z1 z2 => ?_⟩
  cases i with
  | zero => cases z1; cases z2; exact ⟨.ref t', by rw [upd_ne]; exact g _ _ q1; rintro rfl; rw [g _ _ q1] at hy; cases hy⟩
  | succ i =>
    obtain ⟨s, hs⟩ := x3 i u b' z1 z2
    exact ⟨s, by rw [upd_ne]; exact hs; rintro rfl; rw [hs] at hy; cases hy⟩
/-- parts() of any expression -/
theorem parts_ok {a : Addr} {k : Kd} {bs : List Addr} (hx : ExNode mem a k bs) (hb : bs.length ≤ 1000) (h : ∀ r m', mem r = none → Grow mem m' → PartsAt m' r bs → Q (.ref r) m') :
    ∃ fv, Meth (cx w h₀) (.ref a) "parts" mem fv ∧ er fv = fv ∧ Callee (cx w h₀) fv ∧ Cal (cx w h₀) (n + 1) fv [.ref a] mem Q := by
  obtain ⟨fs, h1, h2, h3⟩ := hx
  cases k with
  | var x =>
    obtain ⟨_, rfl⟩ := h3
    exact ⟨_, meth_own ok_Var h1 fi_Var_parts ty_Var_parts h2, rfl, callee_K ke_Var_parts, (parts_Var h).cal⟩
  | lit =>
    subst h3
    exact ⟨_, meth_own ok_Lit h1 fi_Lit_parts ty_Lit_parts h2, rfl, callee_K ke_Lit_parts, (parts_Lit h).cal⟩
  | app =>
    obtain ⟨b, r, l, rfl, q1, q2, q3⟩ := h3
    exact ⟨_, meth_own ok_App h1 fi_App_parts ty_App_parts h2, rfl, callee_K ke_App_parts, (parts_App h1 q1 q2 q3 (by simp at hb; omega) h).cal⟩
  | lam ps =>
    obtain ⟨b, l, rfl, q1, q2, q3⟩ := h3
    exact ⟨_, meth_own ok_Lam h1 fi_Lam_parts ty_Lam_parts h2, rfl, callee_K ke_Lam_parts, (parts_Lam h1 q1 h).cal⟩
  | con =>
    obtain ⟨l, q1, q2⟩ := h3
    exact ⟨_, meth_own ok_Con h1 fi_Con_parts ty_Con_parts h2, rfl, callee_K ke_Con_parts, (parts_Con h1 q1 q2 hb h).cal⟩
  | prim =>
    obtain ⟨l, q1, q2⟩ := h3
    exact ⟨_, meth_own ok_Prim h1 fi_Prim_parts ty_Prim_parts h2, rfl, callee_K ke_Prim_parts, (parts_Prim h1 q1 q2 hb h).cal⟩
end
end Mine
end
section
-- F5
set_option maxRecDepth 100000
set_option maxHeartbeats 400000
set_option autoImplicit false
set_option linter.unusedVariables false
namespace Mine
open PySem PySem.W PySem.Calls PyProof.Rows
mutual
noncomputable def Ex.size : Ex → Nat
  | .node _ ps => 1 + sizes ps
noncomputable def sizes : List Ex → Nat
  | [] => 0
  | e :: r => e.size + sizes r
end
theorem sizes_append (a b : List Ex) : sizes (a ++ b) = sizes a + sizes b := by
  induction a with
  | nil => simp [sizes]
  | cons e r ih => simp [sizes, ih]; omega
theorem ExsAt.append {m : Mem} : ∀ {bs bs' : List Addr} {es es' : List Ex}, ExsAt m bs es → ExsAt m bs' es' → ExsAt m (bs ++ bs') (es ++ es')
  | _, _, _, _, .nil, h => h
  | _, _, _, _, .cons h hs, h' => .cons h (hs.append h')
theorem size_pos (e : Ex) : 1 ≤ e.size := by cases e; simp [Ex.size]
theorem length_sizes : ∀ es : List Ex, es.length ≤ sizes es
  | [] => Nat.zero_le _
  | e :: r => by have := length_sizes r; have := size_pos e; simp only [sizes, List.length_cons]; omega
theorem ExsAt.unsnoc {m : Mem} {bs : List Addr} {b : Addr} {es : List Ex} (h : ExsAt m (bs ++ [b]) es) : ∃ es' e, es = es' ++ [e] ∧ ExsAt m bs es' ∧ ExAt m b e := by
  induction bs generalizing es with
  | nil =>
    cases h with
    | cons h1 h2 => cases h2; exact ⟨[], _, rfl, .nil, h1⟩
  | cons x r ih =>
    cases h with
    | cons h1 h2 =>
      obtain ⟨es', e, rfl, h3, h4⟩ := ih h2
      exact ⟨_ :: es', e, rfl, .cons h1 h3, h4⟩
theorem snoc_cases {α : Type} (l : List α) : l = [] ∨ ∃ r x, l = r ++ [x] := by
  rcases List.eq_nil_or_concat l with h | ⟨r, x, h⟩
  · exact .inl h
  · exact .inr ⟨r, x, by simpa using h⟩
/-- all but one address as before -/
noncomputable def GrowX (x : Addr) (m m' : Mem) : Prop := ∀ a o, a ≠ x → m a = some o → m' a = some o
theorem GrowX.refl (x : Addr) (m : Mem) : GrowX x m m := fun _ _ _ e => e
theorem GrowX.trans {x : Addr} {m₁ m₂ m₃ : Mem} (p : GrowX x m₁ m₂) (q : GrowX x m₂ m₃) : GrowX x m₁ m₃ := fun a o h e => q a o h (p a o h e)
theorem Grow.x {x : Addr} {m m' : Mem} (g : Grow m m') : GrowX x m m' := fun a o _ e => g a o e
theorem GrowX.grow {x : Addr} {m₀ m m' : Mem} (g : Grow m₀ m) (hx : m₀ x = none) (p : GrowX x m m') : Grow m₀ m' := fun a o e => p a o (fun q => by rw [q, hx] at e; cases e) (g a o e)
section
variable {c : Cx} {n : Nat} {f : Fs} {ρ : Loc} {mem : Mem}
theorem lookup_ne {x y : Str} {v u : Value} (h : ρ.lookup y = some u) (hne : ∀ p ∈ ρ, p.1 ≠ x) : ((x, v) :: ρ : Loc).lookup y = some u := by
  rw [lookup_cons_ne]; exact h
  rintro rfl
  exact hne _ (mem_of_look h) rfl
theorem keep_two {x y : Str} {v u : Value} (hne : ∀ p ∈ ρ, p.1 ≠ x ∧ p.1 ≠ y) (hd : ∀ p ∈ ρ, ρ.lookup p.1 = some p.2) : ∀ p ∈ ρ, ((y, v) :: (x, u) :: ρ : Loc).lookup p.1 = some p.2 := fun p hp => by
  rw [lookup_cons_ne (hne p hp).2, lookup_cons_ne (hne p hp).1]; exact hd p hp
end
section
variable {w : World} {h₀ : Heap} {n : Nat} {f : Fs} {ρ : Loc} {mem : Mem} {N : Loc → Mem → Prop} {R : Value → Mem → Prop}
/-- for part, scope in node.parts(): tasks.append(part) -/
theorem st_push {p1 p2 p3 p4 p5 p6 p7 p8 p9 p10 p11 p12 : Pos} {kk : Nat} {b tl : Addr} {k : Kd} {bs : List Addr} {vs : List Value}
    (hp : isL f "part") (hs : isL f "scope") (hn : isL f "node") (ht : isL f "tasks") (e1 : (p5.endLine == p6.line) = true) (e2 : (p8.endLine == p10.line) = true)
    (hρ : ∀ p ∈ ρ, p.1 ≠ "part" ∧ p.1 ≠ "scope") (hd : ∀ p ∈ ρ, ρ.lookup p.1 = some p.2) (hb : fld ρ "node" = some (.ref b)) (htl : fld ρ "tasks" = some (.ref tl))
    (hx : ExNode mem b k bs) (hl : bs.length ≤ 1000) (hm : mem tl = some (.list vs)) (hv : vs.length ≤ 100000)
    (h : ∀ m', m' tl = some (.list (vs ++ refs bs)) → GrowX tl mem m' → N ρ m') :
    St (cx w h₀) (n + 1) f ρ (.For (.Tuple [.Name "part" p1, .Name "scope" p2] kk p3) (.Call (.Attribute (.Name "node" p4) "parts" p5) [] [] p6) [.Expr (.Call (.Attribute (.Name "tasks" p7) "append" p8) [.Name "part" p9] [] p10) p11] [] p12) mem N R := by
  refine st_for ?_ (by intro _ _; rfl)
  refine ev_meth (ev_local hb hn ?_) rfl rfl e1 (by simp)
  suffices key : ∀ r m', mem r = none → Grow mem m' → PartsAt m' r bs → _ by
    obtain ⟨fv, q1, q2, q3, q4⟩ := parts_ok (w := w) (h₀ := h₀) (n := n) hx hl key
    exact ⟨fv, q1, q2, q3, evs_nil q4⟩
  · intro r m' h1 g h2
    obtain ⟨ts, x1, x2, x3⟩ := h2
    have hrt : r ≠ tl := fun q => by rw [q, hm] at h1; cases h1
    refine ⟨_, _, .inl ⟨r, rfl, .inl x1, rfl⟩, fun i ρ₁ m => ρ₁ = ρ ∧ i ≤ bs.length ∧ m tl = some (.list (vs ++ refs (bs.take i))) ∧ GrowX tl m' m, ⟨rfl, Nat.zero_le _, by rw [List.take_zero]; simpa using g _ _ hm, GrowX.refl _ _⟩, ?_, ?_, ?_⟩
    · rintro i ρ₁ m ⟨rfl, hi, y1, y2⟩
      exact .inl (y2 _ _ hrt x1)
    · rintro i x ρ₁ m hx' ⟨rfl, hi, y1, y2⟩
      rw [List.getElem?_map] at hx'
      obtain ⟨t, ht', rfl⟩ := Option.map_eq_some_iff.mp hx'
      have hi' : i < bs.length := by have := (List.getElem?_eq_some_iff.mp ht').1; omega
      have hbi : bs[i]? = some bs[i] := List.getElem?_eq_getElem hi'
      obtain ⟨sv, hsv⟩ := x3 i t _ ht' hbi
      have htt : t ≠ tl := fun q => by
        have := g _ _ hm
        rw [← q, hsv] at this; cases this
      refine as_tuple (y2 _ _ htt hsv) rfl ?_ rfl
      refine ass_cons (as_name (sto_local hp (ass_cons (as_name (sto_local hs (ass_nil ?_))) rfl))) rfl
      refine sts_cons (st_expr (ev_meth (ev_local (v := .ref tl) ?_ ht ⟨_, meth_append y1, rfl, callee_builtin, evs_cons (ev_local (v := .ref bs[i]) ?_ hp (evs_nil ?_)) rfl⟩) rfl rfl e2 (by simp)) rfl)
      · rw [lookup_cons_ne (by decide), lookup_cons_ne (by decide)]; exact htl
      · rw [lookup_cons_ne (by decide), List.lookup_cons, beq_self_eq_true]
      · refine cal_append y1 (by simp [refs]; omega) ?_
        refine sts_nil ⟨ρ₁, keep_two hρ hd, rfl, hi', ?_, fun a o ha e => by rw [upd_ne ha]; exact y2 a o ha e⟩
        rw [upd_same, List.take_add_one, hbi]
        simp only [refs, List.map_append, List.append_assoc, Option.toList_some, List.map_cons, List.map_nil]
    · rintro ρ₁ m ⟨rfl, _, y1, y2⟩
      have e3 : (refs ts).length = bs.length := by simpa [refs] using x2
      rw [e3, List.take_length] at y1
      exact h m y1 (g.x.trans y2)
end
end Mine
end
section
-- F6
set_option maxRecDepth 100000
set_option maxHeartbeats 400000
set_option autoImplicit false
set_option linter.unusedVariables false
namespace Mine
open PySem PySem.W PySem.Calls PyProof.Rows
section
variable {w : World} {h₀ : Heap} {n : Nat} {mem : Mem} {Q : Value → Mem → Prop}
theorem ExAt.node {m : Mem} {a : Addr} {e : Ex} (h : ExAt m a e) : ∃ k bs ps, e = .node k ps ∧ ExNode m a k bs ∧ ExsAt m bs ps := by
  cases h with
  | mk h hs => exact ⟨_, _, _, rfl, h, hs⟩
theorem refs_empty {ts : List Addr} : (refs ts).isEmpty = ts.isEmpty := by cases ts <;> rfl
theorem size_of_ok {a : Addr} {e : Ex} {M : Int} (he : ExAt mem a e) (hM : 0 ≤ M) (hs : e.size ≤ 1000) (h : ∀ m', Grow mem m' → Q (.int (min (e.size : Int) (M + 1)) 0) m') : CodeCal (cx w h₀) (n + 3) 28 [.ref a, .int M 0] mem Q := by
  refine code_fn ["expr", "most"] lk_size_of cd_size_of rfl (vals2 fun _ _ => by kernel_rfl) (by kernel_rfl) (by kernel_rfl) ?_
  refine sts_cons (st_swapped (xs := ["many", "tasks"]) (by kernel_rfl) ?_)
  generalize hf : (⟨(topDef 2).2.2, true⟩ : Fs) = f
  have nl0 : isL f "expr" := by rw [← hf]; kernel_rfl
  have nl1 : isL f "most" := by rw [← hf]; kernel_rfl
  have nl2 : isL f "many" := by rw [← hf]; kernel_rfl
  have nl3 : isL f "tasks" := by rw [← hf]; kernel_rfl
  have nl4 : isL f "node" := by rw [← hf]; kernel_rfl
  have nl5 : isL f "part" := by rw [← hf]; kernel_rfl
  have nl6 : isL f "scope" := by rw [← hf]; kernel_rfl
  clear hf
  (walk_at "GO")
  refine ev_list (evs_cons (ev_local rfl (by assumption) (evs_nil ⟨by simp, fun tl htl => ?_⟩)) rfl)
  refine evs_nil ⟨rfl, by simp, fun tp htp => ?_⟩
  have hm0 : upd (upd mem tl (.list [.ref a])) tp (.tup [.int 0 0, .ref tl]) tl = some (.list (refs [a])) := by grind [upd]
  have g0 : Grow mem (upd (upd mem tl (.list [.ref a])) tp (.tup [.int 0 0, .ref tl])) := by grind [upd, Grow]
  generalize upd (upd mem tl (.list [.ref a])) tp (.tup [.int 0 0, .ref tl]) = m₀ at hm0 g0 ⊢
  refine sto_local (by assumption) (sto_local (by assumption) ?_)
  refine sts_cons (St.weaken [("tasks", .ref tl), ("many", .int 0 0), ("most", .int M 0)] (by walk_at "WEAK") ?_)
  refine st_while (fun k ρ₁ m => ∃ (j : Int) (ts : List Addr) (es : List Ex), ρ₁ = ([("tasks", .ref tl), ("many", .int j 0), ("most", .int M 0)] : Loc) ∧ k = sizes es ∧ m tl = some (.list (refs ts)) ∧ ExsAt mem ts es ∧ j + (sizes es : Int) = e.size ∧ 0 ≤ j ∧ j ≤ M + 1 ∧ Grow mem m)
    (sizes [e]) ⟨0, [a], [e], rfl, rfl, hm0, .cons he .nil, by simp [sizes], by omega, by omega, g0⟩ ?_
  rintro k ρ₁ m ⟨j, ts, es, rfl, rfl, hm, hts, hj, hj0, hjM, g⟩
  have hlen := hts.length
  have hle := length_sizes es
  have hlr : (refs ts).length = ts.length := by simp [refs]
  have htlm : mem tl = none := by cases q : mem tl with | none => rfl | some o => rw [q] at htl; cases htl
  refine tst_pure (decide (ts ≠ [] ∧ j ≤ M)) (fun P hP => ?_) ?_
  · refine tst_bool (tsts_and (tst_val (ev_local rfl (by assumption) (tru_list (.inl hm) (by omega) ?_))))
    cases ts with
    | nil => rw [if_neg (by simp)]; simpa using hP
    | cons t r =>
      rw [if_pos (by simp)]
      (walk_at "GO")
      by_cases q : j ≤ M
      · rw [decide_eq_true q, if_pos rfl]; (walk_at "GO"); simpa [q] using hP
      · rw [decide_eq_false q, if_neg (by decide)]; simpa [q] using hP
  by_cases hc : ts ≠ [] ∧ j ≤ M
  · rw [decide_eq_true hc, if_pos rfl]
    obtain ⟨hne, hjM'⟩ := hc
    rcases snoc_cases ts with rfl | ⟨ts', b, rfl⟩
    · exact absurd rfl hne
    obtain ⟨es', e', rfl, hts', hb⟩ := hts.unsnoc
    obtain ⟨k, bs, ps, rfl, hx, hps⟩ := hb.node
    have hpl := hps.length
    have hpl2 := length_sizes ps
    have hpl3 := length_sizes es'
    have hpl4 := hts'.length
    have hpl5 : (refs ts').length = ts'.length := by simp [refs]
    simp only [sizes_append, sizes, Ex.size] at hj hle
    refine sts_cons (st_assign (ev_meth (ev_local rfl (by assumption) ⟨_, meth_pop hm, rfl, callee_builtin, evs_nil (cal_pop (vs := refs ts') (x := .ref b) (by rw [hm]; simp [refs]) (by omega) ?_)⟩) rfl rfl rfl (by decide)) rfl rfl rfl)
    (walk_at "GO")
    refine st_aug rfl (by assumption) ?_
    (walk_at "GO")
    refine inp_add ?_
    (walk_at "GO")
    have g₂ : Grow mem (upd m tl (.list (refs ts'))) := g.set htlm
    refine St.weaken [("node", .ref b), ("tasks", .ref tl), ("many", .int (j + 1) 0), ("most", .int M 0)] (by walk_at "WEAK") ?_
    refine st_push (by assumption) (by assumption) (by assumption) (by assumption) rfl rfl (by walk_at "NE2") (by walk_at "WEAK") rfl rfl (hx.grow g₂) (by omega) upd_same (by omega) fun m' h1 h2 => ?_
    refine sts_nil ⟨[("tasks", .ref tl), ("many", .int (j + 1) 0), ("most", .int M 0)], (by walk_at "WEAK"), _, ?_, j + 1, ts' ++ bs, es' ++ ps, rfl, rfl, by rw [h1]; simp [refs], hts'.append hps, ?_, by omega, by omega, h2.grow g₂ htlm⟩
    · simp only [sizes_append, sizes, Ex.size]; omega
    · simp only [sizes_append]; omega
  · rw [decide_eq_false hc, if_neg (by decide)]
    (walk_at "GO")
    refine ev_ifexp (tst_not (tst_val (ev_local rfl (by assumption) (tru_list (.inl hm) (by omega) ?_))))
    cases ts with
    | nil =>
      cases hts
      rw [if_pos (by rfl)]
      refine ev_local rfl (by assumption) ?_
      have : min (e.size : Int) (M + 1) = j := by simp only [sizes] at hj; omega
      rw [← this]; exact h m g
    | cons t r =>
      rw [if_neg (by simp)]
      have hMj : ¬ j ≤ M := fun q => hc ⟨by simp, q⟩
      have hpos : 1 ≤ es.length := by simp at hlen; omega
      (walk_at "GO")
      have : min (e.size : Int) (M + 1) = M + 1 := by omega
      rw [← this]; exact h m g
end
end Mine
end
section
-- F7
set_option maxRecDepth 100000
set_option maxHeartbeats 400000
set_option autoImplicit false
set_option linter.unusedVariables false
set_option linter.unusedSimpArgs false
namespace Mine
open PySem PySem.W PySem.Calls PyProof.Rows
mutual
noncomputable def Ex.names : Ex → List Str
  | .node k ps => (match k with | .var x => [x] | _ => []) ++ namess ps
noncomputable def namess : List Ex → List Str
  | [] => []
  | e :: r => e.names ++ namess r
end
theorem namess_append (a b : List Ex) : namess (a ++ b) = namess a ++ namess b := by
  induction a with
  | nil => simp [namess]
  | cons e r ih => simp [namess, ih]
mutual
theorem names_size : ∀ e : Ex, e.names.length ≤ e.size
  | .node k ps => by
    have := namess_size ps
    simp only [Ex.names, Ex.size, List.length_append]
    cases k <;> simp <;> omega
theorem namess_size : ∀ es : List Ex, (namess es).length ≤ sizes es
  | [] => Nat.le_refl _
  | e :: r => by
    have := names_size e
    have := namess_size r
    simp only [namess, sizes, List.length_append]; omega
end
noncomputable def Kd.isVar : Kd → Bool | .var _ => true | _ => false
noncomputable def Kd.isLit : Kd → Bool | .lit => true | _ => false
noncomputable def Kd.isApp : Kd → Bool | .app => true | _ => false
noncomputable def Kd.isLam : Kd → Bool | .lam _ => true | _ => false
noncomputable def Kd.isCon : Kd → Bool | .con => true | _ => false
section
variable {P : Params}
theorem ok_k (k : Kd) : ClsOk (K P) (clsOf k) := by cases k; exact ok_Var; exact ok_Lit; exact ok_App; exact ok_Lam; exact ok_Con; exact ok_Prim
theorem ik_Var (k : Kd) : kitOne (K P) (.ref (clsOf k)) (.ref 66) = some k.isVar := by cases k; exact io_Var_Var; exact io_Lit_Var; exact io_App_Var; exact io_Lam_Var; exact io_Con_Var; exact io_Prim_Var
theorem ik_App (k : Kd) : kitOne (K P) (.ref (clsOf k)) (.ref 148) = some k.isApp := by cases k; exact io_Var_App; exact io_Lit_App; exact io_App_App; exact io_Lam_App; exact io_Con_App; exact io_Prim_App
theorem ik_Lam (k : Kd) : kitOne (K P) (.ref (clsOf k)) (.ref 190) = some k.isLam := by cases k; exact io_Var_Lam; exact io_Lit_Lam; exact io_App_Lam; exact io_Lam_Lam; exact io_Con_Lam; exact io_Prim_Lam
theorem ik_Con (k : Kd) : kitOne (K P) (.ref (clsOf k)) (.ref 230) = some k.isCon := by cases k; exact io_Var_Con; exact io_Lit_Con; exact io_App_Con; exact io_Lam_Con; exact io_Con_Con; exact io_Prim_Con
theorem ik_VL (k : Kd) : kitAny (K P) (.ref (clsOf k)) [.ref 66, .ref 108] = some (k.isVar || k.isLit) := by cases k; exact iv_Var; exact iv_Lit; exact iv_App; exact iv_Lam; exact iv_Con; exact iv_Prim
theorem ik_LV (k : Kd) : kitAny (K P) (.ref (clsOf k)) [.ref 108, .ref 66] = some (k.isVar || k.isLit) := by cases k; exact il_Var; exact il_Lit; exact il_App; exact il_Lam; exact il_Con; exact il_Prim
end
noncomputable def atomic (k : Kd) (bs : List Addr) : Bool := k.isVar || k.isLit || (k.isCon && bs.isEmpty)
section
variable {w : World} {h₀ : Heap} {n : Nat} {mem : Mem} {Q : Value → Mem → Prop}
theorem is_atom_ok {a : Addr} {k : Kd} {bs : List Addr} (hx : ExNode mem a k bs) (hl : bs.length ≤ 1000) (h : ∀ m', Grow mem m' → Q (.bool (atomic k bs)) m') : CodeCal (cx w h₀) (n + 2) 379 [.ref a] mem Q := by
  refine code_fn ["expr"] lk_is_atom cd_is_atom rfl (vals1 fun _ => by kernel_rfl) (by kernel_rfl) (by kernel_rfl) ?_
  generalize hf : (⟨(topDef 17).2.2, true⟩ : Fs) = f
  have nl0 : isL f "expr" := by rw [← hf]; kernel_rfl
  have nl1 : isG f "isinstance" := by rw [← hf]; kernel_rfl
  have nl2 : isG f "Var" := by rw [← hf]; kernel_rfl
  have nl3 : isG f "Lit" := by rw [← hf]; kernel_rfl
  have nl4 : isG f "Con" := by rw [← hf]; kernel_rfl
  clear hf
  have hx' := hx
  obtain ⟨fs, h1, h2, h3⟩ := hx'
  (walk_at "GO")
  refine ev_or2 ?_
  refine ev_call (ev_builtin gn_isinstance bb_isinstance (by assumption) ⟨callee_builtin, ?_⟩ (by decide) (by decide)) rfl
  (walk_at "GO")
  refine ev_tuple (evs_cons (ev_global g_Var (by assumption) (evs_cons (ev_global g_Lit (by assumption) (evs_nil ⟨by simp, fun t ht => ?_⟩)) rfl)) rfl)
  (walk_at "GO")
  have g₁ : Grow mem (upd mem t (.tup [.ref 66, .ref 108])) := Grow.upd ht
  refine cal_isinstT (ok_k k) (g₁ _ _ h1) upd_same (ik_VL k) ?_
  (walk_at "GO")
  cases hvl : (k.isVar || k.isLit) with
  | true =>
    rw [if_pos rfl]
    have : atomic k bs = true := by simp [atomic, hvl]
    rw [← this]; exact h _ g₁
  | false =>
    rw [if_neg (by decide)]
    refine ev_and2 ?_
    refine ev_call (ev_builtin gn_isinstance bb_isinstance (by assumption) ⟨callee_builtin, ?_⟩ (by decide) (by decide)) rfl
    (walk_at "GO")
    refine ev_global g_Con (by assumption) ?_
    (walk_at "GO")
    refine cal_isinst (ok_k k) (g₁ _ _ h1) (ik_Con k) ?_
    (walk_at "GO")
    cases hc : k.isCon with
    | false =>
      rw [if_neg (by decide)]
      have : atomic k bs = false := by simp [atomic, hvl, hc]
      rw [← this]; exact h _ g₁
    | true =>
      rw [if_pos rfl]
      obtain rfl : k = .con := by cases k <;> first | rfl | cases hc
      obtain ⟨l, q1, q2⟩ := h3
      (walk_at "GO")
      refine geta_inst ok_Con (g₁ _ _ h1) q1 (fun i q => by cases q) na_Con_args ?_
      refine ev_list (evs_nil ⟨by simp, fun z hz => ?_⟩)
      have g₂ : Grow mem (upd (upd mem t (.tup [.ref 66, .ref 108])) z (.list [])) := g₁.trans (Grow.upd hz)
      refine cmp_eqNil (.inl (g₂ _ _ q2)) (.inl upd_same) ?_
      have : atomic .con bs = (refs bs).isEmpty := by simp [atomic, Kd.isVar, Kd.isLit, Kd.isCon, refs_empty]
      rw [← this]; exact h _ g₂
theorem put_keys {kvs : List (Str × Value)} {x : Str} {v : Value} (hn : (kvs.map (·.1)).Nodup) : ((put kvs x v).map (·.1)).Nodup ∧ (∀ y, y ∈ (put kvs x v).map (·.1) ↔ y = x ∨ y ∈ kvs.map (·.1)) ∧ (put kvs x v).length ≤ kvs.length + 1 := by
  unfold put stored
  split
  · rename_i q
    have e : (kvs.map fun kv => if kv.1 = x then (kv.1, v) else kv).map (·.1) = kvs.map (·.1) := by
      rw [List.map_map]; refine List.map_congr_left fun p _ => ?_
      by_cases h : p.1 = x <;> simp [h]
    have e' : (kvs.map fun kv => if kv.1 = x then (x, v) else kv).map (·.1) = kvs.map (·.1) := by
      rw [List.map_map]; refine List.map_congr_left fun p _ => ?_
      by_cases h : p.1 = x <;> simp [h]
    have hx : x ∈ kvs.map (·.1) := by
      obtain ⟨p, hp, hpx⟩ := List.any_eq_true.mp q
      exact List.mem_map.mpr ⟨p, hp, of_decide_eq_true hpx⟩
    first
      | rw [e]; exact ⟨hn, fun y => ⟨.inr, fun z => z.elim (fun r => r ▸ hx) id⟩, by simp⟩
      | rw [e']; exact ⟨hn, fun y => ⟨.inr, fun z => z.elim (fun r => r ▸ hx) id⟩, by simp⟩
  · rename_i q
    have hx : x ∉ kvs.map (·.1) := fun hm => by
      obtain ⟨p, hp, hpx⟩ := List.mem_map.mp hm
      exact q (List.any_eq_true.mpr ⟨p, hp, decide_eq_true hpx⟩)
    refine ⟨by rw [List.map_append]; simpa [List.nodup_append, hn] using fun a b hab => (fun r => hx (by subst r; exact List.mem_map.mpr ⟨_, hab, rfl⟩)), fun y => by simp [or_comm], by simp⟩
theorem used_names_ok {a : Addr} {e : Ex} (he : ExAt mem a e) (hs : e.size ≤ 1000)
    (h : ∀ r m' kvs, mem r = none → Grow mem m' → m' r = some (.dict kvs) → (kvs.map (·.1)).Nodup → (∀ x, x ∈ kvs.map (·.1) ↔ x ∈ e.names) → kvs.length ≤ e.size → Q (.ref r) m') : CodeCal (cx w h₀) (n + 3) 386 [.ref a] mem Q := by
  refine code_fn ["expr"] lk_used_names cd_used_names rfl (vals1 fun _ => by kernel_rfl) (by kernel_rfl) (by kernel_rfl) ?_
  refine sts_cons (st_swapped (xs := ["found", "tasks"]) (by kernel_rfl) ?_)
  generalize hf : (⟨(topDef 18).2.2, true⟩ : Fs) = f
  have nl0 : isL f "expr" := by rw [← hf]; kernel_rfl
  have nl1 : isL f "found" := by rw [← hf]; kernel_rfl
  have nl2 : isL f "tasks" := by rw [← hf]; kernel_rfl
  have nl3 : isL f "node" := by rw [← hf]; kernel_rfl
  have nl4 : isL f "part" := by rw [← hf]; kernel_rfl
  have nl5 : isL f "scope" := by rw [← hf]; kernel_rfl
  have nl6 : isG f "isinstance" := by rw [← hf]; kernel_rfl
  have nl7 : isG f "Var" := by rw [← hf]; kernel_rfl
  clear hf
  (walk_at "GO")
  refine ev_dict fun fd hfd => ?_
  (walk_at "GO")
  refine ev_list (evs_cons (ev_local rfl (by assumption) (evs_nil ⟨by simp, fun tl htl => ?_⟩)) rfl)
  refine evs_nil ⟨rfl, by simp, fun tp htp => ?_⟩
  have hfm : mem fd = none := hfd
  have htm : mem tl = none := by grind [upd]
  have hft : fd ≠ tl := by grind [upd]
  have hm0 : upd (upd (upd mem fd (.dict [])) tl (.list [.ref a])) tp (.tup [.ref fd, .ref tl]) tl = some (.list (refs [a])) := by grind [upd]
  have hd0 : upd (upd (upd mem fd (.dict [])) tl (.list [.ref a])) tp (.tup [.ref fd, .ref tl]) fd = some (.dict []) := by grind [upd]
  have g0 : Grow mem (upd (upd (upd mem fd (.dict [])) tl (.list [.ref a])) tp (.tup [.ref fd, .ref tl])) := by grind [upd, Grow]
  generalize upd (upd (upd mem fd (.dict [])) tl (.list [.ref a])) tp (.tup [.ref fd, .ref tl]) = m₀ at hm0 hd0 g0 ⊢
  refine sto_local (by assumption) (sto_local (by assumption) ?_)
  refine sts_cons (St.weaken [("found", .ref fd), ("tasks", .ref tl)] (by walk_at "WEAK") ?_)
  refine st_while (fun k ρ₁ m => ∃ (ts : List Addr) (es : List Ex) (kvs : List (Str × Value)), ρ₁ = ([("found", .ref fd), ("tasks", .ref tl)] : Loc) ∧ k = sizes es ∧ m tl = some (.list (refs ts)) ∧ m fd = some (.dict kvs) ∧ ExsAt mem ts es ∧ sizes es + kvs.length ≤ e.size ∧
      (kvs.map (·.1)).Nodup ∧ (∀ x, x ∈ e.names ↔ x ∈ kvs.map (·.1) ∨ x ∈ namess es) ∧ Grow mem m)
    (sizes [e]) ⟨[a], [e], [], rfl, rfl, hm0, hd0, .cons he .nil, by simp [sizes], by simp, by simp [namess], g0⟩ ?_
  rintro k ρ₁ m ⟨ts, es, kvs, rfl, rfl, hm, hd, hts, hsz, hnd, hnm, g⟩
  have hlen := hts.length
  have hle := length_sizes es
  have hlr : (refs ts).length = ts.length := by simp [refs]
  (walk_at "GO")
  refine tru_list (.inl hm) (by omega) ?_
  rcases snoc_cases ts with rfl | ⟨ts', b, rfl⟩
  · rw [if_neg (by simp)]
    cases hts
    (walk_at "GO")
    exact h fd m kvs hfm g hd hnd (fun x => by rw [hnm]; simp [namess]) (by simpa [sizes] using hsz)
  · rw [if_pos (by simp)]
    obtain ⟨es', e', rfl, hts', hb⟩ := hts.unsnoc
    obtain ⟨k, bs, ps, rfl, hx, hps⟩ := hb.node
    have hpl := hps.length
    have hpl2 := length_sizes ps
    have hpl3 := length_sizes es'
    have hpl4 := hts'.length
    have hpl5 : (refs ts').length = ts'.length := by simp [refs]
    simp only [sizes_append, sizes, Ex.size] at hsz hle
    simp only [namess_append, namess, List.append_nil] at hnm
    refine sts_cons (st_assign (ev_meth (ev_local rfl (by assumption) ⟨_, meth_pop hm, rfl, callee_builtin, evs_nil (cal_pop (vs := refs ts') (x := .ref b) (by rw [hm]; simp [refs]) (by omega) ?_)⟩) rfl rfl rfl (by decide)) rfl rfl rfl)
    have g₂ : Grow mem (upd m tl (.list (refs ts'))) := g.set htm
    have hd₂ : upd m tl (.list (refs ts')) fd = some (.dict kvs) := by rw [upd_ne hft]; exact hd
    have ht₂ : upd m tl (.list (refs ts')) tl = some (.list (refs ts')) := upd_same
    generalize upd m tl (.list (refs ts')) = m₂ at g₂ hd₂ ht₂ ⊢
    (walk_at "GON")
    have hx' := hx
    obtain ⟨fs, q1, q2, q3⟩ := hx'
    refine St.weaken [("node", .ref b), ("found", .ref fd), ("tasks", .ref tl)] (by walk_at "WEAK") ?_
    refine St.mid (fun m₃ => ∃ kvs', Grow mem m₃ ∧ m₃ tl = some (.list (refs ts')) ∧ m₃ fd = some (.dict kvs') ∧ (kvs'.map (·.1)).Nodup ∧ kvs'.length ≤ kvs.length + 1 ∧ (∀ x, x ∈ e.names ↔ x ∈ kvs'.map (·.1) ∨ x ∈ namess (es' ++ ps))) ?_ ?_
    · (walk_at "GO")
      refine ev_call (ev_builtin gn_isinstance bb_isinstance (by assumption) ⟨callee_builtin, ?_⟩ (by decide) (by decide)) rfl
      (walk_at "GO")
      refine ev_global g_Var (by assumption) ?_
      (walk_at "GO")
      refine cal_isinst (ok_k k) (g₂ _ _ q1) (ik_Var k) ?_
      (walk_at "GO")
      cases hk : k.isVar with
      | false =>
        rw [if_neg (by decide)]
        refine sts_nil ⟨rfl, kvs, g₂, ht₂, hd₂, hnd, by omega, fun x => ?_⟩
        rw [hnm, namess_append]
        cases k <;> first | (cases hk; done) | simp [Ex.names]
      | true =>
        rw [if_pos rfl]
        obtain ⟨y, rfl⟩ : ∃ y, k = .var y := by cases k <;> first | exact ⟨_, rfl⟩ | (cases hk; done)
        obtain ⟨q3, rfl⟩ := q3
        (walk_at "GO")
        refine geta_inst ok_Var (g₂ _ _ q1) q3 (fun i q => by cases q) na_Var_name ?_
        obtain ⟨p1, p2, p3⟩ := put_keys (x := y) (v := .bool true) hnd
        refine seti_dict hd₂ (by omega) ?_
        refine sts_nil ⟨rfl, _, g₂.set hfm, by rw [upd_ne (Ne.symm hft)]; exact ht₂, upd_same, p1, p3, fun x => ?_⟩
        rw [hnm, namess_append, Ex.names, p2]
        simp only [List.mem_append, List.mem_cons, List.not_mem_nil, or_false]
        constructor
        · rintro (z | z | z | z) <;> simp [z]
        · rintro ((z | z) | z | z) <;> simp [z]
    · rintro m₃ ⟨kvs', g₃, ht₃, hd₃, hnd₃, hl₃, hn₃⟩
      refine sts_cons (st_push (by assumption) (by assumption) (by assumption) (by assumption) rfl rfl (by walk_at "NE2") (by walk_at "WEAK") rfl rfl (hx.grow g₃) (by omega) ht₃ (by omega) fun m' h1 h2 => ?_)
      refine sts_nil ⟨[("found", .ref fd), ("tasks", .ref tl)], (by walk_at "WEAK"), _, ?_, ts' ++ bs, es' ++ ps, kvs', rfl, rfl, by rw [h1]; simp [refs], h2 _ _ hft hd₃, hts'.append hps, ?_, hnd₃, hn₃, h2.grow g₃ htm⟩
      · simp only [sizes_append, sizes, Ex.size]; omega
      · simp only [sizes_append]; omega
end
end Mine
end
section
-- F8
set_option maxRecDepth 100000
set_option maxHeartbeats 400000
set_option autoImplicit false
set_option linter.unusedVariables false
set_option linter.unusedSimpArgs false
namespace Mine
open PySem PySem.W PySem.Calls PyProof.Rows
section
variable {w : World} {h₀ : Heap} {n : Nat} {mem : Mem} {Q : Value → Mem → Prop}
theorem sL_append (xs ys : List Str) : sL (xs ++ ys) = sL xs ++ sL ys := by simp [sL]
theorem namess_take {ps : List Ex} {i : Nat} {e : Ex} (h : ps[i]? = some e) : namess (ps.take (i + 1)) = namess (ps.take i) ++ e.names := by
  rw [List.take_add_one, h, namess_append]; simp [namess]
theorem namess_take_le (ps : List Ex) (i : Nat) : (namess (ps.take i)).length ≤ sizes ps := by
  have h1 := namess_size (ps.take i)
  have h2 : sizes ps = sizes (ps.take i) + sizes (ps.drop i) := by rw [← sizes_append, List.take_append_drop]
  omega
theorem sizes_at {ps : List Ex} {i : Nat} {e : Ex} (h : ps[i]? = some e) : e.size ≤ sizes ps := by
  induction ps generalizing i with
  | nil => cases h
  | cons x r ih =>
    cases i with
    | zero => cases h; simp only [sizes]; omega
    | succ i => have := ih h; simp only [sizes]; omega
theorem named_ok : ∀ (s : Nat) {n : Nat} {mem : Mem} {Q : Value → Mem → Prop} {a : Addr} {e : Ex}, ExAt mem a e → e.size ≤ s → s ≤ 1000 → (∀ r m', mem r = none → Grow mem m' → m' r = some (.list (sL e.names)) → Q (.ref r) m') → CodeCal (cx w h₀) (n + 4 * s + 2) 469 [.ref a] mem Q
  | 0, n, mem, Q, a, e, he, hs, hl, h => absurd (size_pos e) (by omega)
  | s + 1, n, mem, Q, a, e, he, hs, hl, h => by
    refine code_fn ["expr"] lk__law_named cd__law_named rfl (vals1 fun _ => by kernel_rfl) (by kernel_rfl) (by kernel_rfl) ?_
    generalize hf : (⟨(topDef 31).2.2, true⟩ : Fs) = f
    have nl0 : isL f "expr" := by rw [← hf]; kernel_rfl
    have nl1 : isL f "found" := by rw [← hf]; kernel_rfl
    have nl2 : isL f "part" := by rw [← hf]; kernel_rfl
    have nl3 : isL f "scope" := by rw [← hf]; kernel_rfl
    have nl4 : isG f "isinstance" := by rw [← hf]; kernel_rfl
    have nl5 : isG f "Var" := by rw [← hf]; kernel_rfl
    have nl6 : isG f "_law_named" := by rw [← hf]; kernel_rfl
    clear hf
    obtain ⟨k, bs, ps, rfl, hx, hps⟩ := he.node
    have hx' := hx
    obtain ⟨fs, q1, q2, q3⟩ := hx'
    have hpl := hps.length
    have hpl2 := length_sizes ps
    simp only [Ex.size] at hs
    (walk_at "GO")
    refine ev_call (ev_builtin gn_isinstance bb_isinstance (by assumption) ⟨callee_builtin, ?_⟩ (by decide) (by decide)) rfl
    (walk_at "GO")
    refine ev_global g_Var (by assumption) ?_
    (walk_at "GO")
    refine cal_isinst (ok_k k) q1 (ik_Var k) ?_
    (walk_at "GO")
    cases hk : k.isVar with
    | true =>
      rw [if_pos rfl]
      obtain ⟨y, rfl⟩ : ∃ y, k = .var y := by cases k <;> first | exact ⟨_, rfl⟩ | (cases hk; done)
      obtain ⟨q3, rfl⟩ := q3
      (walk_at "GO")
      refine ev_list ?_
      (walk_at "GO")
      refine geta_inst ok_Var q1 q3 (fun i q => by cases q) na_Var_name ?_
      cases hps
      (walk_at "GO")
      exact ⟨by simp, fun r hr => h r _ hr (Grow.upd hr) (by rw [upd_same]; simp [Ex.names, namess, sL])⟩
    | false =>
      rw [if_neg (by decide)]
      have hnn : (Ex.node k ps).names = namess ps := by cases k <;> first | (cases hk; done) | simp [Ex.names]
      rw [hnn] at h
      refine sts_nil ?_
      (walk_at "GO")
      refine ev_list (evs_nil ⟨by simp, fun fa hfa => ?_⟩)
      (walk_at "GO")
      have g₁ : Grow mem (upd mem fa (.list [])) := Grow.upd hfa
      have hf₁ : upd mem fa (.list []) fa = some (.list (sL (namess (ps.take 0)))) := by rw [upd_same]; rfl
      generalize upd mem fa (.list []) = m₁ at g₁ hf₁ ⊢
      refine St.weaken [("found", .ref fa), ("expr", .ref a)] (by walk_at "WEAK") ?_
      refine st_for ?_ (by intro _ _; rfl)
      refine ev_meth (ev_local rfl (by assumption) ?_) rfl rfl rfl (by decide)
      suffices key : ∀ r m', m₁ r = none → Grow m₁ m' → PartsAt m' r bs → _ by
        obtain ⟨fv, z1, z2, z3, z4⟩ := parts_ok (w := w) (h₀ := h₀) (n := n + 4 * s + 4) (hx.grow g₁) (by omega) key
        exact ⟨fv, z1, z2, z3, evs_nil z4⟩
      intro r m' h1 g h2
      obtain ⟨ts, x1, x2, x3⟩ := h2
      refine ⟨_, _, .inl ⟨r, rfl, .inl x1, rfl⟩, fun i ρ₁ m => ∃ fa, ρ₁ = ([("found", .ref fa), ("expr", .ref a)] : Loc) ∧ mem fa = none ∧ i ≤ bs.length ∧ m fa = some (.list (sL (namess (ps.take i)))) ∧ Grow m' m, ⟨fa, rfl, hfa, Nat.zero_le _, g _ _ hf₁, Grow.refl _⟩, ?_, ?_, ?_⟩
      · rintro i ρ₁ m ⟨fa, rfl, _, hi, y1, y2⟩
        exact .inl (y2 _ _ x1)
      · rintro i x ρ₁ m hx' ⟨fa, rfl, hfa', hi, y1, y2⟩
        rw [List.getElem?_map] at hx'
        obtain ⟨t, ht', rfl⟩ := Option.map_eq_some_iff.mp hx'
        have hi' : i < bs.length := by have := (List.getElem?_eq_some_iff.mp ht').1; omega
        have hbi : bs[i]? = some bs[i] := List.getElem?_eq_getElem hi'
        obtain ⟨sv, hsv⟩ := x3 i t _ ht' hbi
        obtain ⟨e', he', hea⟩ := hps.at hbi
        have hes := sizes_at he'
        refine as_tuple (y2 _ _ hsv) rfl ?_ rfl
        (walk_at "GO")
        refine ev_call (ev_global g__law_named (by assumption) ⟨callee_K ke__law_named, ?_⟩) rfl
        (walk_at "GO")
        have gm : Grow mem m := (g₁.trans g).trans y2
        refine ((named_ok s (n := n) (hea.grow gm) (by omega) (by omega) fun r' m₂ u1 u2 u3 => ?_).cal).room (by omega)
        have hle := namess_take_le ps i
        have hle2 := names_size e'
        refine bin_addL (vs := sL (namess (ps.take i))) (ws := sL e'.names) (u2 _ _ y1) u3 (by simp [sL]; omega) fun z hz => ?_
        (walk_at "GO")
        refine sts_nil ⟨[("found", .ref z), ("expr", .ref a)], (by walk_at "WEAK"), z, rfl, Grow.none (gm.trans u2) hz, hi', ?_, (y2.trans u2).trans (Grow.upd hz)⟩
        rw [upd_same, namess_take he', sL_append]
      · rintro ρ₁ m ⟨fa, rfl, hfa', _, y1, y2⟩
        have e3 : (refs ts).length = ps.length := by simp [refs]; omega
        rw [e3, List.take_length] at y1
        (walk_at "GO")
        exact h fa m hfa' ((g₁.trans g).trans y2) y1
theorem sumI_sizes (ps : List Ex) : sumI (ps.map fun e => (e.size : Int)) = sizes ps := by
  induction ps with
  | nil => rfl
  | cons e r ih => simp only [List.map_cons, sumI, sizes, ih]; omega
theorem many_ok : ∀ (s : Nat) {n : Nat} {mem : Mem} {Q : Value → Mem → Prop} {a : Addr} {e : Ex}, ExAt mem a e → e.size ≤ s → s ≤ 1000 → (∀ m', Grow mem m' → Q (.int e.size 0) m') → CodeCal (cx w h₀) (n + 4 * s + 2) 481 [.ref a] mem Q
  | 0, n, mem, Q, a, e, he, hs, hl, h => absurd (size_pos e) (by omega)
  | s + 1, n, mem, Q, a, e, he, hs, hl, h => by
    refine code_fn ["expr"] lk__law_many cd__law_many rfl (vals1 fun _ => by kernel_rfl) (by kernel_rfl) (by kernel_rfl) ?_
    generalize hf : (⟨(topDef 33).2.2, true⟩ : Fs) = f
    have nl0 : isL f "expr" := by rw [← hf]; kernel_rfl
    have nl1 : isG f "sum" := by rw [← hf]; kernel_rfl
    clear hf
    obtain ⟨k, bs, ps, rfl, hx, hps⟩ := he.node
    have hpl := hps.length
    have hpl2 := length_sizes ps
    simp only [Ex.size] at hs
    (walk_at "GO")
    refine ev_call (ev_builtin gn_sum bb_sum (by assumption) ⟨callee_builtin, ?_⟩ (by decide) (by decide)) rfl
    (walk_at "GO")
    refine ev_comp [] (by kernel_rfl) (fun p hp => by cases hp) ?_ (by intro _ _; rfl)
    refine ev_meth (ev_local rfl (by assumption) ?_) rfl rfl rfl (by decide)
    suffices key : ∀ r m', mem r = none → Grow mem m' → PartsAt m' r bs → _ by
      obtain ⟨fv, z1, z2, z3, z4⟩ := parts_ok (w := w) (h₀ := h₀) (n := n + 4 * s + 4) hx (by omega) key
      exact ⟨fv, z1, z2, z3, evs_nil z4⟩
    intro r m' h1 g h2
    obtain ⟨ts, x1, x2, x3⟩ := h2
    refine ⟨_, _, .inl ⟨r, rfl, .inl x1, rfl⟩, fun i out D m => Grow m' m ∧ m' D = none ∧ i ≤ bs.length ∧ out = iL ((ps.take i).map fun e => (e.size : Int)) ∧ m D = some (.list out), ?_, ?_, ?_, ?_⟩
    · intro D hD
      exact ⟨Grow.upd hD, hD, Nat.zero_le _, rfl, upd_same⟩
    · rintro i out D m ⟨y1, y2, y3, rfl, y5⟩
      exact ⟨.inl (y1 _ _ x1), y5, by simp [iL]; omega⟩
    · rintro i x out D m hx' ⟨y1, y2, y3, rfl, y5⟩
      rw [List.getElem?_map] at hx'
      obtain ⟨t, ht', rfl⟩ := Option.map_eq_some_iff.mp hx'
      have hi' : i < bs.length := by have := (List.getElem?_eq_some_iff.mp ht').1; omega
      have hbi : bs[i]? = some bs[i] := List.getElem?_eq_getElem hi'
      obtain ⟨sv, hsv⟩ := x3 i t _ ht' hbi
      obtain ⟨e', he', hea⟩ := hps.at hbi
      have hes := sizes_at he'
      refine as_tuple (y1 _ _ hsv) rfl ?_ rfl
      refine ass_cons (as_name (sto_local (comp_local (by kernel_rfl)) (ass_cons (as_name (sto_local (comp_local (by kernel_rfl)) (ass_nil ?_))) rfl))) rfl
      (walk_at "GO")
      refine ev_call (ev_global g__law_many (by kernel_rfl) ⟨callee_K ke__law_many, ?_⟩) rfl
      refine evs_cons (ev_local rfl (comp_local (by kernel_rfl)) (evs_nil ?_)) rfl
      refine ((many_ok s (n := n) (hea.grow (g.trans y1)) (by omega) (by omega) fun m₂ u2 => ?_).cal).room (by omega)
      refine ⟨u2 _ _ y5, (y1.trans u2).set y2, y2, hi', ?_, upd_same⟩
      rw [List.take_add_one, he']
      simp [iL]
    · rintro D out m ⟨y1, y2, y3, rfl, y5⟩
      have e3 : (refs ts).length = ps.length := by simp [refs]; omega
      rw [e3, List.take_length] at y5
      (walk_at "GO")
      refine cal_sum (.inl y5) ?_
      rw [sumI_sizes]
      (walk_at "GO")
      have := h m (g.trans y1)
      simpa [Ex.size] using this
end
end Mine
end
section
-- F9
set_option maxRecDepth 100000
set_option maxHeartbeats 400000
set_option autoImplicit false
set_option linter.unusedVariables false
set_option linter.unusedSimpArgs false
namespace Mine
open PySem PySem.W PySem.Calls PyProof.Rows
/-- a list of pairs (text, value) -/
noncomputable def PairsL (m : Mem) (D : Addr) (kvs : List (Str × Value)) : Prop := ∃ ts : List Addr, m D = some (.list (refs ts)) ∧ ts.length = kvs.length ∧ ∀ (i : Nat) (k : Str) (v : Value), kvs[i]? = some (k, v) → ∃ t, ts[i]? = some t ∧ m t = some (.tup [.str k 0, v])
theorem PairsL.grow {m m' : Mem} {D : Addr} {kvs : List (Str × Value)} (x : PairsL m D kvs) (g : Grow m m') : PairsL m' D kvs :=
  let ⟨ts, h1, h2, h3⟩ := x; ⟨ts, g _ _ h1, h2, fun i k v e => let ⟨t, e1, e2⟩ := h3 i k v e; ⟨t, e1, g _ _ e2⟩⟩
theorem PairsL.at {m : Mem} {D : Addr} {kvs : List (Str × Value)} (x : PairsL m D kvs) : ∃ ts : List Addr, m D = some (.list (refs ts)) ∧ (refs ts).length = kvs.length ∧ ∀ (i : Nat) (v : Value), (refs ts)[i]? = some v → ∃ k u t, kvs[i]? = some (k, u) ∧ v = .ref t ∧ m t = some (.tup [.str k 0, u]) := by
  obtain ⟨ts, h1, h2, h3⟩ := x
  refine ⟨ts, h1, by simp [refs, h2], fun i v e => ?_⟩
  rw [List.getElem?_map] at e
  obtain ⟨t, ht, rfl⟩ := Option.map_eq_some_iff.mp e
  have hi : i < kvs.length := by have := (List.getElem?_eq_some_iff.mp ht).1; omega
  obtain ⟨t', e1, e2⟩ := h3 i kvs[i].1 kvs[i].2 (List.getElem?_eq_getElem hi)
  rw [ht] at e1; cases e1
  exact ⟨_, _, t, List.getElem?_eq_getElem hi, rfl, e2⟩
/-- the top binds: a name, an object, an expression -/
structure Bd where
  x : Str
  a : Addr
  e : Ex
noncomputable def Bd.pair (b : Bd) : Str × Value := (b.x, .ref b.a)
noncomputable def BindsAt (m : Mem) (bl : Addr) (bs : List Bd) : Prop := PairsL m bl (bs.map Bd.pair) ∧ ∀ b ∈ bs, ExAt m b.a b.e
theorem BindsAt.grow {m m' : Mem} {bl : Addr} {bs : List Bd} (x : BindsAt m bl bs) (g : Grow m m') : BindsAt m' bl bs := ⟨x.1.grow g, fun b hb => (x.2 b hb).grow g⟩
theorem BindsAt.at {m : Mem} {bl : Addr} {bs : List Bd} (x : BindsAt m bl bs) : ∃ ts : List Addr, m bl = some (.list (refs ts)) ∧ (refs ts).length = bs.length ∧ ∀ (i : Nat) (v : Value), (refs ts)[i]? = some v → ∃ b t, bs[i]? = some b ∧ v = .ref t ∧ m t = some (.tup [.str b.x 0, .ref b.a]) ∧ ExAt m b.a b.e := by
  obtain ⟨ts, h1, h2, h3⟩ := x.1.at
  refine ⟨ts, h1, by rw [h2, List.length_map], fun i v e => ?_⟩
  obtain ⟨k, u, t, e1, e2, e3⟩ := h3 i v e
  rw [List.getElem?_map] at e1
  obtain ⟨b, hb, e4⟩ := Option.map_eq_some_iff.mp e1
  cases e4
  exact ⟨b, t, hb, e2, e3, x.2 b (List.mem_of_getElem? hb)⟩
noncomputable def Ex.kd : Ex → Kd | .node k _ => k
noncomputable def Ex.kids : Ex → List Ex | .node _ ps => ps
noncomputable def Ex.params : Ex → List Str | .node (.lam ps) _ => ps | _ => []
noncomputable def arits (bs : List Bd) : List (Str × Value) := (bs.filter fun b => b.e.kd.isLam).map fun b => (b.x, .int b.e.params.length 0)
theorem filter_take {α : Type} {l : List α} {i : Nat} {x : α} (p : α → Bool) (h : l[i]? = some x) : (l.take (i + 1)).filter p = if p x then (l.take i).filter p ++ [x] else (l.take i).filter p := by
  rw [List.take_add_one, h, List.filter_append]
  cases hp : p x <;> simp [hp]
theorem comp_glob {f : Fs} {scope : Scope} {x : Str} (h : ∀ sc, (relabel scope (envS sc)).names.lookup x = some .globalImplicit) : isG (compFs scope f) x := h f.sc
section
variable {w : World} {h₀ : Heap} {n : Nat} {f : Fs} {ρ : Loc} {mem : Mem} {Q : Value → Mem → Prop}
/-- [(name, len(y.params)) for name, y in .. if isinstance(y, Lam)] -/
theorem ev_arits {y : Str} {p1 p2 p3 p4 p5 p6 p7 p8 p9 p10 p11 p12 p13 pos : Pos} {k1 k2 : Nat} {iter : Expr} {scope : Scope} (hok : compOk scope f.sc = true)
    (l1 : isL (compFs scope f) "name") (l2 : isL (compFs scope f) y) (g1 : isG (compFs scope f) "isinstance") (g2 : isG (compFs scope f) "Lam") (g3 : isG (compFs scope f) "len") (hy : (y == ("__debug__" : Str)) = false) (hyn : y ≠ "name")
    (hs : ∀ env x, foldedSetIterable iter env x = pure x)
    (h : Ev (cx w h₀) n f ρ iter mem (fun v m₁ => ∃ bl bs, v = .ref bl ∧ BindsAt m₁ bl bs ∧ bs.length ≤ 1000 ∧ (∀ b ∈ bs, b.e.params.length ≤ 1000) ∧ ∀ D m, m₁ D = none → Grow m₁ m → PairsL m D (arits bs) → Q (.ref D) m)) :
    Ev (cx w h₀) n f ρ (.ListComp (.Tuple [.Name "name" p1, .Call (.Name "len" p2) [.Attribute (.Name y p3) "params" p4] [] p5] k1 p6) [⟨.Tuple [.Name "name" p7, .Name y p8] k2 p9, iter, [.Call (.Name "isinstance" p10) [.Name y p11, .Name "Lam" p12] [] p13], 0⟩] scope pos) mem Q := by
  refine ev_comp [] hok (fun p hp => by cases hp) (h.mono ?_) hs
  rintro v m₁ ⟨bl, bs, rfl, hb, hl, hpl, k⟩
  obtain ⟨ts, x1, x2, x3⟩ := hb.at
  refine ⟨_, _, .inl ⟨bl, rfl, .inl x1, rfl⟩, fun i out D m => Grow m₁ m ∧ m₁ D = none ∧ i ≤ bs.length ∧ m D = some (.list out) ∧ out.length ≤ i ∧ PairsL m D (arits (bs.take i)), ?_, ?_, ?_, ?_⟩
  · intro D hD
    exact ⟨Grow.upd hD, hD, Nat.zero_le _, upd_same, Nat.le_refl _, [], upd_same, rfl, fun i k v e => by cases e⟩
  · rintro i out D m ⟨y1, y2, y3, y4, y5, y6⟩
    exact ⟨.inl (y1 _ _ x1), y4, by omega⟩
  · rintro i x out D m hx' ⟨y1, y2, y3, y4, y5, y6⟩
    obtain ⟨b, t, hbi, rfl, ht, he⟩ := x3 i x hx'
    have hi' : i < bs.length := (List.getElem?_eq_some_iff.mp hbi).1
    obtain ⟨kk, cs, ps, e1, hx, hps⟩ := he.node
    have hx2 := hx.grow y1
    obtain ⟨fs, q1, q2, q3⟩ := hx2
    refine as_tuple (y1 _ _ ht) rfl ?_ rfl
    refine ass_cons (as_name (sto_local l1 (ass_cons (as_name (sto_local l2 (ass_nil ?_))) rfl))) rfl
    have hly : ((y, Value.ref b.a) :: ("name", Value.str b.x 0) :: ([] : Loc) : Loc).lookup y = some (.ref b.a) := by rw [List.lookup_cons, beq_self_eq_true]
    have hln : fld ((y, Value.ref b.a) :: ("name", Value.str b.x 0) :: ([] : Loc) : Loc) "name" = some (.str b.x 0) := by
      show List.lookup _ _ = _
      rw [lookup_cons_ne (Ne.symm hyn), List.lookup_cons, beq_self_eq_true]
    refine ifs_one (tst_val ?_ (by intro _ _; rfl))
    refine ev_call (ev_builtin gn_isinstance bb_isinstance g1 ⟨callee_builtin, ?_⟩ (by decide) (by decide)) rfl
    refine evs_cons (ev_local hly l2 (evs_cons (ev_global g_Lam g2 (evs_nil ?_)) rfl) hy) rfl
    refine cal_isinst (ok_k kk) q1 (ik_Lam kk) (tru_bool ?_)
    have hke : b.e.kd = kk := by rw [e1]; rfl
    have hft := filter_take (fun b : Bd => b.e.kd.isLam) hbi
    cases hk : kk.isLam with
    | false =>
      rw [if_neg (by decide)]
      refine ⟨y1, y2, hi', y4, by omega, ?_⟩
      have : arits (bs.take (i + 1)) = arits (bs.take i) := by unfold arits; rw [hft, hke, hk]; simp
      rw [this]; exact y6
    | true =>
      rw [if_pos rfl]
      obtain ⟨xs, rfl⟩ : ∃ xs, kk = .lam xs := by cases kk <;> first | exact ⟨_, rfl⟩ | (cases hk; done)
      obtain ⟨bb, l, _, _, q5, q6⟩ := q3
      have hpp : b.e.params = xs := by rw [e1]; rfl
      refine ev_tuple (evs_cons (ev_local hln l1 ?_) rfl)
      refine evs_cons (ev_call (ev_builtin gn_len bb_len g3 ⟨callee_builtin, ?_⟩ (by decide) (by decide)) rfl) rfl
      refine evs_cons (ev_attr (ev_local hly l2 (geta_inst ok_Lam q1 q5 (fun i q => by cases q) na_Lam_params (evs_nil ?_)) hy) rfl) rfl
      have hxs : xs.length ≤ 1000 := by rw [← hpp]; exact hpl b (List.mem_of_getElem? hbi)
      refine cal_len (.inl q6) (by simp [sL]; omega) ?_
      refine evs_nil ⟨by simp, fun z hz => ?_⟩
      have hzD : z ≠ D := by rintro rfl; rw [y4] at hz; cases hz
      refine ⟨by rw [upd_ne (Ne.symm hzD)]; exact y4, (y1.trans (Grow.upd hz)).set y2, y2, hi', upd_same, by simp; omega, ?_⟩
      have : arits (bs.take (i + 1)) = arits (bs.take i) ++ [(b.x, .int xs.length 0)] := by unfold arits; rw [hft, hke, hk]; simp [hpp]
      rw [this]
      obtain ⟨us, u1, u2, u3⟩ := y6
      rw [y4] at u1; cases u1
      refine ⟨us ++ [z], by rw [upd_same]; simp [refs], by simp [u2], fun j k' v' e => ?_⟩
      by_cases hj : j < (arits (bs.take i)).length
      · rw [List.getElem?_append_left hj] at e
        obtain ⟨t', e2, e3⟩ := u3 j k' v' e
        have h1 : t' ≠ D := by rintro rfl; rw [y4] at e3; cases e3
        have h2 : t' ≠ z := by rintro rfl; rw [e3] at hz; cases hz
        exact ⟨t', by rw [List.getElem?_append_left (by omega)]; exact e2, by rw [upd_ne h1, upd_ne h2]; exact e3⟩
      · have hj' : j = (arits (bs.take i)).length := by
          have := (List.getElem?_eq_some_iff.mp e).1
          simp at this; omega
        subst hj'
        simp at e
        obtain ⟨rfl, rfl⟩ := e
        exact ⟨z, by rw [← u2]; simp, by rw [upd_ne hzD, upd_same]; simp [sL]⟩
  · rintro D out m ⟨y1, y2, y3, y4, y5, y6⟩
    rw [x2, List.take_length] at y6
    exact k D m y2 y1 y6
end
end Mine
end
section
-- F10
set_option maxRecDepth 100000
set_option maxHeartbeats 400000
set_option autoImplicit false
set_option linter.unusedVariables false
set_option linter.unusedSimpArgs false
namespace Mine
open PySem PySem.W PySem.Calls PyProof.Rows
noncomputable def Ex.cell (e : Ex) : Bool := e.kd.isCon && e.kids.all fun c => c.kd.isVar
noncomputable def cellsL (bs : List Bd) : List Bd := bs.filter fun b => b.e.cell
theorem lookup_none_of {kvs : List (Str × Value)} {x : Str} (h : ∀ p ∈ kvs, p.1 ≠ x) : kvs.lookup x = none := by
  rw [List.lookup_eq_none_iff]
  intro p hp
  simpa using Ne.symm (h p hp)
/-- with names that differ, dict(..) keeps the pairs as they stand -/
theorem dictOfPairs_nodup {kvs : List (Str × Value)} (h : (kvs.map (·.1)).Nodup) : dictOfPairs kvs = kvs := by
  have : ∀ (l acc : List (Str × Value)), ((acc ++ l).map (·.1)).Nodup → l.foldl (fun acc kv => put acc kv.1 kv.2) acc = acc ++ l := by
    intro l
    induction l with
    | nil => intro acc _; simp
    | cons p r ih =>
      intro acc hn
      have hp : acc.lookup p.1 = none := lookup_none_of fun q hq e => by
        rw [List.map_append, List.nodup_append] at hn
        exact hn.2.2 q.1 (List.mem_map_of_mem hq) p.1 (by simp) e
      rw [List.foldl_cons, put_new hp, ih _ (by simpa using hn)]
      simp
  unfold dictOfPairs
  simpa using this kvs [] (by simpa using h)
theorem mem_dictOf {kvs : List (Str × Value)} {P : Value → Prop} (h : ∀ p ∈ kvs, P p.2) : ∀ p ∈ dictOfPairs kvs, P p.2 := by
  have : ∀ (l acc : List (Str × Value)), (∀ p ∈ acc, P p.2) → (∀ p ∈ l, P p.2) → ∀ p ∈ l.foldl (fun acc kv => put acc kv.1 kv.2) acc, P p.2 := by
    intro l
    induction l with
    | nil => intro acc h1 _; exact h1
    | cons q r ih =>
      intro acc h1 h2
      refine ih _ (fun p hp => ?_) fun p hp => h2 p (List.mem_cons_of_mem _ hp)
      have hp : p ∈ put acc q.1 q.2 := hp
      unfold put stored at hp
      split at hp
      · obtain ⟨z, hz, e⟩ := List.mem_map.mp hp
        by_cases hq : z.1 = q.1
        · rw [if_pos hq] at e; subst e; exact h2 q (List.mem_cons_self ..)
        · rw [if_neg hq] at e; subst e; exact h1 z hz
      · rcases List.mem_append.mp hp with z | z
        · exact h1 p z
        · rcases List.mem_singleton.mp z with rfl
          exact h2 q (List.mem_cons_self ..)
  exact this kvs [] (fun p hp => by cases hp) h
section
variable {w : World} {h₀ : Heap} {n : Nat} {f : Fs} {ρ : Loc} {mem : Mem} {Q : Value → Mem → Prop}
theorem dict_pairs {D : Addr} {kvs : List (Str × Value)} (x : PairsL mem D kvs) (hl : kvs.length ≤ 1000000) (h : ∀ r, mem r = none → Q (.ref r) (upd mem r (.dict (dictOfPairs kvs)))) : Cal (cx w h₀) n (.type "dict") [.ref D] mem Q := by
  obtain ⟨ts, h1, h2, h3⟩ := x
  refine cal_dictP h1 (by simp [refs, h2]) (fun i k v e => ?_) hl h
  obtain ⟨t, e1, e2⟩ := h3 i k v e
  exact ⟨t, by simp [refs, e1], e2⟩
theorem arities_of_ok {bl : Addr} {bs : List Bd} (hb : BindsAt mem bl bs) (hl : bs.length ≤ 1000) (hp : ∀ b ∈ bs, b.e.params.length ≤ 1000) (h : ∀ r m', mem r = none → Grow mem m' → m' r = some (.dict (dictOfPairs (arits bs))) → Q (.ref r) m') : CodeCal (cx w h₀) (n + 2) 396 [.ref bl] mem Q := by
  refine code_fn ["binds"] lk_arities_of cd_arities_of rfl (vals1 fun _ => by kernel_rfl) (by kernel_rfl) (by kernel_rfl) ?_
  generalize hf : (⟨(topDef 21).2.2, true⟩ : Fs) = f
  have nl0 : isL f "binds" := by rw [← hf]; kernel_rfl
  have nl1 : isG f "dict" := by rw [← hf]; kernel_rfl
  clear hf
  (walk_at "GO")
  refine ev_call (ev_builtin gn_dict bb_dict (by assumption) ⟨callee_type, ?_⟩ (by decide) (by decide)) rfl
  (walk_at "GO")
  refine ev_arits (by kernel_rfl) (comp_local (by kernel_rfl)) (comp_local (by kernel_rfl)) (comp_glob fun sc => by kernel_rfl) (comp_glob fun sc => by kernel_rfl) (comp_glob fun sc => by kernel_rfl) (by decide) (by decide) (by intro _ _; rfl) ?_
  refine ev_local rfl (by assumption) ⟨bl, bs, rfl, hb, hl, hp, fun D m hD g x => ?_⟩
  (walk_at "GO")
  refine dict_pairs x (by simp only [arits, List.length_map]; exact Nat.le_trans (List.length_filter_le _ _) (by omega)) fun r hr => ?_
  exact h r _ (Grow.none g hr) (g.trans (Grow.upd hr)) upd_same
/-- [isinstance(arg, Var) for arg in ..] -/
theorem ev_allVar {p1 p2 p3 p4 p5 pos : Pos} {iter : Expr} {scope : Scope} (hok : compOk scope f.sc = true)
    (l1 : isL (compFs scope f) "arg") (g1 : isG (compFs scope f) "isinstance") (g2 : isG (compFs scope f) "Var")
    (hs : ∀ env x, foldedSetIterable iter env x = pure x)
    (h : Ev (cx w h₀) n f ρ iter mem (fun v m₁ => ∃ l bs es, v = .ref l ∧ m₁ l = some (.list (refs bs)) ∧ ExsAt m₁ bs es ∧ bs.length ≤ 1000 ∧ ∀ D m, m₁ D = none → Grow m₁ m → m D = some (.list ((es.map fun c => c.kd.isVar).map .bool)) → Q (.ref D) m)) :
    Ev (cx w h₀) n f ρ (.ListComp (.Call (.Name "isinstance" p1) [.Name "arg" p2, .Name "Var" p3] [] p4) [⟨.Name "arg" p5, iter, [], 0⟩] scope pos) mem Q := by
  refine ev_comp [] hok (fun p hp => by cases hp) (h.mono ?_) hs
  rintro v m₁ ⟨l, bs, es, rfl, hb, he, hl, k⟩
  refine ⟨_, _, .inl ⟨l, rfl, .inl hb, rfl⟩, fun i out D m => Grow m₁ m ∧ m₁ D = none ∧ i ≤ bs.length ∧ m D = some (.list out) ∧ out = ((es.take i).map fun c => c.kd.isVar).map .bool, ?_, ?_, ?_, ?_⟩
  · intro D hD
    exact ⟨Grow.upd hD, hD, Nat.zero_le _, upd_same, rfl⟩
  · rintro i out D m ⟨y1, y2, y3, y4, rfl⟩
    exact ⟨.inl (y1 _ _ hb), y4, by simp; omega⟩
  · rintro i x out D m hx' ⟨y1, y2, y3, y4, rfl⟩
    rw [List.getElem?_map] at hx'
    obtain ⟨b, hbi, rfl⟩ := Option.map_eq_some_iff.mp hx'
    have hi' : i < bs.length := (List.getElem?_eq_some_iff.mp hbi).1
    obtain ⟨e, hei, hea⟩ := he.at hbi
    obtain ⟨kk, cs, ps, rfl, hx, hps⟩ := hea.node
    obtain ⟨fs, q1, q2, q3⟩ := hx.grow y1
    refine as_name (sto_local l1 (ifs_nil ?_))
    rw [if_pos rfl]
    refine ev_call (ev_builtin gn_isinstance bb_isinstance g1 ⟨callee_builtin, ?_⟩ (by decide) (by decide)) rfl
    refine evs_cons (ev_local rfl l1 (evs_cons (ev_global g_Var g2 (evs_nil ?_)) rfl)) rfl
    refine cal_isinst (ok_k kk) q1 (ik_Var kk) ⟨y4, y1.set y2, y2, hi', upd_same, ?_⟩
    rw [List.take_add_one, hei]
    simp [Ex.kd]
  · rintro D out m ⟨y1, y2, y3, y4, rfl⟩
    have e3 : (refs bs).length = es.length := by simp [refs, he.length]
    rw [e3, List.take_length] at y4
    exact k D m y2 y1 y4
theorem cells_of_ok {bl : Addr} {bs : List Bd} (hb : BindsAt mem bl bs) (hl : bs.length ≤ 1000) (hs : ∀ b ∈ bs, b.e.size ≤ 1000) (hn : (bs.map Bd.x).Nodup)
    (h : ∀ r m', mem r = none → Grow mem m' → m' r = some (.dict ((cellsL bs).map Bd.pair)) → Q (.ref r) m') : CodeCal (cx w h₀) (n + 2) 401 [.ref bl] mem Q := by
  refine code_fn ["binds"] lk_cells_of cd_cells_of rfl (vals1 fun _ => by kernel_rfl) (by kernel_rfl) (by kernel_rfl) ?_
  generalize hf : (⟨(topDef 22).2.2, true⟩ : Fs) = f
  have nl0 : isL f "binds" := by rw [← hf]; kernel_rfl
  have nl1 : isL f "found" := by rw [← hf]; kernel_rfl
  have nl2 : isL f "name" := by rw [← hf]; kernel_rfl
  have nl3 : isL f "expr" := by rw [← hf]; kernel_rfl
  have nl4 : isG f "isinstance" := by rw [← hf]; kernel_rfl
  have nl5 : isG f "Con" := by rw [← hf]; kernel_rfl
  have nl6 : isG f "all" := by rw [← hf]; kernel_rfl
  clear hf
  (walk_at "GO")
  refine ev_dict fun fd hfd => ?_
  (walk_at "GO")
  have g₀ : Grow mem (upd mem fd (.dict [])) := Grow.upd hfd
  have hf₀ : upd mem fd (.dict []) fd = some (.dict ((cellsL (bs.take 0)).map Bd.pair)) := by rw [upd_same]; rfl
  generalize upd mem fd (.dict []) = m₀ at g₀ hf₀ ⊢
  refine St.weaken [("found", .ref fd), ("binds", .ref bl)] (by walk_at "WEAK") ?_
  refine st_for ?_ (by intro _ _; rfl)
  obtain ⟨ts, x1, x2, x3⟩ := hb.at
  refine ev_local rfl (by assumption) ⟨_, _, .inl ⟨bl, rfl, .inl (g₀ _ _ x1), rfl⟩, fun i ρ₁ m => ρ₁ = ([("found", .ref fd), ("binds", .ref bl)] : Loc) ∧ i ≤ bs.length ∧ Grow mem m ∧ m fd = some (.dict ((cellsL (bs.take i)).map Bd.pair)), ⟨rfl, Nat.zero_le _, g₀, hf₀⟩, ?_, ?_, ?_⟩
  · rintro i ρ₁ m ⟨rfl, hi, y1, y2⟩
    exact .inl (y1 _ _ x1)
  · rintro i x ρ₁ m hx' ⟨rfl, hi, y1, y2⟩
    obtain ⟨b, t, hbi, rfl, ht, he⟩ := x3 i x hx'
    have hi' : i < bs.length := (List.getElem?_eq_some_iff.mp hbi).1
    obtain ⟨kk, cs, ps, e1, hx, hps⟩ := he.node
    obtain ⟨fs, q1, q2, q3⟩ := hx.grow y1
    have hke : b.e.kd = kk := by rw [e1]; rfl
    have hkid : b.e.kids = ps := by rw [e1]; rfl
    have hft := filter_take (fun b : Bd => b.e.cell) hbi
    have hsz : b.e.size ≤ 1000 := hs b (List.mem_of_getElem? hbi)
    have hpl := length_sizes ps
    have hpl2 := hps.length
    rw [e1] at hsz
    simp only [Ex.size] at hsz
    refine as_tuple (y1 _ _ ht) rfl ?_ rfl
    (walk_at "GO")
    -- not a cell: nothing is stored
    have keep : b.e.cell = false → ∀ m', Grow m m' → m' fd = some (.dict ((cellsL (bs.take i)).map Bd.pair)) → m' fd = some (.dict ((cellsL (bs.take (i + 1))).map Bd.pair)) := fun hc m' g' e' => by
      have : cellsL (bs.take (i + 1)) = cellsL (bs.take i) := by unfold cellsL; rw [hft, hc]; simp
      rw [this]; exact e'
    refine ev_call (ev_builtin gn_isinstance bb_isinstance (by assumption) ⟨callee_builtin, ?_⟩ (by decide) (by decide)) rfl
    (walk_at "GO")
    refine ev_global g_Con (by assumption) ?_
    (walk_at "GO")
    refine cal_isinst (ok_k kk) q1 (ik_Con kk) ?_
    (walk_at "GO")
    cases hk : kk.isCon with
    | false =>
      rw [if_neg (by decide)]
      refine sts_nil (sts_nil ⟨_, (by walk_at "WEAK"), rfl, hi', y1, keep (by simp [Ex.cell, hke, hk]) m (Grow.refl _) y2⟩)
    | true =>
      rw [if_pos rfl]
      obtain rfl : kk = .con := by cases kk <;> first | rfl | (cases hk; done)
      obtain ⟨l, q5, q6⟩ := q3
      (walk_at "GO")
      refine ev_call (ev_builtin gn_all bb_all (by assumption) ⟨callee_builtin, ?_⟩ (by decide) (by decide)) rfl
      (walk_at "GO")
      refine ev_allVar (by kernel_rfl) (comp_local (by kernel_rfl)) (comp_glob fun sc => by kernel_rfl) (comp_glob fun sc => by kernel_rfl) (by intro _ _; rfl) ?_
      (walk_at "GO")
      refine geta_inst ok_Con q1 q5 (fun i q => by cases q) na_Con_args ⟨l, cs, ps, rfl, q6, ExsAt.grow y1 hps, by omega, fun D m₂ hD g x => ?_⟩
      (walk_at "GO")
      refine cal_all (.inl x) ?_
      (walk_at "GO")
      have hcell : b.e.cell = (ps.map fun c => c.kd.isVar).all id := by simp [Ex.cell, hke, hkid, hk]
      rw [← hcell]
      cases hc : b.e.cell with
      | false =>
        rw [if_neg (by decide)]
        refine sts_nil (sts_nil ⟨_, (by walk_at "WEAK"), rfl, hi', y1.trans g, keep hc m₂ g (g _ _ y2)⟩)
      | true =>
        (walk_at "GO")
        have hlen : ((cellsL (bs.take i)).map Bd.pair).length ≤ 1000 := by
          rw [List.length_map]; unfold cellsL; exact Nat.le_trans (List.length_filter_le _ _) (by simp; omega)
        refine seti_dict (g _ _ y2) (by omega) ?_
        refine sts_nil (sts_nil ⟨_, (by walk_at "WEAK"), rfl, hi', (y1.trans g).set hfd, ?_⟩)
        rw [upd_same]
        have hnew : ((cellsL (bs.take i)).map Bd.pair).lookup b.x = none := lookup_none_of fun p hp e => by
          obtain ⟨b', hb', rfl⟩ := List.mem_map.mp hp
          have h1 : b' ∈ bs.take i := (List.mem_filter.mp hb').1
          obtain ⟨j, hj, hj'⟩ := List.getElem_of_mem h1
          have hj2 : j < i := by simp at hj; omega
          have e4 : (bs.map Bd.x)[j]? = (bs.map Bd.x)[i]? := by
            rw [List.getElem?_map, List.getElem?_map, hbi]
            have : bs[j]? = some b' := by rw [List.getElem_take] at hj'; rw [← hj', List.getElem?_eq_getElem (by omega)]
            rw [this]; exact congrArg some e
          have := (List.getElem?_inj (by simp; omega) hn).mp e4
          omega
        rw [put_new hnew]
        have : cellsL (bs.take (i + 1)) = cellsL (bs.take i) ++ [b] := by unfold cellsL; rw [hft, hc]; simp
        rw [this, List.map_append]; rfl
  · rintro ρ₁ m ⟨rfl, hi, y1, y2⟩
    rw [x2, List.take_length] at y2
    (walk_at "GO")
    exact h fd m hfd y1 y2
end
end Mine
end
section
-- F11
set_option maxRecDepth 100000
set_option maxHeartbeats 400000
set_option autoImplicit false
set_option linter.unusedVariables false
set_option linter.unusedSimpArgs false
namespace Mine
open PySem PySem.W PySem.Calls PyProof.Rows
section
variable {w : World} {h₀ : Heap} {n : Nat} {f : Fs} {ρ : Loc} {mem : Mem} {Q : Value → Mem → Prop}
theorem avoid_ok {s l d : Addr} {fs : Loc} {xs : List Str} (hs : mem s = some (.inst 314 fs)) (hf : fld fs "avoided" = some (.ref d)) (hd : mem d = some (.dict [])) (hl : LstAt mem l (sL xs)) (hdl : d ≠ l) (hx : xs.length ≤ 1000)
    (h : ∀ m', GrowX d mem m' → (∃ kvs, m' d = some (.dict kvs)) → Q .none m') : CodeCal (cx w h₀) (n + 1) 304 [.ref s, .ref l] mem Q := by
  refine code_fn ["self", "names"] lk_Fresh_avoid cd_Fresh_avoid rfl (vals2 fun _ _ => by kernel_rfl) (by kernel_rfl) (by kernel_rfl) ?_
  generalize hf : (⟨(methDef 12 1).2.2, true⟩ : Fs) = f
  have nl0 : isL f "self" := by rw [← hf]; kernel_rfl
  have nl1 : isL f "names" := by rw [← hf]; kernel_rfl
  have nl2 : isL f "name" := by rw [← hf]; kernel_rfl
  clear hf
  have hsd : s ≠ d := by rintro rfl; rw [hs] at hd; cases hd
  (walk_at "GO")
  refine St.weaken [("self", .ref s), ("names", .ref l)] (by walk_at "WEAK") ?_
  refine st_for ?_ (by intro _ _; rfl)
  refine ev_local rfl (by assumption) ⟨sL xs, _, .inl ⟨l, rfl, hl, rfl⟩, fun i ρ₁ m => ρ₁ = ([("self", .ref s), ("names", .ref l)] : Loc) ∧ i ≤ xs.length ∧ GrowX d mem m ∧ ∃ kvs, m d = some (.dict kvs) ∧ kvs.length ≤ i, ⟨rfl, Nat.zero_le _, GrowX.refl _ _, [], hd, Nat.le_refl _⟩, ?_, ?_, ?_⟩
  · rintro i ρ₁ m ⟨rfl, hi, y1, y2⟩
    exact hl.imp (y1 _ _ (Ne.symm hdl)) (y1 _ _ (Ne.symm hdl))
  · rintro i x ρ₁ m hx' ⟨rfl, hi, y1, kvs, y2, y3⟩
    have hi' : i < xs.length := by have := (List.getElem?_eq_some_iff.mp hx').1; simpa [sL] using this
    rw [sL, List.getElem?_map] at hx'
    obtain ⟨z, hz, rfl⟩ := Option.map_eq_some_iff.mp hx'
    (walk_at "GO")
    refine geta_inst ok_Fresh (y1 _ _ hsd hs) hf (fun i q => by cases q) na_Fresh_avoided ?_
    (walk_at "GO")
    refine seti_dict y2 (by omega) ?_
    have : (put kvs z (.bool true)).length ≤ kvs.length + 1 := stored_length_le ..
    refine sts_nil ⟨_, (by walk_at "WEAK"), rfl, hi', fun a o ha e => by rw [upd_ne ha]; exact y1 a o ha e, _, upd_same, by omega⟩
  · rintro ρ₁ m ⟨rfl, hi, y1, kvs, y2, y3⟩
    exact sts_nil (h m y1 ⟨kvs, y2⟩)
theorem init_Fresh {a l : Addr} {xs : List Str} (ha : mem a = some (.inst 314 [])) (hl : LstAt mem l (sL xs)) (hx : xs.length ≤ 1000) (h : ∀ m', GrowX a mem m' → Q .none m') : CodeCal (cx w h₀) (n + 2) 297 [.ref a, .ref l] mem Q := by
  refine code_plain (ρ := ([("self", .ref a), ("avoided", .ref l)] : Loc).reverse) lk_Fresh_init cd_Fresh_init (fun s vals X hv => ?_) (by kernel_rfl) ?_
  · obtain ⟨x, y, rfl, h1, h2⟩ := er_two hv
    refine ⟨[("self", x), ("avoided", y)], binds_K (T := 290) (o := ko_290 w.params) X rfl (by kernel_rfl) rfl rfl rfl, by simp [erP, h1, h2], ?_⟩
    refine List.forall_mem_cons.mpr ⟨by kernel_rfl, List.forall_mem_cons.mpr ⟨by kernel_rfl, List.forall_mem_nil _⟩⟩
  generalize hf : (⟨(methDef 12 0).2.2, true⟩ : Fs) = f
  have nl0 : isL f "self" := by rw [← hf]; kernel_rfl
  have nl1 : isL f "avoided" := by rw [← hf]; kernel_rfl
  clear hf
  (walk_at "GO")
  refine ev_dict fun d hd => ?_
  (walk_at "GO")
  have hda : d ≠ a := by rintro rfl; rw [ha] at hd; cases hd
  refine seta_inst ok_Fresh (by rw [upd_ne (Ne.symm hda)]; exact ha) ta_Fresh_avoided (by simp) ?_
  (walk_at "GO")
  refine ev_dict fun d' hd' => ?_
  (walk_at "GO")
  have hda' : d' ≠ a := by rintro rfl; rw [upd_same] at hd'; cases hd'
  refine seta_inst (fs := [("avoided", .ref d)]) ok_Fresh (by rw [upd_ne (Ne.symm hda'), upd_same]) ta_Fresh_numbers (by simp) ?_
  (walk_at "GO")
  have hld : LstAt mem l (sL xs) → d ≠ l := by rintro (q | q) rfl <;> (rw [hd] at q; cases q)
  refine ev_meth (ev_local rfl (by assumption) ⟨_, meth_own ok_Fresh upd_same fi_Fresh_avoid ty_Fresh_avoid (by rfl), rfl, callee_K ke_Fresh_avoid, evs_cons (ev_local rfl (by assumption) (evs_nil ?_)) rfl⟩) rfl rfl rfl (by decide)
  refine (avoid_ok (d := d) (xs := xs) upd_same rfl ?_ ?_ (hld hl) hx fun m' g _ => sts_nil (h m' fun b o hb e => ?_)).cal
  · grind [upd]
  · rcases hl with hl | hl
    · left; grind [upd]
    · right; grind [upd]
  · refine g b o ?_ ?_
    · rintro rfl; rw [e] at hd; cases hd
    · have h1 : b ≠ d := by rintro rfl; rw [e] at hd; cases hd
      have h2 : b ≠ d' := by rintro rfl; grind [upd]
      grind [upd]
theorem new_Fresh {l : Addr} {xs : List Str} (hl : LstAt mem l (sL xs)) (hx : xs.length ≤ 1000) (h : ∀ a m', mem a = none → Grow mem m' → Q (.ref a) m') : Cal (cx w h₀) (n + 3) (.ref 314) [.ref l] mem Q :=
  (code_class ok_Fresh fi_Fresh_init ty_Fresh_init fun a d h1 h2 h3 => init_Fresh upd_same (hl.grow (by grind [upd, Grow])) hx fun m' g =>
    ⟨rfl, h a m' h1 fun b o e => g b o (by rintro rfl; rw [h1] at e; cases e) (by grind [upd])⟩).cal
end
end Mine
end
section
-- F12
set_option maxRecDepth 100000
set_option maxHeartbeats 400000
set_option autoImplicit false
set_option linter.unusedVariables false
set_option linter.unusedSimpArgs false
namespace Mine
open PySem PySem.W PySem.Calls PyProof.Rows
noncomputable def Ex.atom (e : Ex) : Bool := e.kd.isVar || e.kd.isLit || (e.kd.isCon && e.kids.isEmpty)
/-- may stand for its name -/
noncomputable def rowOk (own : Str → Bool) (M : Nat) (b : Bd) : Bool := !own b.x && (b.e.atom || (b.e.kd.isLam && decide (b.e.size ≤ M)))
noncomputable def rowsL (own : Str → Bool) (M : Nat) (bs : List Bd) : List Bd := bs.filter (rowOk own M)
theorem pair_new {bs : List Bd} {i : Nat} {b : Bd} {l : List Bd} (hn : (bs.map Bd.x).Nodup) (hbi : bs[i]? = some b) (hl : ∀ b' ∈ l, b' ∈ bs.take i) : (l.map Bd.pair).lookup b.x = none := lookup_none_of fun p hp e => by
  obtain ⟨b', hb', rfl⟩ := List.mem_map.mp hp
  have hi' : i < bs.length := (List.getElem?_eq_some_iff.mp hbi).1
  obtain ⟨j, hj, hj'⟩ := List.getElem_of_mem (hl b' hb')
  have hj2 : j < i := by simp at hj; omega
  have e4 : (bs.map Bd.x)[j]? = (bs.map Bd.x)[i]? := by
    rw [List.getElem?_map, List.getElem?_map, hbi]
    have : bs[j]? = some b' := by rw [List.getElem_take] at hj'; rw [← hj', List.getElem?_eq_getElem (by omega)]
    rw [this]; exact congrArg some e
  have := (List.getElem?_inj (by simp; omega) hn).mp e4
  omega
section
variable {w : World} {h₀ : Heap} {n : Nat} {f : Fs} {ρ : Loc} {mem : Mem} {Q : Value → Mem → Prop}
theorem init_Top {a bl ow : Addr} {M : Nat} {bs : List Bd} {okvs : List (Str × Value)} (ha : mem a = some (.inst 425 [])) (hb : BindsAt mem bl bs) (ho : mem ow = some (.dict okvs)) (hba : ∀ b ∈ bs, ∀ m', GrowX a mem m' → BindsAt m' bl bs)
    (hl : bs.length ≤ 1000) (hs : ∀ b ∈ bs, b.e.size ≤ 1000) (hn : (bs.map Bd.x).Nodup)
    (h : ∀ d m', mem d = none → GrowX a mem m' → m' a = some (.inst 425 [("rows", .ref d)]) → m' d = some (.dict ((rowsL (fun x => (okvs.lookup x).isSome) M bs).map Bd.pair)) → Q .none m') : CodeCal (cx w h₀) (n + 4) 415 [.ref a, .ref bl, .int M 0, .ref ow] mem Q := by
  refine code_fn ["self", "binds", "most", "own"] lk_TopFunctions_init cd_TopFunctions_init rfl (vals4 fun _ _ _ _ => by kernel_rfl) (by kernel_rfl) (by kernel_rfl) ?_
  generalize hf : (⟨(methDef 24 0).2.2, true⟩ : Fs) = f
  have nl0 : isL f "self" := by rw [← hf]; kernel_rfl
  have nl1 : isL f "binds" := by rw [← hf]; kernel_rfl
  have nl2 : isL f "most" := by rw [← hf]; kernel_rfl
  have nl3 : isL f "own" := by rw [← hf]; kernel_rfl
  have nl4 : isL f "name" := by rw [← hf]; kernel_rfl
  have nl5 : isL f "expr" := by rw [← hf]; kernel_rfl
  have nl6 : isG f "is_atom" := by rw [← hf]; kernel_rfl
  have nl7 : isG f "isinstance" := by rw [← hf]; kernel_rfl
  have nl8 : isG f "Lam" := by rw [← hf]; kernel_rfl
  have nl9 : isG f "size_of" := by rw [← hf]; kernel_rfl
  clear hf
  (walk_at "GO")
  refine ev_dict fun d hd => ?_
  (walk_at "GO")
  have hda : d ≠ a := by rintro rfl; rw [ha] at hd; cases hd
  refine seta_inst ok_TopFunctions (by rw [upd_ne (Ne.symm hda)]; exact ha) ta_TopFunctions_rows (by simp) ?_
  have g₀ : GrowX a mem (upd (upd mem d (.dict [])) a (.inst 425 [("rows", .ref d)])) := fun b o hb e => by grind [upd]
  have ha₀ : upd (upd mem d (.dict [])) a (.inst 425 [("rows", .ref d)]) a = some (.inst 425 [("rows", .ref d)]) := upd_same
  have hd₀ : upd (upd mem d (.dict [])) a (.inst 425 [("rows", .ref d)]) d = some (.dict ((rowsL (fun x => (okvs.lookup x).isSome) M (bs.take 0)).map Bd.pair)) := by rw [upd_ne hda, upd_same]; rfl
  generalize upd (upd mem d (.dict [])) a (.inst 425 [("rows", .ref d)]) = m₀ at g₀ ha₀ hd₀ ⊢
  refine sts_cons (St.weaken [("self", .ref a), ("binds", .ref bl), ("most", .int M 0), ("own", .ref ow)] (by walk_at "WEAK") ?_)
  refine st_for ?_ (by intro _ _; rfl)
  obtain ⟨ts, x1, x2, x3⟩ := hb.at
  have hbla : bl ≠ a := by rintro rfl; rw [ha] at x1; cases x1
  have howa : ow ≠ a := by rintro rfl; rw [ha] at ho; cases ho
  refine ev_local rfl (by assumption) ⟨_, _, .inl ⟨bl, rfl, .inl (g₀ _ _ hbla x1), rfl⟩, fun i ρ₁ m => ρ₁ = ([("self", .ref a), ("binds", .ref bl), ("most", .int M 0), ("own", .ref ow)] : Loc) ∧ i ≤ bs.length ∧ GrowX a mem m ∧ m a = some (.inst 425 [("rows", .ref d)]) ∧ m d = some (.dict ((rowsL (fun x => (okvs.lookup x).isSome) M (bs.take i)).map Bd.pair)), ⟨rfl, Nat.zero_le _, g₀, ha₀, hd₀⟩, ?_, ?_, ?_⟩
  · rintro i ρ₁ m ⟨rfl, hi, y1, _⟩
    exact .inl (y1 _ _ hbla x1)
  · rintro i x ρ₁ m hx' ⟨rfl, hi, y1, y2, y3⟩
    obtain ⟨b, t, hbi, rfl, ht, _⟩ := x3 i x hx'
    have hi' : i < bs.length := (List.getElem?_eq_some_iff.mp hbi).1
    have hbm := List.mem_of_getElem? hbi
    have he : ExAt m b.a b.e := (hba b hbm m y1).2 b hbm
    obtain ⟨kk, cs, ps, e1, hx, hps⟩ := he.node
    have hx' := hx
    obtain ⟨fs, q1, q2, q3⟩ := hx'
    have hke : b.e.kd = kk := by rw [e1]; rfl
    have hkid : b.e.kids = ps := by rw [e1]; rfl
    have hft := filter_take (rowOk (fun x => (okvs.lookup x).isSome) M) hbi
    have hsz : b.e.size ≤ 1000 := hs b hbm
    have hsz' : 1 + sizes ps ≤ 1000 := by rw [e1] at hsz; simpa only [Ex.size] using hsz
    have hpl := length_sizes ps
    have hpl2 := hps.length
    have hta : t ≠ a := by rintro rfl; rw [ha] at ht; cases ht
    have hat : atomic kk cs = b.e.atom := by
      have : cs.isEmpty = ps.isEmpty := by cases cs <;> cases ps <;> simp at hpl2 ⊢
      simp [atomic, Ex.atom, hke, hkid, this]
    -- no row
    have keep : rowOk (fun x => (okvs.lookup x).isSome) M b = false → ∀ m', Grow m m' → ∃ ρ₄ : Loc, (∀ p ∈ ρ₄, ([("expr", .ref b.a), ("name", .str b.x 0), ("self", .ref a), ("binds", .ref bl), ("most", .int M 0), ("own", .ref ow)] : Loc).lookup p.1 = some p.2) ∧
        (ρ₄ = ([("self", .ref a), ("binds", .ref bl), ("most", .int M 0), ("own", .ref ow)] : Loc) ∧ i + 1 ≤ bs.length ∧ GrowX a mem m' ∧ m' a = some (.inst 425 [("rows", .ref d)]) ∧ m' d = some (.dict ((rowsL (fun x => (okvs.lookup x).isSome) M (bs.take (i + 1))).map Bd.pair))) := fun hc m' g => by
      refine ⟨_, (by walk_at "WEAK"), rfl, hi', fun b' o hb' e => g _ _ (y1 b' o hb' e), g _ _ y2, ?_⟩
      have : rowsL (fun x => (okvs.lookup x).isSome) M (bs.take (i + 1)) = rowsL (fun x => (okvs.lookup x).isSome) M (bs.take i) := by unfold rowsL; rw [hft, hc]; simp
      rw [this]; exact g _ _ y3
    refine as_tuple (y1 _ _ hta ht) rfl ?_ rfl
    (walk_at "GO")
    refine cmp_notInD (y1 _ _ howa ho) ?_
    (walk_at "GO")
    cases hown : (okvs.lookup b.x).isSome with
    | true => exact sts_nil (sts_nil (keep (by simp [rowOk, hown]) m (Grow.refl _)))
    | false =>
      rw [Bool.not_false]
      (walk_at "GO")
      refine ev_call (ev_global g_is_atom (by assumption) ⟨callee_K ke_is_atom, ?_⟩) rfl
      (walk_at "GO")
      refine (is_atom_ok (n := n + 1) hx (by omega) fun m₁ g₁ => ?_).cal
      (walk_at "GO")
      -- stored
      have put' : rowOk (fun x => (okvs.lookup x).isSome) M b = true → ∀ m', Grow m m' → ∃ ρ₄ : Loc, (∀ p ∈ ρ₄, ([("expr", .ref b.a), ("name", .str b.x 0), ("self", .ref a), ("binds", .ref bl), ("most", .int M 0), ("own", .ref ow)] : Loc).lookup p.1 = some p.2) ∧
          (ρ₄ = ([("self", .ref a), ("binds", .ref bl), ("most", .int M 0), ("own", .ref ow)] : Loc) ∧ i + 1 ≤ bs.length ∧ GrowX a mem (upd m' d (.dict (put ((rowsL (fun x => (okvs.lookup x).isSome) M (bs.take i)).map Bd.pair) b.x (.ref b.a)))) ∧
            upd m' d (.dict (put ((rowsL (fun x => (okvs.lookup x).isSome) M (bs.take i)).map Bd.pair) b.x (.ref b.a))) a = some (.inst 425 [("rows", .ref d)]) ∧
            upd m' d (.dict (put ((rowsL (fun x => (okvs.lookup x).isSome) M (bs.take i)).map Bd.pair) b.x (.ref b.a))) d = some (.dict ((rowsL (fun x => (okvs.lookup x).isSome) M (bs.take (i + 1))).map Bd.pair))) := fun hc m' g => by
        refine ⟨_, (by walk_at "WEAK"), rfl, hi', fun b' o hb' e => ?_, by rw [upd_ne (Ne.symm hda)]; exact g _ _ y2, ?_⟩
        · rw [upd_ne (by rintro rfl; rw [e] at hd; cases hd)]; exact g _ _ (y1 b' o hb' e)
        · have : rowsL (fun x => (okvs.lookup x).isSome) M (bs.take (i + 1)) = rowsL (fun x => (okvs.lookup x).isSome) M (bs.take i) ++ [b] := by unfold rowsL; rw [hft, hc]; simp
          rw [upd_same, this, put_new (pair_new (l := rowsL (fun x => (okvs.lookup x).isSome) M (bs.take i)) hn hbi fun b' hb' => (List.mem_filter.mp hb').1), List.map_append]; rfl
      have hlen : ((rowsL (fun x => (okvs.lookup x).isSome) M (bs.take i)).map Bd.pair).length ≤ 1000 := by
        rw [List.length_map]; unfold rowsL; exact Nat.le_trans (List.length_filter_le _ _) (by simp; omega)
      cases hatom : b.e.atom with
      | true =>
        rw [hat, hatom]
        (walk_at "GO")
        refine geta_inst ok_TopFunctions (g₁ _ _ y2) rfl (fun i q => by cases q) na_TopFunctions_rows ?_
        (walk_at "GO")
        refine seti_dict (g₁ _ _ y3) (by omega) ?_
        exact sts_nil (sts_nil (put' (by simp [rowOk, hown, hatom]) m₁ g₁))
      | false =>
        rw [hat, hatom]
        (walk_at "GO")
        refine ev_call (ev_builtin gn_isinstance bb_isinstance (by assumption) ⟨callee_builtin, ?_⟩ (by decide) (by decide)) rfl
        (walk_at "GO")
        refine ev_global g_Lam (by assumption) ?_
        (walk_at "GO")
        refine cal_isinst (ok_k kk) (g₁ _ _ q1) (ik_Lam kk) ?_
        (walk_at "GO")
        cases hlam : kk.isLam with
        | false =>
          (walk_at "GO")
          exact sts_nil (sts_nil (keep (by simp [rowOk, hown, hatom, hke, hlam]) m₁ g₁))
        | true =>
          (walk_at "GO")
          refine ev_call (ev_global g_size_of (by assumption) ⟨callee_K ke_size_of, ?_⟩) rfl
          (walk_at "GO")
          refine (size_of_ok (n := n) (he.grow g₁) (by omega) hsz fun m₂ g₂ => ?_).cal
          (walk_at "GO")
          by_cases hM : b.e.size ≤ M
          · have e5 : decide (min (b.e.size : Int) ((M : Int) + 1) ≤ (M : Int)) = true := decide_eq_true (by omega)
            rw [e5]
            (walk_at "GO")
            refine geta_inst ok_TopFunctions (g₂ _ _ (g₁ _ _ y2)) rfl (fun i q => by cases q) na_TopFunctions_rows ?_
            (walk_at "GO")
            refine seti_dict (g₂ _ _ (g₁ _ _ y3)) (by omega) ?_
            exact sts_nil (sts_nil (put' (by simp [rowOk, hown, hatom, hke, hlam, hM]) m₂ (g₁.trans g₂)))
          · have e5 : decide (min (b.e.size : Int) ((M : Int) + 1) ≤ (M : Int)) = false := decide_eq_false (by omega)
            rw [e5]
            (walk_at "GO")
            exact sts_nil (sts_nil (keep (by simp [rowOk, hown, hatom, hke, hlam, hM]) m₂ (g₁.trans g₂)))
  · rintro ρ₁ m ⟨rfl, hi, y1, y2, y3⟩
    rw [x2, List.take_length] at y3
    exact sts_nil (h d m hd y1 y2 y3)
theorem new_Top {bl ow : Addr} {M : Nat} {bs : List Bd} {okvs : List (Str × Value)} (hb : BindsAt mem bl bs) (ho : mem ow = some (.dict okvs))
    (hl : bs.length ≤ 1000) (hs : ∀ b ∈ bs, b.e.size ≤ 1000) (hn : (bs.map Bd.x).Nodup)
    (h : ∀ a d m', mem a = none → Grow mem m' → m' a = some (.inst 425 [("rows", .ref d)]) → m' d = some (.dict ((rowsL (fun x => (okvs.lookup x).isSome) M bs).map Bd.pair)) → Q (.ref a) m') : Cal (cx w h₀) (n + 5) (.ref 425) [.ref bl, .int M 0, .ref ow] mem Q :=
  (code_class ok_TopFunctions fi_TopFunctions_init ty_TopFunctions_init fun a d h1 h2 h3 => init_Top (bs := bs) upd_same (hb.grow (by grind [upd, Grow])) (by grind [upd])
    (fun b hbm m' g => hb.grow fun x o e => g x o (by rintro rfl; rw [h1] at e; cases e) (by grind [upd])) hl hs hn fun d' m' q1 q2 q3 q4 =>
    ⟨rfl, h a d' m' h1 (fun x o e => q2 x o (by rintro rfl; rw [h1] at e; cases e) (by grind [upd])) q3 q4⟩).cal
/-- the row that stands for a name -/
noncomputable def rowOf (rs : List Bd) (x : Str) : Option Bd := rs.find? fun b => b.x = x
theorem rowOf_lookup (rs : List Bd) (x : Str) : (rs.map Bd.pair).lookup x = (rowOf rs x).map fun b => .ref b.a := by
  induction rs with
  | nil => rfl
  | cons b r ih =>
    rw [List.map_cons, rowOf, List.find?_cons]
    show List.lookup x ((b.x, Value.ref b.a) :: _) = _
    rw [List.lookup_cons]
    by_cases h : x = b.x
    · subst h; simp
    · rw [show (x == b.x) = false from beq_eq_false_iff_ne.mpr h]
      simp only [decide_eq_false (Ne.symm h)]
      exact ih
theorem rowOf_mem {rs : List Bd} {x : Str} {b : Bd} (h : rowOf rs x = some b) : b ∈ rs ∧ b.x = x := by
  have h1 := List.mem_of_find?_eq_some h
  have h2 := List.find?_some h
  exact ⟨h1, by simpa using h2⟩
/-- what instead_of hands back for a name -/
noncomputable def insteadVar (rs : List Bd) (x : Str) (node : Addr) : Addr := match rowOf rs x with
  | some b => if b.e.atom then b.a else node
  | none => node
theorem instead_var {s d a fr : Addr} {x : Str} {rs : List Bd} (hs : mem s = some (.inst 425 [("rows", .ref d)])) (hd : mem d = some (.dict (rs.map Bd.pair))) (hr : ∀ b ∈ rs, ExAt mem b.a b.e ∧ b.e.size ≤ 1000) (hx : ExNode mem a (.var x) [])
    (h : ∀ m', Grow mem m' → Q (.ref (insteadVar rs x a)) m') : CodeCal (cx w h₀) (n + 3) 422 [.ref s, .ref a, .ref fr] mem Q := by
  refine code_fn ["self", "node", "fresh"] lk_TopFunctions_instead_of cd_TopFunctions_instead_of rfl (vals3 fun _ _ _ => by kernel_rfl) (by kernel_rfl) (by kernel_rfl) ?_
  generalize hf : (⟨(methDef 24 1).2.2, true⟩ : Fs) = f
  have nl0 : isL f "self" := by rw [← hf]; kernel_rfl
  have nl1 : isL f "node" := by rw [← hf]; kernel_rfl
  have nl2 : isL f "fresh" := by rw [← hf]; kernel_rfl
  have nl3 : isL f "found" := by rw [← hf]; kernel_rfl
  have nl4 : isG f "isinstance" := by rw [← hf]; kernel_rfl
  have nl5 : isG f "Var" := by rw [← hf]; kernel_rfl
  have nl6 : isG f "is_atom" := by rw [← hf]; kernel_rfl
  have nl7 : isG f "App" := by rw [← hf]; kernel_rfl
  have nl8 : isG f "Lam" := by rw [← hf]; kernel_rfl
  have nl9 : isG f "len" := by rw [← hf]; kernel_rfl
  clear hf
  obtain ⟨fs, q1, q2, q3, _⟩ := hx
  (walk_at "GO")
  refine ev_call (ev_builtin gn_isinstance bb_isinstance (by assumption) ⟨callee_builtin, ?_⟩ (by decide) (by decide)) rfl
  (walk_at "GO")
  refine ev_global g_Var (by assumption) ?_
  (walk_at "GO")
  refine cal_isinst ok_Var q1 io_Var_Var ?_
  (walk_at "GO")
  refine ev_meth (ev_attr (ev_local rfl (by assumption) (geta_inst ok_TopFunctions hs rfl (fun i q => by cases q) na_TopFunctions_rows ⟨_, meth_get hd, rfl, callee_builtin, ?_⟩)) rfl) rfl rfl rfl (by decide)
  (walk_at "GO")
  refine geta_inst ok_Var q1 q3 (fun i q => by cases q) na_Var_name ?_
  (walk_at "GO")
  refine cal_get1 hd ?_
  rw [rowOf_lookup]
  cases hro : rowOf rs x with
  | none =>
    have hi : insteadVar rs x a = a := by unfold insteadVar; rw [hro]
    rw [hi] at h
    (walk_at "GO")
    refine ev_ifexp (tst_bool (tsts_and (tst_cmp (ev_local (v := .none) rfl (by assumption) ?_))))
    (walk_at "GO")
    refine cmp_isntNone (.inl rfl) ?_
    refine tru_bool (iteF (iteF ?_))
    refine ev_local rfl (by assumption) ?_
    exact h _ (Grow.refl _)
  | some b =>
    obtain ⟨hb, hbx⟩ := rowOf_mem hro
    obtain ⟨he, hsz⟩ := hr b hb
    obtain ⟨kk, cs, ps, e1, hx', hps⟩ := he.node
    have hpl := length_sizes ps
    have hpl2 := hps.length
    have hsz' : 1 + sizes ps ≤ 1000 := by rw [e1] at hsz; simpa only [Ex.size] using hsz
    have hat : atomic kk cs = b.e.atom := by
      have : cs.isEmpty = ps.isEmpty := by cases cs <;> cases ps <;> simp at hpl2 ⊢
      simp [atomic, Ex.atom, e1, Ex.kd, Ex.kids, this]
    (walk_at "GO")
    refine ev_ifexp (tst_bool (tsts_and (tst_cmp (ev_local (v := .ref b.a) rfl (by assumption) ?_))))
    (walk_at "GO")
    refine cmp_isntNone (.inr ⟨_, rfl⟩) ?_
    refine tru_bool (iteT ?_)
    (walk_at "GO")
    refine ev_call (ev_global g_is_atom (by assumption) ⟨callee_K ke_is_atom, ?_⟩) rfl
    refine evs_cons (ev_local (v := .ref b.a) rfl (by assumption) (evs_nil ?_)) rfl
    refine (is_atom_ok (n := n) hx' (by omega) fun m₁ g₁ => ?_).cal
    rw [hat]
    cases hatom : b.e.atom with
    | true =>
      (walk_at "GO")
      have hi : insteadVar rs x a = b.a := by unfold insteadVar; rw [hro]; simp [hatom]
      rw [hi] at h
      exact h _ g₁
    | false =>
      (walk_at "GO")
      have hi : insteadVar rs x a = a := by unfold insteadVar; rw [hro]; simp [hatom]
      rw [hi] at h
      exact h _ g₁
end
end Mine
end
section
-- F13
set_option maxRecDepth 100000
set_option maxHeartbeats 400000
set_option autoImplicit false
set_option linter.unusedVariables false
set_option linter.unusedSimpArgs false
namespace Mine
open PySem PySem.W PySem.Calls PyProof.Rows
section
variable {w : World} {h₀ : Heap} {n : Nat} {f : Fs} {ρ : Loc} {mem : Mem} {Q : Value → Mem → Prop}
theorem instead_other {s a fr : Addr} {k : Kd} {bs : List Addr} (hx : ExNode mem a k bs) (h1 : k.isVar = false) (h2 : k.isApp = false) (h : Q (.ref a) mem) : CodeCal (cx w h₀) (n + 3) 422 [.ref s, .ref a, .ref fr] mem Q := by
  refine code_fn ["self", "node", "fresh"] lk_TopFunctions_instead_of cd_TopFunctions_instead_of rfl (vals3 fun _ _ _ => by kernel_rfl) (by kernel_rfl) (by kernel_rfl) ?_
  generalize hf : (⟨(methDef 24 1).2.2, true⟩ : Fs) = f
  have nl0 : isL f "self" := by rw [← hf]; kernel_rfl
  have nl1 : isL f "node" := by rw [← hf]; kernel_rfl
  have nl2 : isL f "fresh" := by rw [← hf]; kernel_rfl
  have nl3 : isL f "found" := by rw [← hf]; kernel_rfl
  have nl4 : isG f "isinstance" := by rw [← hf]; kernel_rfl
  have nl5 : isG f "Var" := by rw [← hf]; kernel_rfl
  have nl6 : isG f "is_atom" := by rw [← hf]; kernel_rfl
  have nl7 : isG f "App" := by rw [← hf]; kernel_rfl
  have nl8 : isG f "Lam" := by rw [← hf]; kernel_rfl
  have nl9 : isG f "len" := by rw [← hf]; kernel_rfl
  clear hf
  obtain ⟨fs, q1, q2, q3⟩ := hx
  (walk_at "GO")
  refine ev_call (ev_builtin gn_isinstance bb_isinstance (by assumption) ⟨callee_builtin, ?_⟩ (by decide) (by decide)) rfl
  (walk_at "GO")
  refine ev_global g_Var (by assumption) ?_
  (walk_at "GO")
  refine cal_isinst (ok_k k) q1 (ik_Var k) ?_
  rw [h1]
  (walk_at "GO")
  refine sts_nil ?_
  (walk_at "GO")
  refine ev_call (ev_builtin gn_isinstance bb_isinstance (by assumption) ⟨callee_builtin, ?_⟩ (by decide) (by decide)) rfl
  (walk_at "GO")
  refine ev_global g_App (by assumption) ?_
  (walk_at "GO")
  refine cal_isinst (ok_k k) q1 (ik_App k) ?_
  rw [h2]
  (walk_at "GO")
  refine sts_nil ?_
  (walk_at "GO")
  exact h
/-- the function that a call is laid on, if any -/
noncomputable def insteadApp (rs : List Bd) (kf : Kd) (n : Nat) : Option Bd := match kf with
  | .var x => match rowOf rs x with
    | some b => if b.e.kd.isLam && decide (b.e.params.length ≤ n) then some b else none
    | none => none
  | _ => none
theorem instead_app {s d a fr fa l : Addr} {fs : Loc} {kf : Kd} {bf cs : List Addr} {rs : List Bd} (hs : mem s = some (.inst 425 [("rows", .ref d)])) (hd : mem d = some (.dict (rs.map Bd.pair))) (hr : ∀ b ∈ rs, ExAt mem b.a b.e ∧ b.e.size ≤ 1000 ∧ b.e.params.length ≤ 1000)
    (ha : mem a = some (.inst 148 fs)) (hf : fld fs "fun" = some (.ref fa)) (hg : fld fs "args" = some (.ref l)) (hl : mem l = some (.list (refs cs))) (hcs : cs.length ≤ 1000) (hx : ExNode mem fa kf bf)
    (h1 : insteadApp rs kf cs.length = none → Q (.ref a) mem) (h2 : ∀ b, insteadApp rs kf cs.length = some b → ∀ r m', mem r = none → Grow mem m' → m' r = some (.inst 148 [("args", .ref l), ("fun", .ref b.a)]) → Q (.ref r) m') :
    CodeCal (cx w h₀) (n + 3) 422 [.ref s, .ref a, .ref fr] mem Q := by
  refine code_fn ["self", "node", "fresh"] lk_TopFunctions_instead_of cd_TopFunctions_instead_of rfl (vals3 fun _ _ _ => by kernel_rfl) (by kernel_rfl) (by kernel_rfl) ?_
  generalize hf : (⟨(methDef 24 1).2.2, true⟩ : Fs) = f
  have nl0 : isL f "self" := by rw [← hf]; kernel_rfl
  have nl1 : isL f "node" := by rw [← hf]; kernel_rfl
  have nl2 : isL f "fresh" := by rw [← hf]; kernel_rfl
  have nl3 : isL f "found" := by rw [← hf]; kernel_rfl
  have nl4 : isG f "isinstance" := by rw [← hf]; kernel_rfl
  have nl5 : isG f "Var" := by rw [← hf]; kernel_rfl
  have nl6 : isG f "is_atom" := by rw [← hf]; kernel_rfl
  have nl7 : isG f "App" := by rw [← hf]; kernel_rfl
  have nl8 : isG f "Lam" := by rw [← hf]; kernel_rfl
  have nl9 : isG f "len" := by rw [← hf]; kernel_rfl
  clear hf
  obtain ⟨ff, q1, q2, q3⟩ := hx
  (walk_at "GO")
  refine ev_call (ev_builtin gn_isinstance bb_isinstance (by assumption) ⟨callee_builtin, ?_⟩ (by decide) (by decide)) rfl
  (walk_at "GO")
  refine ev_global g_Var (by assumption) ?_
  (walk_at "GO")
  refine cal_isinst ok_App ha io_App_Var ?_
  (walk_at "GO")
  refine sts_nil ?_
  (walk_at "GO")
  refine ev_call (ev_builtin gn_isinstance bb_isinstance (by assumption) ⟨callee_builtin, ?_⟩ (by decide) (by decide)) rfl
  (walk_at "GO")
  refine ev_global g_App (by assumption) ?_
  (walk_at "GO")
  refine cal_isinst ok_App ha io_App_App ?_
  (walk_at "GO")
  refine ev_call (ev_builtin gn_isinstance bb_isinstance (by assumption) ⟨callee_builtin, ?_⟩ (by decide) (by decide)) rfl
  (walk_at "GO")
  refine geta_inst ok_App ha hf (fun i q => by cases q) na_App_fun ?_
  (walk_at "GO")
  refine ev_global g_Var (by assumption) ?_
  (walk_at "GO")
  refine cal_isinst (ok_k kf) q1 (ik_Var kf) ?_
  (walk_at "GO")
  cases hkf : kf.isVar with
  | false =>
    (walk_at "GO")
    refine sts_nil ?_
    (walk_at "GO")
    exact h1 (by cases kf <;> first | rfl | (cases hkf; done))
  | true =>
    obtain ⟨x, rfl⟩ : ∃ x, kf = .var x := by cases kf <;> first | exact ⟨_, rfl⟩ | (cases hkf; done)
    obtain ⟨q3, _⟩ := q3
    (walk_at "GO")
    refine ev_meth (ev_attr (ev_local rfl (by assumption) (geta_inst ok_TopFunctions hs rfl (fun i q => by cases q) na_TopFunctions_rows ⟨_, meth_get hd, rfl, callee_builtin, ?_⟩)) rfl) rfl rfl rfl (by decide)
    (walk_at "GO")
    refine geta_inst ok_App ha hf (fun i q => by cases q) na_App_fun ?_
    refine geta_inst ok_Var q1 q3 (fun i q => by cases q) na_Var_name ?_
    (walk_at "GO")
    refine cal_get1 hd ?_
    rw [rowOf_lookup]
    cases hro : rowOf rs x with
    | none =>
      (walk_at "GO")
      refine ev_call (ev_builtin gn_isinstance bb_isinstance (by assumption) ⟨callee_builtin, ?_⟩ (by decide) (by decide)) rfl
      refine evs_cons (ev_local (v := .none) rfl (by assumption) ?_) rfl
      (walk_at "GO")
      refine ev_global g_Lam (by assumption) ?_
      (walk_at "GO")
      refine cal_isinstN io_None_Lam ?_
      (walk_at "GO")
      refine sts_nil (sts_nil ?_)
      (walk_at "GO")
      exact h1 (by simp [insteadApp, hro])
    | some b =>
      obtain ⟨hb, hbx⟩ := rowOf_mem hro
      obtain ⟨he, hsz, hpp⟩ := hr b hb
      obtain ⟨kk, cs', ps, e1, hx', hps⟩ := he.node
      obtain ⟨fs', z1, z2, z3⟩ := hx'
      have hke : b.e.kd = kk := by rw [e1]; rfl
      (walk_at "GO")
      refine ev_call (ev_builtin gn_isinstance bb_isinstance (by assumption) ⟨callee_builtin, ?_⟩ (by decide) (by decide)) rfl
      refine evs_cons (ev_local (v := .ref b.a) rfl (by assumption) ?_) rfl
      (walk_at "GO")
      refine ev_global g_Lam (by assumption) ?_
      (walk_at "GO")
      refine cal_isinst (ok_k kk) z1 (ik_Lam kk) ?_
      (walk_at "GO")
      cases hlam : kk.isLam with
      | false =>
        (walk_at "GO")
        refine sts_nil (sts_nil ?_)
        (walk_at "GO")
        exact h1 (by simp [insteadApp, hro, hke, hlam])
      | true =>
        obtain ⟨xs, rfl⟩ : ∃ xs, kk = .lam xs := by cases kk <;> first | exact ⟨_, rfl⟩ | (cases hlam; done)
        obtain ⟨bb, lp, _, _, z5, z6⟩ := z3
        have hxs : b.e.params = xs := by rw [e1]; rfl
        (walk_at "GO")
        refine ev_call (ev_builtin gn_len bb_len (by assumption) ⟨callee_builtin, ?_⟩ (by decide) (by decide)) rfl
        (walk_at "GO")
        refine geta_inst ok_App ha hg (fun i q => by cases q) na_App_args ?_
        (walk_at "GO")
        refine cal_len (.inl hl) (by simp [refs]; omega) ?_
        refine ev_call (ev_builtin gn_len bb_len (by assumption) ⟨callee_builtin, ?_⟩ (by decide) (by decide)) rfl
        refine evs_cons (ev_attr (ev_local (v := .ref b.a) rfl (by assumption) ?_) rfl) rfl
        refine geta_inst ok_Lam z1 z5 (fun i q => by cases q) na_Lam_params ?_
        (walk_at "GO")
        refine cal_len (.inl z6) (by simp [sL]; rw [hxs] at hpp; omega) ?_
        (walk_at "GO")
        have e5 : decide ((((sL xs).length : Nat) : Int) ≤ (((refs cs).length : Nat) : Int)) = decide (xs.length ≤ cs.length) := by
          rw [Bool.eq_iff_iff]; simp [sL, refs]
        rw [e5]
        by_cases hle : xs.length ≤ cs.length
        · rw [decide_eq_true hle]
          (walk_at "GO")
          refine ev_call (ev_global g_App (by assumption) ⟨callee_K ke_App, ?_⟩) rfl
          refine evs_cons (ev_local (v := .ref b.a) rfl (by assumption) ?_) rfl
          (walk_at "GO")
          refine geta_inst ok_App ha hg (fun i q => by cases q) na_App_args ?_
          (walk_at "GO")
          exact new_App (h2 b (by simp [insteadApp, hro, hke, Kd.isLam, hxs, hle]))
        · rw [decide_eq_false hle]
          (walk_at "GO")
          refine sts_nil (sts_nil ?_)
          (walk_at "GO")
          exact h1 (by simp [insteadApp, hro, hke, Kd.isLam, hxs, hle])
end
end Mine
end
section
-- F14
set_option maxRecDepth 100000
set_option maxHeartbeats 400000
set_option autoImplicit false
set_option linter.unusedVariables false
set_option linter.unusedSimpArgs false
namespace Mine
open PySem PySem.W PySem.Calls PyProof.Rows
/-- one top names another -/
noncomputable def Edge (bs : List Bd) (a b : Str) : Prop := ∃ d ∈ bs, d.x = a ∧ b ∈ d.e.names ∧ b ∈ bs.map Bd.x
/-- one top leads to another -/
inductive Led (bs : List Bd) (a : Str) : Str → Prop
  | one {b : Str} (h : Edge bs a b) : Led bs a b
  | more {b d : Str} (h : Led bs a b) (e : Edge bs b d) : Led bs a d
theorem Led.top {bs : List Bd} {a b : Str} (h : Led bs a b) : b ∈ bs.map Bd.x := by
  cases h with
  | one h => obtain ⟨_, _, _, _, h⟩ := h; exact h
  | more _ h => obtain ⟨_, _, _, _, h⟩ := h; exact h
theorem topOf {bs : List Bd} {x : Str} (h : x ∈ bs.map Bd.x) : ∃ d, rowOf bs x = some d := by
  obtain ⟨d, hd, rfl⟩ := List.mem_map.mp h
  cases q : rowOf bs d.x with
  | some d' => exact ⟨d', rfl⟩
  | none =>
    have := List.find?_eq_none.mp q d hd
    simp at this
theorem top_unique {bs : List Bd} (hn : (bs.map Bd.x).Nodup) {d d' : Bd} (h : d ∈ bs) (h' : d' ∈ bs) (e : d.x = d'.x) : d = d' := by
  obtain ⟨i, hi, rfl⟩ := List.getElem_of_mem h
  obtain ⟨j, hj, rfl⟩ := List.getElem_of_mem h'
  have : (bs.map Bd.x)[i]? = (bs.map Bd.x)[j]? := by
    rw [List.getElem?_map, List.getElem?_map, List.getElem?_eq_getElem hi, List.getElem?_eq_getElem hj]
    exact congrArg some e
  have := (List.getElem?_inj (by simpa using hi) hn).mp this
  subst this; rfl
theorem edge_of {bs : List Bd} (hn : (bs.map Bd.x).Nodup) {x y : Str} {d : Bd} (h : rowOf bs x = some d) : Edge bs x y ↔ y ∈ d.e.names ∧ y ∈ bs.map Bd.x := by
  obtain ⟨h1, h2⟩ := rowOf_mem h
  constructor
  · rintro ⟨d', hd', e, q1, q2⟩
    have := top_unique hn hd' h1 (by rw [e, h2])
    subst this; exact ⟨q1, q2⟩
  · rintro ⟨q1, q2⟩; exact ⟨d, h1, h2, q1, q2⟩
theorem keys_pair (bs : List Bd) : (bs.map Bd.pair).map (·.1) = bs.map Bd.x := by rw [List.map_map]; rfl
theorem nodup_le {α : Type} [DecidableEq α] : ∀ {l m : List α}, l.Nodup → (∀ x ∈ l, x ∈ m) → l.length ≤ m.length
  | [], m, _, _ => Nat.zero_le _
  | x :: r, m, hn, hs => by
    rw [List.nodup_cons] at hn
    have hx := hs x (List.mem_cons_self ..)
    have := nodup_le (l := r) (m := m.erase x) hn.2 fun y hy => by
      have hne : y ≠ x := fun e => hn.1 (e ▸ hy)
      exact (List.mem_erase_of_ne hne).mpr (hs y (List.mem_cons_of_mem _ hy))
    rw [List.length_erase_of_mem hx] at this
    have hpos : 0 < m.length := List.length_pos_of_mem hx
    simp only [List.length_cons]; omega
/-- how many tops have not been found -/
noncomputable def missing (bs : List Bd) (fs : List Str) : Nat := (bs.filter fun b => !fs.contains b.x).length
theorem missing_cons {bs : List Bd} {fs : List Str} {x : Str} (h : x ∈ bs.map Bd.x) (hf : x ∉ fs) : missing bs (fs ++ [x]) < missing bs fs := by
  unfold missing
  obtain ⟨d, hd, rfl⟩ := List.mem_map.mp h
  induction bs with
  | nil => cases hd
  | cons b r ih =>
    have hle : ∀ r : List Bd, (r.filter fun b => !(fs ++ [d.x]).contains b.x).length ≤ (r.filter fun b => !fs.contains b.x).length := by
      intro r
      induction r with
      | nil => exact Nat.le_refl _
      | cons b r ih =>
        simp only [List.filter_cons]
        by_cases h1 : b.x ∈ fs
        · simp [h1] at ih ⊢; exact ih
        · by_cases h2 : b.x = d.x
          · simp [h1, h2] at ih ⊢; rw [if_neg (by rw [← h2]; exact h1)]; simp; omega
          · simp [h1, h2] at ih ⊢; exact ih
    rcases List.mem_cons.mp hd with rfl | hd'
    · simp only [List.filter_cons]
      have h1 : (!fs.contains d.x) = true := by simpa using hf
      have h2 : (!(fs ++ [d.x]).contains d.x) = false := by simp
      rw [h1, h2, if_pos rfl, if_neg (by decide)]
      have := hle r
      simp only [List.length_cons]; omega
    · have := ih hd' (List.mem_map_of_mem hd')
      simp only [List.filter_cons]
      by_cases h1 : b.x ∈ fs
      · simp [h1] at this ⊢; exact this
      · by_cases h2 : b.x = d.x
        · have h3 : (!fs.contains b.x) = true := by simpa using h1
          have h4 : (!(fs ++ [d.x]).contains b.x) = false := by simp [h2]
          rw [h3, h4, if_pos rfl, if_neg (by decide)]
          simp only [List.length_cons]; omega
        · simp [h1, h2] at this ⊢; exact this
section
variable {w : World} {h₀ : Heap} {n : Nat} {f : Fs} {ρ : Loc} {mem : Mem} {Q : Value → Mem → Prop}
theorem dict_binds {bl : Addr} {bs : List Bd} (hb : BindsAt mem bl bs) (hl : bs.length ≤ 1000) (hn : (bs.map Bd.x).Nodup) (h : ∀ r, mem r = none → Q (.ref r) (upd mem r (.dict (bs.map Bd.pair)))) : Cal (cx w h₀) n (.type "dict") [.ref bl] mem Q := by
  refine dict_pairs hb.1 (by simp; omega) fun r hr => ?_
  rw [dictOfPairs_nodup (by rw [keys_pair]; exact hn)]
  exact h r hr
theorem led_ok {bl : Addr} {bs : List Bd} {x0 : Str} (hb : BindsAt mem bl bs) (hl : bs.length ≤ 10) (hs : ∀ b ∈ bs, b.e.size ≤ 60) (hn : (bs.map Bd.x).Nodup) (hx : x0 ∈ bs.map Bd.x)
    (h : ∀ r m' xs, mem r = none → Grow mem m' → m' r = some (.list (sL xs)) → xs.Nodup → (∀ y, y ∈ xs ↔ Led bs x0 y) → Q (.ref r) m') : CodeCal (cx w h₀) (n + 250) 476 [.ref bl, .str x0 0] mem Q := by
  refine code_fn ["binds", "first"] lk__law_led cd__law_led rfl (vals2 fun _ _ => by kernel_rfl) (by kernel_rfl) (by kernel_rfl) ?_
  refine sts_cons (st_swapped (xs := ["told", "found", "left"]) (by kernel_rfl) ?_)
  generalize hf : (⟨(topDef 32).2.2, true⟩ : Fs) = f
  have nl0 : isL f "binds" := by rw [← hf]; kernel_rfl
  have nl1 : isL f "first" := by rw [← hf]; kernel_rfl
  have nl2 : isL f "told" := by rw [← hf]; kernel_rfl
  have nl3 : isL f "found" := by rw [← hf]; kernel_rfl
  have nl4 : isL f "left" := by rw [← hf]; kernel_rfl
  have nl5 : isL f "name" := by rw [← hf]; kernel_rfl
  have nl6 : isG f "dict" := by rw [← hf]; kernel_rfl
  have nl7 : isG f "_law_named" := by rw [← hf]; kernel_rfl
  clear hf
  obtain ⟨d0, hd0⟩ := topOf hx
  obtain ⟨hd0m, hd0x⟩ := rowOf_mem hd0
  refine evs_cons ?_ rfl
  refine ev_call (ev_builtin gn_dict bb_dict (by assumption) ⟨callee_type, ?_⟩ (by decide) (by decide)) rfl
  (walk_at "GO")
  refine dict_binds hb (by omega) hn fun tl htl => ?_
  have g₁ : Grow mem (upd mem tl (.dict (bs.map Bd.pair))) := Grow.upd htl
  have ht₁ : upd mem tl (.dict (bs.map Bd.pair)) tl = some (.dict (bs.map Bd.pair)) := upd_same
  generalize upd mem tl (.dict (bs.map Bd.pair)) = m₁ at g₁ ht₁ ⊢
  refine evs_cons (ev_list (evs_nil ⟨by simp, fun fl hfl => ?_⟩)) rfl
  have g₂ : Grow mem (upd m₁ fl (.list [])) := g₁.trans (Grow.upd hfl)
  have ht₂ : upd m₁ fl (.list []) tl = some (.dict (bs.map Bd.pair)) := by rw [upd_ne (by rintro rfl; rw [ht₁] at hfl; cases hfl)]; exact ht₁
  have hf₂ : upd m₁ fl (.list []) fl = some (.list (sL [])) := upd_same
  have hfm : mem fl = none := g₁.none hfl
  generalize upd m₁ fl (.list []) = m₂ at g₂ ht₂ hf₂ ⊢
  (walk_at "GO")
  refine ev_call (ev_global g__law_named (by assumption) ⟨callee_K ke__law_named, ?_⟩) rfl
  (walk_at "GO")
  refine ev_call (ev_builtin gn_dict bb_dict (by assumption) ⟨callee_type, ?_⟩ (by decide) (by decide)) rfl
  (walk_at "GO")
  refine dict_binds (hb.grow g₂) (by omega) hn fun dl hdl => ?_
  (walk_at "GO")
  refine sub_dict upd_same (v := .ref d0.a) (by rw [rowOf_lookup, hd0]; rfl) ?_
  have g₃ : Grow m₂ (upd m₂ dl (.dict (bs.map Bd.pair))) := Grow.upd hdl
  generalize upd m₂ dl (.dict (bs.map Bd.pair)) = m₃ at g₃ ⊢
  (walk_at "GO")
  have hd0s := hs d0 hd0m
  refine ((named_ok 60 (n := n) (((hb.2 d0 hd0m).grow g₂).grow g₃) (by omega) (by omega) fun ll m₄ hll g₄ hl₄ => ?_).cal).room (by omega)
  refine evs_nil ⟨rfl, by simp, fun tp htp => ?_⟩
  have g₅ : Grow mem (upd m₄ tp (.tup [.ref tl, .ref fl, .ref ll])) := ((g₂.trans g₃).trans g₄).trans (Grow.upd htp)
  have ht₅ : upd m₄ tp (.tup [.ref tl, .ref fl, .ref ll]) tl = some (.dict (bs.map Bd.pair)) := (g₃.trans (g₄.trans (Grow.upd htp))) _ _ ht₂
  have hf₅ : upd m₄ tp (.tup [.ref tl, .ref fl, .ref ll]) fl = some (.list (sL [])) := (g₃.trans (g₄.trans (Grow.upd htp))) _ _ hf₂
  have hl₅ : upd m₄ tp (.tup [.ref tl, .ref fl, .ref ll]) ll = some (.list (sL d0.e.names)) := (Grow.upd htp) _ _ hl₄
  have hlm : mem ll = none := (g₂.trans g₃).none hll
  have hfl' : fl ≠ ll := by rintro rfl; have := g₃ _ _ hf₂; rw [hll] at this; cases this
  have htf : tl ≠ fl := by rintro rfl; rw [ht₂] at hf₂; cases hf₂
  have htl' : tl ≠ ll := by rintro rfl; have := g₃ _ _ ht₂; rw [hll] at this; cases this
  have htm : mem tl = none := htl
  generalize upd m₄ tp (.tup [.ref tl, .ref fl, .ref ll]) = m₅ at g₅ ht₅ hf₅ hl₅ ⊢
  refine sto_local (by assumption) (sto_local (by assumption) (sto_local (by assumption) ?_))
  refine sts_cons (St.weaken [("told", .ref tl), ("found", .ref fl), ("left", .ref ll)] (by walk_at "WEAK") ?_)
  refine st_while (fun k ρ₁ m => ∃ (ll : Addr) (fs ls : List Str), ρ₁ = ([("told", .ref tl), ("found", .ref fl), ("left", .ref ll)] : Loc) ∧ k = missing bs fs * 100 + ls.length ∧ mem ll = none ∧ tl ≠ ll ∧ fl ≠ ll ∧ Grow mem m ∧ m tl = some (.dict (bs.map Bd.pair)) ∧
      m fl = some (.list (sL fs)) ∧ m ll = some (.list (sL ls)) ∧ fs.Nodup ∧ ls.length ≤ (fs.length + 1) * 60 ∧ (∀ y ∈ fs, Led bs x0 y) ∧ (∀ y ∈ ls, y ∈ bs.map Bd.x → Led bs x0 y) ∧ (∀ u v, (u = x0 ∨ u ∈ fs) → Edge bs u v → v ∈ fs ∨ v ∈ ls))
    (missing bs [] * 100 + d0.e.names.length) ⟨ll, [], d0.e.names, rfl, rfl, hlm, htl', hfl', g₅, ht₅, hf₅, hl₅, List.nodup_nil, by have := names_size d0.e; simp; omega, by simp, fun y hy ht => .one ((edge_of hn hd0).mpr ⟨hy, ht⟩), fun u v hu e => by
      rcases hu with rfl | hu
      · exact .inr ((edge_of hn hd0).mp e).1
      · cases hu⟩ ?_
  rintro k ρ₁ m ⟨ll, fs, ls, rfl, rfl, hlm, htl', hfl', g, ht, hf, hl', hfn, hll, hled, hlt, hcl⟩
  have hfle : fs.length ≤ 10 := by
    have : fs.length ≤ (bs.map Bd.x).length := nodup_le hfn fun y hy => (hled y hy).top
    simp at this; omega
  (walk_at "GO")
  refine ev_list (evs_nil ⟨by simp, fun z hz => ?_⟩)
  have g' : Grow m (upd m z (.list [])) := Grow.upd hz
  refine cmp_neNil (.inl (g' _ _ hl')) (.inl upd_same) ?_
  have hzl : z ≠ ll := by rintro rfl; rw [hl'] at hz; cases hz
  generalize upd m z (.list []) = m' at g' ⊢
  have G := g.trans g'
  (walk_at "GO")
  rcases snoc_cases ls with rfl | ⟨ls', y, rfl⟩
  · refine iteF ?_
    (walk_at "GO")
    refine h fl m' fs hfm G (g' _ _ hf) hfn fun y => ⟨hled y, fun hy => ?_⟩
    induction hy with
    | one e => exact (hcl _ _ (.inl rfl) e).resolve_right (fun q => nomatch q)
    | more _ e ih => exact (hcl _ _ (.inr ih) e).resolve_right (fun q => nomatch q)
  · have e0 : (!(sL (ls' ++ [y])).isEmpty) = true := by simp [sL]
    rw [e0]
    refine iteT ?_
    have hl1 : m' ll = some (.list (sL ls' ++ [.str y 0])) := by rw [g' _ _ hl']; simp [sL]
    have hlen : (sL ls').length ≤ 1000 := by simp [sL]; simp at hll; omega
    refine sts_cons (st_assign (ev_meth (ev_local rfl (by assumption) ⟨_, meth_pop hl1, rfl, callee_builtin, evs_nil (cal_pop hl1 (by omega) ?_)⟩) rfl rfl rfl (by decide)) rfl rfl rfl)
    have g6 : Grow mem (upd m' ll (.list (sL ls'))) := G.set hlm
    have ht6 : upd m' ll (.list (sL ls')) tl = some (.dict (bs.map Bd.pair)) := by rw [upd_ne htl']; exact g' _ _ ht
    have hf6 : upd m' ll (.list (sL ls')) fl = some (.list (sL fs)) := by rw [upd_ne hfl']; exact g' _ _ hf
    have hl6 : upd m' ll (.list (sL ls')) ll = some (.list (sL ls')) := upd_same
    generalize upd m' ll (.list (sL ls')) = m6 at g6 ht6 hf6 hl6 ⊢
    (walk_at "GO")
    refine cmp_inD ht6 ?_
    -- nothing is done with y
    have skip : (y ∈ bs.map Bd.x → y ∈ fs) → ∃ ρ₄ : Loc, (∀ p ∈ ρ₄, ([("name", .str y 0), ("told", .ref tl), ("found", .ref fl), ("left", .ref ll)] : Loc).lookup p.1 = some p.2) ∧ ∃ j, j < missing bs fs * 100 + (ls' ++ [y]).length ∧
        ∃ (ll : Addr) (fs ls : List Str), ρ₄ = ([("told", .ref tl), ("found", .ref fl), ("left", .ref ll)] : Loc) ∧ j = missing bs fs * 100 + ls.length ∧ mem ll = none ∧ tl ≠ ll ∧ fl ≠ ll ∧ Grow mem m6 ∧ m6 tl = some (.dict (bs.map Bd.pair)) ∧
          m6 fl = some (.list (sL fs)) ∧ m6 ll = some (.list (sL ls)) ∧ fs.Nodup ∧ ls.length ≤ (fs.length + 1) * 60 ∧ (∀ y ∈ fs, Led bs x0 y) ∧ (∀ y ∈ ls, y ∈ bs.map Bd.x → Led bs x0 y) ∧ (∀ u v, (u = x0 ∨ u ∈ fs) → Edge bs u v → v ∈ fs ∨ v ∈ ls) := fun hy =>
      ⟨[("told", .ref tl), ("found", .ref fl), ("left", .ref ll)], (by walk_at "WEAK"), missing bs fs * 100 + ls'.length, by simp only [List.length_append, List.length_singleton]; omega, ll, fs, ls', rfl, rfl, hlm, htl', hfl', g6, ht6, hf6, hl6, hfn, by simp at hll; omega, hled, fun z hz ht => hlt z (by simp [hz]) ht, fun u v hu e => by
        rcases hcl u v hu e with q | q
        · exact .inl q
        · rcases List.mem_append.mp q with q | q
          · exact .inr q
          · rcases List.mem_singleton.mp q with rfl
            obtain ⟨_, _, _, _, ht⟩ := e
            exact .inl (hy ht)⟩
    rw [rowOf_lookup]
    cases hro : rowOf bs y with
    | none =>
      (walk_at "GO")
      refine sts_nil (sts_nil (skip fun ht => ?_))
      obtain ⟨d, hd⟩ := topOf ht
      rw [hro] at hd; cases hd
    | some d =>
      obtain ⟨hdm, hdx⟩ := rowOf_mem hro
      have hyt : y ∈ bs.map Bd.x := by rw [← hdx]; exact List.mem_map_of_mem hdm
      have hds := hs d hdm
      refine tru_bool (iteT ?_)
      (walk_at "GO")
      refine cmp_notInL (.inl hf6) ?_
      (walk_at "GO")
      by_cases hyf : y ∈ fs
      · have : decide (y ∉ fs) = false := decide_eq_false (fun q => q hyf)
        rw [this]
        (walk_at "GO")
        exact sts_nil (sts_nil (skip fun _ => hyf))
      · rw [decide_eq_true hyf]
        (walk_at "GO")
        refine ev_meth (ev_local rfl (by assumption) ⟨_, meth_append hf6, rfl, callee_builtin, ?_⟩) rfl rfl rfl (by decide)
        (walk_at "GO")
        refine cal_append hf6 (by simp [sL]; omega) ?_
        have g7 : Grow mem (upd m6 fl (.list (sL fs ++ [.str y 0]))) := g6.set hfm
        have ht7 : upd m6 fl (.list (sL fs ++ [.str y 0])) tl = some (.dict (bs.map Bd.pair)) := by rw [upd_ne htf]; exact ht6
        have hf7 : upd m6 fl (.list (sL fs ++ [.str y 0])) fl = some (.list (sL (fs ++ [y]))) := by rw [upd_same]; simp [sL]
        have hl7 : upd m6 fl (.list (sL fs ++ [.str y 0])) ll = some (.list (sL ls')) := by rw [upd_ne (Ne.symm hfl')]; exact hl6
        generalize upd m6 fl (.list (sL fs ++ [.str y 0])) = m7 at g7 ht7 hf7 hl7 ⊢
        (walk_at "GO")
        refine ev_call (ev_global g__law_named (by assumption) ⟨callee_K ke__law_named, ?_⟩) rfl
        (walk_at "GO")
        refine sub_dict ht7 (v := .ref d.a) (by rw [rowOf_lookup, hro]; rfl) ?_
        (walk_at "GO")
        refine ((named_ok 60 (n := n) ((hb.2 d hdm).grow g7) (by omega) (by omega) fun rl m8 hrl g8 hr8 => ?_).cal).room (by omega)
        have hdn := names_size d.e
        refine bin_addL (g8 _ _ hl7) hr8 (by simp [sL]; simp [sL] at hlen; omega) fun nl hnl => ?_
        have hnlm : mem nl = none := (g7.trans g8).none hnl
        (walk_at "GO")
        have hled' : Led bs x0 y := hlt y (by simp) hyt
        refine sts_nil (sts_nil ⟨[("told", .ref tl), ("found", .ref fl), ("left", .ref nl)], (by walk_at "WEAK"), missing bs (fs ++ [y]) * 100 + (ls' ++ d.e.names).length, ?_, nl, fs ++ [y], ls' ++ d.e.names, rfl, rfl, hnlm, ?_, ?_, (g7.trans g8).trans (Grow.upd hnl), ?_, ?_, ?_, ?_, ?_, ?_, ?_, ?_⟩)
        · have := missing_cons hyt hyf
          simp; omega
        · rintro rfl; rw [g8 _ _ ht7] at hnl; cases hnl
        · rintro rfl; rw [g8 _ _ hf7] at hnl; cases hnl
        · rw [upd_ne (by rintro rfl; rw [g8 _ _ ht7] at hnl; cases hnl)]; exact g8 _ _ ht7
        · rw [upd_ne (by rintro rfl; rw [g8 _ _ hf7] at hnl; cases hnl)]; exact g8 _ _ hf7
        · rw [upd_same, sL_append]
        · rw [List.nodup_append]
          exact ⟨hfn, by simp, fun a ha b hb' => by rcases List.mem_singleton.mp hb' with rfl; exact fun e => hyf (e ▸ ha)⟩
        · simp at hll ⊢; omega
        · intro z hz
          rcases List.mem_append.mp hz with hz | hz
          · exact hled z hz
          · rcases List.mem_singleton.mp hz with rfl; exact hled'
        · intro z hz hzt
          rcases List.mem_append.mp hz with hz | hz
          · exact hlt z (by simp [hz]) hzt
          · exact .more hled' ((edge_of hn hro).mpr ⟨hz, hzt⟩)
        · intro u v hu e
          have : (u = x0 ∨ u ∈ fs) ∨ u = y := by
            rcases hu with rfl | hu
            · exact .inl (.inl rfl)
            · rcases List.mem_append.mp hu with hu | hu
              · exact .inl (.inr hu)
              · exact .inr (List.mem_singleton.mp hu)
          rcases this with hu | rfl
          · rcases hcl u v hu e with q | q
            · exact .inl (by simp [q])
            · rcases List.mem_append.mp q with q | q
              · exact .inr (by simp [q])
              · exact .inl (by simp [List.mem_singleton.mp q])
          · exact .inr (by simp [((edge_of hn hro).mp e).1])
end
end Mine
end
section
-- F15
set_option maxRecDepth 100000
set_option maxHeartbeats 400000
set_option autoImplicit false
set_option linter.unusedVariables false
set_option linter.unusedSimpArgs false
namespace Mine
open PySem PySem.W PySem.Calls PyProof.Rows
noncomputable def SrcAt (m : Mem) (sl : Addr) : Prop := ∃ p q : Int, m sl = some (.list (iL [p, q])) ∧ 0 ≤ q ∧ q < 2147483647
section
variable {w : World} {h₀ : Heap} {n : Nat} {f : Fs} {ρ : Loc} {mem : Mem} {Q : Value → Mem → Prop}
theorem pool_ok {l : Addr} {ns : List Int} (hs : LstAt mem l (iL ns)) (hl : ns.length ≤ 1000) (h : ∀ r m', mem r = none → Grow mem m' → SrcAt m' r → Q (.ref r) m') : CodeCal (cx w h₀) (n + 2) 436 [.ref l, .int 0 0] mem Q := by
  refine code_fn ["script", "k"] lk__law_pool cd__law_pool rfl (vals2 fun _ _ => by kernel_rfl) (by kernel_rfl) (by kernel_rfl) ?_
  generalize hf : (⟨(topDef 26).2.2, true⟩ : Fs) = f
  have nl0 : isL f "script" := by rw [← hf]; kernel_rfl
  have nl1 : isL f "k" := by rw [← hf]; kernel_rfl
  have nl2 : isL f "cell" := by rw [← hf]; kernel_rfl
  have nl3 : isL f "big" := by rw [← hf]; kernel_rfl
  have nl4 : isL f "mixed" := by rw [← hf]; kernel_rfl
  have nl5 : isG f "len" := by rw [← hf]; kernel_rfl
  have nl6 : isG f "max" := by rw [← hf]; kernel_rfl
  have nl7 : isG f "int" := by rw [← hf]; kernel_rfl
  clear hf
  (walk_at "GON")
  refine St.mono (N := fun ρ' m' => m' = mem ∧ ∃ z : Int, ∀ p ∈ ([("cell", .int z 0), ("script", .ref l), ("k", .int 0 0)] : Loc), ρ'.lookup p.1 = some p.2) (R := fun _ _ => False) ?_ ?_ (fun _ _ q => q.elim)
  · (walk_at "GO")
    refine ev_call (ev_builtin gn_len bb_len (by assumption) ⟨callee_builtin, ?_⟩ (by decide) (by decide)) rfl
    (walk_at "GO")
    refine cal_len hs (by simp [iL]; omega) ?_
    (walk_at "GO")
    by_cases hn : (0 : Int) < ((iL ns).length : Int)
    · rw [decide_eq_true hn]
      (walk_at "GO")
      obtain ⟨z, hz⟩ : ∃ z, ns[0]? = some z := by
        cases ns with
        | nil => simp [iL] at hn
        | cons z _ => exact ⟨z, rfl⟩
      refine sub_list (v := .int z 0) hs (by decide) (by decide) (by simp [iL, hz]) ?_
      (walk_at "GO")
      exact sts_nil ⟨rfl, z, (by walk_at "WEAK")⟩
    · rw [decide_eq_false hn]
      (walk_at "GO")
      exact sts_nil ⟨rfl, 0, (by walk_at "WEAK")⟩
  · rintro ρ' m' ⟨rfl, z, hz⟩
    refine Sts.weaken [("cell", .int z 0), ("script", .ref l), ("k", .int 0 0)] hz ?_
    (walk_at "GO")
    refine ev_call (ev_builtin gn_max bb_max (by assumption) ⟨callee_builtin, ?_⟩ (by decide) (by decide)) rfl
    (walk_at "GO")
    refine ev_call (ev_builtin gn_int bb_int (by assumption) ⟨callee_type, ?_⟩ (by decide) (by decide)) rfl
    (walk_at "GO")
    refine cal_intInt ?_
    (walk_at "GO")
    refine ev_call (ev_builtin gn_int bb_int (by assumption) ⟨callee_type, ?_⟩ (by decide) (by decide)) rfl
    (walk_at "GO")
    refine un_neg ?_
    (walk_at "GO")
    refine cal_intInt ?_
    (walk_at "GO")
    refine cal_max ?_
    (walk_at "GO")
    have hb : (0 : Int) ≤ max z (-1 - z) := by omega
    generalize max z (-1 - z) = b at hb ⊢
    refine ev_call (ev_builtin gn_int bb_int (by assumption) ⟨callee_type, ?_⟩ (by decide) (by decide)) rfl
    (walk_at "GO")
    refine ev_call (ev_builtin gn_int bb_int (by assumption) ⟨callee_type, ?_⟩ (by decide) (by decide)) rfl
    (walk_at "GO")
    refine cal_intInt ?_
    (walk_at "GO")
    refine bin_mod (by decide) ?_
    have hm1 : 0 ≤ b.fmod 2147483629 := Int.fmod_nonneg hb (by decide)
    have hm2 : b.fmod 2147483629 < 2147483629 := Int.fmod_lt_of_pos _ (by decide)
    generalize b.fmod 2147483629 = c at hm1 hm2 ⊢
    (walk_at "GO")
    refine bin_mul (.of_left (intBits_le_64 (by omega) (by omega))) ?_
    (walk_at "GO")
    refine bin_mul (.of_left (intBits_le_64 (by omega) (by omega))) ?_
    (walk_at "GO")
    refine bin_mul (.of_left (intBits_le_64 (by omega) (by omega))) ?_
    (walk_at "GO")
    refine bin_mul (.of_left (intBits_le_64 (by omega) (by omega))) ?_
    (walk_at "GO")
    refine cal_intInt ?_
    (walk_at "GO")
    refine bin_mod (by decide) ?_
    generalize hc : (c + 7919 * 0 * 0 + 31 * 0 + 17) * 48271 = d
    have hd : 0 ≤ d := by omega
    have hm3 : 0 ≤ d.fmod 2147483647 := Int.fmod_nonneg hd (by decide)
    have hm4 : d.fmod 2147483647 < 2147483647 := Int.fmod_lt_of_pos _ (by decide)
    generalize d.fmod 2147483647 = e at hm3 hm4 ⊢
    (walk_at "GO")
    refine ev_list ?_
    (walk_at "GO")
    refine ev_call (ev_builtin gn_int bb_int (by assumption) ⟨callee_type, ?_⟩ (by decide) (by decide)) rfl
    (walk_at "GO")
    refine bin_pow (by decide) (by decide) (by decide) ?_
    (walk_at "GO")
    refine cal_intBool ?_
    (walk_at "GO")
    refine bin_mul (.of_right (intBits_le_64 (by split <;> omega) (by split <;> omega))) ?_
    (walk_at "GO")
    exact ⟨by simp, fun r hr => h r _ hr (Grow.upd hr) ⟨_, _, upd_same, hm3, hm4⟩⟩
theorem take_ok {sl : Addr} {top : Int} (hs : SrcAt mem sl) (h0 : 0 < top) (h1 : top < 1000) (h : ∀ (d : Int) m', GrowX sl mem m' → SrcAt m' sl → 0 ≤ d → d < top → Q (.int d 0) m') : CodeCal (cx w h₀) (n + 2) 443 [.ref sl, .int top 0] mem Q := by
  refine code_fn ["source", "top"] lk__law_take cd__law_take rfl (vals2 fun _ _ => by kernel_rfl) (by kernel_rfl) (by kernel_rfl) ?_
  generalize hf : (⟨(topDef 27).2.2, true⟩ : Fs) = f
  have nl0 : isL f "source" := by rw [← hf]; kernel_rfl
  have nl1 : isL f "top" := by rw [← hf]; kernel_rfl
  have nl2 : isL f "digit" := by rw [← hf]; kernel_rfl
  have nl3 : isG f "int" := by rw [← hf]; kernel_rfl
  clear hf
  obtain ⟨p, q, hs, hq0, hq1⟩ := hs
  have hs' : LstAt mem sl (iL [p, q]) := .inl hs
  (walk_at "GO")
  refine sub_list (v := .int p 0) hs' (by decide) (by decide) rfl ?_
  (walk_at "GO")
  by_cases hp : 0 < p
  · rw [decide_eq_true hp]
    (walk_at "GO")
    refine ev_call (ev_builtin gn_int bb_int (by assumption) ⟨callee_type, ?_⟩ (by decide) (by decide)) rfl
    (walk_at "GO")
    refine sub_list (v := .int p 0) hs' (by decide) (by decide) rfl ?_
    (walk_at "GO")
    refine cal_intInt ?_
    (walk_at "GO")
    refine bin_mod (by omega) ?_
    have hm3 : 0 ≤ p.fmod top := Int.fmod_nonneg (by omega) (by omega)
    have hm4 : p.fmod top < top := Int.fmod_lt_of_pos _ (by omega)
    generalize p.fmod top = d at hm3 hm4 ⊢
    (walk_at "GO")
    refine sub_list (v := .int p 0) hs' (by decide) (by decide) rfl ?_
    (walk_at "GO")
    refine bin_fdiv (by omega) (by omega) ?_
    (walk_at "GO")
    refine seti_list hs (by decide) (by decide) (by simp [iL]) ?_
    (walk_at "GO")
    exact h d _ (fun b o hb e => by rw [upd_ne hb]; exact e) ⟨p.fdiv top, q, upd_same, hq0, hq1⟩ hm3 hm4
  · rw [decide_eq_false hp]
    refine sts_nil ?_
    (walk_at "GO")
    refine ev_call (ev_builtin gn_int bb_int (by assumption) ⟨callee_type, ?_⟩ (by decide) (by decide)) rfl
    (walk_at "GO")
    refine sub_list (v := .int q 0) hs' (by decide) (by decide) rfl ?_
    (walk_at "GO")
    refine bin_mul (.of_left (intBits_le_64 (by omega) (by omega))) ?_
    (walk_at "GO")
    refine cal_intInt ?_
    (walk_at "GO")
    refine bin_mod (by omega) ?_
    have hm3 : 0 ≤ (q * 39373 + 7).fmod 2147483647 := Int.fmod_nonneg (by omega) (by omega)
    have hm4 : (q * 39373 + 7).fmod 2147483647 < 2147483647 := Int.fmod_lt_of_pos _ (by omega)
    generalize (q * 39373 + 7).fmod 2147483647 = e at hm3 hm4 ⊢
    (walk_at "GO")
    refine seti_list hs (by decide) (by decide) (by simp [iL]) ?_
    have g₁ : GrowX sl mem (upd mem sl (.list ((iL [p, q]).set (1 : Int).toNat (.int e 0)))) := fun b o hb e => by rw [upd_ne hb]; exact e
    have hs₁ : upd mem sl (.list ((iL [p, q]).set (1 : Int).toNat (.int e 0))) sl = some (.list (iL [p, e])) := upd_same
    generalize upd mem sl (.list ((iL [p, q]).set (1 : Int).toNat (.int e 0))) = m₁ at g₁ hs₁ ⊢
    have hs₂ : LstAt m₁ sl (iL [p, e]) := .inl hs₁
    (walk_at "GO")
    refine ev_call (ev_builtin gn_int bb_int (by assumption) ⟨callee_type, ?_⟩ (by decide) (by decide)) rfl
    (walk_at "GO")
    refine ev_call (ev_builtin gn_int bb_int (by assumption) ⟨callee_type, ?_⟩ (by decide) (by decide)) rfl
    (walk_at "GO")
    refine sub_list (v := .int e 0) hs₂ (by decide) (by decide) rfl ?_
    (walk_at "GO")
    refine sub_list (v := .int e 0) hs₂ (by decide) (by decide) rfl ?_
    (walk_at "GO")
    refine bin_mul (.of_left (intBits_le_64 (by omega) (by omega))) ?_
    (walk_at "GO")
    refine cal_intInt ?_
    (walk_at "GO")
    refine bin_mod (by omega) ?_
    (walk_at "GO")
    refine bin_fdiv (by decide) (by decide) ?_
    (walk_at "GO")
    refine cal_intInt ?_
    (walk_at "GO")
    refine bin_mod (by omega) ?_
    have hee : 0 ≤ e * e := Int.mul_nonneg hm3 hm3
    have h5 : 0 ≤ (e * e).fmod 2147483629 := Int.fmod_nonneg hee (by decide)
    have h6 : 0 ≤ ((e * e).fmod 2147483629).fdiv 32 := Int.fdiv_nonneg h5 (by decide)
    have h7 : 0 ≤ (((e * e).fmod 2147483629).fdiv 32).fmod top := Int.fmod_nonneg h6 (by omega)
    have h8 : (((e * e).fmod 2147483629).fdiv 32).fmod top < top := Int.fmod_lt_of_pos _ (by omega)
    exact h _ _ g₁ ⟨_, _, hs₁, hm3, hm4⟩ h7 h8
/-- one of the things -/
theorem one_ok {sl tl : Addr} {vs : List Value} (hs : SrcAt mem sl) (ht : LstAt mem tl vs) (hne : tl ≠ sl) (h0 : 0 < vs.length) (h1 : vs.length < 1000) (h : ∀ v m', GrowX sl mem m' → SrcAt m' sl → v ∈ vs → Q v m') : CodeCal (cx w h₀) (n + 3) 450 [.ref sl, .ref tl] mem Q := by
  refine code_fn ["source", "things"] lk__law_one cd__law_one rfl (vals2 fun _ _ => by kernel_rfl) (by kernel_rfl) (by kernel_rfl) ?_
  generalize hf : (⟨(topDef 28).2.2, true⟩ : Fs) = f
  have nl0 : isL f "source" := by rw [← hf]; kernel_rfl
  have nl1 : isL f "things" := by rw [← hf]; kernel_rfl
  have nl2 : isG f "_law_take" := by rw [← hf]; kernel_rfl
  have nl3 : isG f "len" := by rw [← hf]; kernel_rfl
  clear hf
  (walk_at "GO")
  refine ev_call (ev_global g__law_take (by assumption) ⟨callee_K ke__law_take, ?_⟩) rfl
  (walk_at "GO")
  refine ev_call (ev_builtin gn_len bb_len (by assumption) ⟨callee_builtin, ?_⟩ (by decide) (by decide)) rfl
  (walk_at "GO")
  refine cal_len ht (by omega) ?_
  (walk_at "GO")
  refine (take_ok hs (by omega) (by omega) fun d m' g hs' d0 d1 => ?_).cal
  obtain ⟨v, hv⟩ : ∃ v, vs[d.toNat]? = some v := ⟨_, List.getElem?_eq_getElem (by omega)⟩
  have ht' : LstAt m' tl vs := ht.imp (g _ _ hne) (g _ _ hne)
  refine sub_list ht' d0 (by omega) hv ?_
  exact h v m' g hs' (List.mem_of_getElem? hv)
end
end Mine
end
section
-- F16
set_option maxRecDepth 100000
set_option maxHeartbeats 400000
set_option autoImplicit false
set_option linter.unusedVariables false
set_option linter.unusedSimpArgs false
namespace Mine
open PySem PySem.W PySem.Calls PyProof.Rows
theorem SrcAt.ne {m : Mem} {sl b : Addr} {o : AO} (hs : SrcAt m sl) (e : m b = some o) (h : ∀ p q : Int, o ≠ .list (iL [p, q])) : b ≠ sl := by
  rintro rfl
  obtain ⟨p, q, e2, _⟩ := hs
  rw [e] at e2; cases e2; exact h p q rfl
theorem refs_ne {r : List Addr} (p q : Int) : AO.list (refs r) ≠ .list (iL [p, q]) := by
  intro e
  cases r <;> simp [refs, iL] at e
theorem sL_ne {r : List Str} (p q : Int) : AO.list (sL r) ≠ .list (iL [p, q]) := by
  intro e
  cases r <;> simp [sL, iL] at e
theorem SrcAt.grow {m m' : Mem} {sl : Addr} (hs : SrcAt m sl) (g : Grow m m') : SrcAt m' sl := let ⟨p, q, e, h⟩ := hs; ⟨p, q, g _ _ e, h⟩
theorem ExNode.growX {m m' : Mem} {sl a : Addr} {k : Kd} {bs : List Addr} (x : ExNode m a k bs) (hs : SrcAt m sl) (g : GrowX sl m m') : ExNode m' a k bs := by
  obtain ⟨fs, h1, h2, h3⟩ := x
  have key : ∀ l r, m l = some (.list (refs r)) → m' l = some (.list (refs r)) := fun l r e => g _ _ (hs.ne e fun p q => refs_ne p q) e
  refine ⟨fs, g _ _ (hs.ne h1 fun p q e => by cases e) h1, h2, ?_⟩
  cases k with
  | var x => exact h3
  | lit => exact h3
  | app => obtain ⟨b, r, l, q1, q2, q3, q4⟩ := h3; exact ⟨b, r, l, q1, q2, q3, key _ _ q4⟩
  | lam ps => obtain ⟨b, l, q1, q2, q3, q4⟩ := h3; exact ⟨b, l, q1, q2, q3, g _ _ (hs.ne q4 fun p q => sL_ne p q) q4⟩
  | con => obtain ⟨l, q1, q2⟩ := h3; exact ⟨l, q1, key _ _ q2⟩
  | prim => obtain ⟨l, q1, q2⟩ := h3; exact ⟨l, q1, key _ _ q2⟩
mutual
theorem ExAt.growX {m m' : Mem} {sl : Addr} (hs : SrcAt m sl) (g : GrowX sl m m') : ∀ {a : Addr} {e : Ex}, ExAt m a e → ExAt m' a e
  | _, _, .mk h hs' => .mk (h.growX hs g) (ExsAt.growX hs g hs')
theorem ExsAt.growX {m m' : Mem} {sl : Addr} (hs : SrcAt m sl) (g : GrowX sl m m') : ∀ {bs : List Addr} {es : List Ex}, ExsAt m bs es → ExsAt m' bs es
  | _, _, .nil => .nil
  | _, _, .cons h hs' => .cons (ExAt.growX hs g h) (ExsAt.growX hs g hs')
end
noncomputable def eVar (x : Str) : Ex := .node (.var x) []
noncomputable def eLit : Ex := .node .lit []
theorem at_Var {m : Mem} {a : Addr} {x : Str} (e : m a = some (.inst 66 [("name", .str x 0)])) : ExAt m a (eVar x) := .mk ⟨_, e, rfl, rfl, rfl⟩ .nil
theorem at_Lit {m : Mem} {a : Addr} {u v : Value} (e : m a = some (.inst 108 [("value", v), ("kind", u)])) : ExAt m a eLit := .mk ⟨_, e, rfl, rfl⟩ .nil
theorem at_App {m : Mem} {a b l : Addr} {r : List Addr} {e0 : Ex} {es : List Ex} (e : m a = some (.inst 148 [("args", .ref l), ("fun", .ref b)])) (hl : m l = some (.list (refs r))) (h0 : ExAt m b e0) (h1 : ExsAt m r es) : ExAt m a (.node .app (e0 :: es)) :=
  .mk ⟨_, e, rfl, b, r, l, rfl, rfl, rfl, hl⟩ (.cons h0 h1)
theorem at_Lam {m : Mem} {a b l : Addr} {ps : List Str} {e0 : Ex} (e : m a = some (.inst 190 [("body", .ref b), ("params", .ref l)])) (hl : m l = some (.list (sL ps))) (h0 : ExAt m b e0) : ExAt m a (.node (.lam ps) [e0]) :=
  .mk ⟨_, e, rfl, b, l, rfl, rfl, rfl, hl⟩ (.cons h0 .nil)
theorem at_Con {m : Mem} {a l : Addr} {u : Value} {r : List Addr} {es : List Ex} (e : m a = some (.inst 230 [("args", .ref l), ("name", u)])) (hl : m l = some (.list (refs r))) (h1 : ExsAt m r es) : ExAt m a (.node .con es) :=
  .mk ⟨_, e, rfl, l, rfl, hl⟩ h1
theorem at_Prim {m : Mem} {a l : Addr} {u : Value} {r : List Addr} {es : List Ex} (e : m a = some (.inst 270 [("args", .ref l), ("op", u)])) (hl : m l = some (.list (refs r))) (h1 : ExsAt m r es) : ExAt m a (.node .prim es) :=
  .mk ⟨_, e, rfl, l, rfl, hl⟩ h1
section
variable {w : World} {h₀ : Heap} {n : Nat} {f : Fs} {ρ : Loc} {mem : Mem} {Q : Value → Mem → Prop}
theorem body_ok {sl pl tl : Addr} {x z : Str} {ps ts : List Str} (hs : SrcAt mem sl) (hp : mem pl = some (.list (sL (ps ++ [z])))) (hx : (ps ++ [z])[0]? = some x) (ht : LstAt mem tl (sL ts)) (h0 : 0 < ts.length) (h1 : ts.length < 1000)
    (h : ∀ r e m', GrowX sl mem m' → SrcAt m' sl → ExAt m' r e → e.size ≤ 10 → Q (.ref r) m') : CodeCal (cx w h₀) (n + 5) 457 [.ref sl, .ref pl, .ref tl] mem Q := by
  refine code_fn ["source", "params", "tops"] lk__law_body cd__law_body rfl (vals3 fun _ _ _ => by kernel_rfl) (by kernel_rfl) (by kernel_rfl) ?_
  generalize hf : (⟨(topDef 29).2.2, true⟩ : Fs) = f
  have nl0 : isL f "source" := by rw [← hf]; kernel_rfl
  have nl1 : isL f "params" := by rw [← hf]; kernel_rfl
  have nl2 : isL f "tops" := by rw [← hf]; kernel_rfl
  have nl3 : isL f "atom" := by rw [← hf]; kernel_rfl
  have nl4 : isL f "way" := by rw [← hf]; kernel_rfl
  have nl5 : isL f "asked" := by rw [← hf]; kernel_rfl
  have nl6 : isG f "_law_one" := by rw [← hf]; kernel_rfl
  have nl7 : isG f "Var" := by rw [← hf]; kernel_rfl
  have nl8 : isG f "Lit" := by rw [← hf]; kernel_rfl
  have nl9 : isG f "_law_take" := by rw [← hf]; kernel_rfl
  have nl10 : isG f "Prim" := by rw [← hf]; kernel_rfl
  have nl11 : isG f "App" := by rw [← hf]; kernel_rfl
  clear hf
  have htn : tl ≠ sl := by
    rcases ht with q | q
    · exact hs.ne q fun p q => sL_ne p q
    · exact hs.ne q fun p q e => by cases e
  have hpn : pl ≠ sl := hs.ne hp fun p q => sL_ne p q
  (walk_at "GO")
  refine ev_call (ev_global g__law_one (by assumption) ⟨callee_K ke__law_one, ?_⟩) rfl
  (walk_at "GO")
  refine ev_list ?_
  (walk_at "GO")
  refine ev_call (ev_global g_Var (by assumption) ⟨callee_K ke_Var, ?_⟩) rfl
  (walk_at "GO")
  refine sub_list (.inl hp) (by decide) (by decide) (v := .str x 0) (by simp only [sL, List.getElem?_map]; rw [show (0 : Int).toNat = 0 from rfl, hx]; rfl) ?_
  (walk_at "GO")
  refine new_Var fun a1 m1 n1 g1 e1 => ?_
  (walk_at "GO")
  refine ev_call (ev_global g_Lit (by assumption) ⟨callee_K ke_Lit, ?_⟩) rfl
  (walk_at "GO")
  refine new_Lit fun a2 m2 n2 g2 e2 => ?_
  (walk_at "GO")
  refine ⟨by simp, fun l3 n3 => ?_⟩
  have g3 : Grow mem (upd m2 l3 (.list [.ref a1, .ref a2])) := (g1.trans g2).trans (Grow.upd n3)
  have f1 : ExAt (upd m2 l3 (.list [.ref a1, .ref a2])) a1 (eVar x) := (at_Var (g2 _ _ e1)).grow (Grow.upd n3)
  have f2 : ExAt (upd m2 l3 (.list [.ref a1, .ref a2])) a2 eLit := (at_Lit e2).grow (Grow.upd n3)
  have e3 : upd m2 l3 (.list [.ref a1, .ref a2]) l3 = some (.list [.ref a1, .ref a2]) := upd_same
  generalize upd m2 l3 (.list [.ref a1, .ref a2]) = m3 at g3 f1 f2 e3 ⊢
  (walk_at "GO")
  have hs3 := hs.grow g3
  refine ((one_ok (n := n + 1) hs3 (.inl e3) (hs3.ne e3 fun p q e => by simp [iL] at e) (by simp) (by simp) fun v m4 g4 hs4 hv => ?_).cal)
  obtain ⟨av, ea, rfl, hav, hsz⟩ : ∃ av ea, v = .ref av ∧ ExAt m4 av ea ∧ ea.size = 1 := by
    simp at hv
    rcases hv with rfl | rfl
    · exact ⟨_, _, rfl, f1.growX hs3 g4, rfl⟩
    · exact ⟨_, _, rfl, f2.growX hs3 g4, rfl⟩
  have g5 : GrowX sl mem m4 := (g3.x).trans g4
  clear f1 f2 g4 e3 g3 hs3 hv e2 g2 e1 g1 n1 n2 n3
  (walk_at "GO")
  refine ev_call (ev_global g__law_take (by assumption) ⟨callee_K ke__law_take, ?_⟩) rfl
  (walk_at "GO")
  refine (take_ok (n := n + 2) hs4 (by decide) (by decide) fun way m5 g6 hs5 d0 d1 => ?_).cal
  have hav5 := hav.growX hs4 g6
  have g7 := g5.trans g6
  (walk_at "GO")
  by_cases w0 : way = 0
  · subst w0
    rw [beq_self_eq_true]
    (walk_at "GO")
    exact h _ _ _ g7 hs5 hav5 (by omega)
  rw [show (way == 0) = false from by simpa using w0]
  refine sts_nil ?_
  (walk_at "GO")
  by_cases w1 : way = 1
  · subst w1
    rw [beq_self_eq_true]
    (walk_at "GO")
    refine ev_call (ev_global g_Prim (by assumption) ⟨callee_K ke_Prim, ?_⟩) rfl
    (walk_at "GO")
    refine ev_list ?_
    (walk_at "GO")
    refine ev_call (ev_global g_Prim (by assumption) ⟨callee_K ke_Prim, ?_⟩) rfl
    (walk_at "GO")
    refine ev_list ?_
    (walk_at "GO")
    refine ev_call (ev_global g_Var (by assumption) ⟨callee_K ke_Var, ?_⟩) rfl
    (walk_at "GO")
    refine un_neg ?_
    refine sub_last (vs := sL ps) (v := .str z 0) (.inl (by rw [g7 _ _ hpn hp, sL_append]; rfl)) ?_
    (walk_at "GO")
    refine new_Var fun b1 m6 n6 g6 e6 => ?_
    (walk_at "GO")
    refine ev_call (ev_global g_Lit (by assumption) ⟨callee_K ke_Lit, ?_⟩) rfl
    (walk_at "GO")
    refine new_Lit fun b2 m7 n7 g8 e7 => ?_
    (walk_at "GO")
    refine ⟨by simp, fun l8 n8 => ?_⟩
    (walk_at "GO")
    refine new_Prim fun b3 m9 n9 g9 e9 => ?_
    have f1 : ExAt m9 b1 (eVar z) := (at_Var (g8 _ _ e6)).grow ((Grow.upd n8).trans g9)
    have f2 : ExAt m9 b2 eLit := (at_Lit e7).grow ((Grow.upd n8).trans g9)
    have f3 : ExAt m9 b3 (.node .prim [eVar z, eLit]) := at_Prim (r := [b1, b2]) e9 (g9 _ _ upd_same) (.cons f1 (.cons f2 .nil))
    have G9 : Grow m5 m9 := ((g6.trans g8).trans (Grow.upd n8)).trans g9
    (walk_at "GO")
    refine ⟨by simp, fun l10 n10 => ?_⟩
    (walk_at "GO")
    refine new_Prim fun b4 m11 n11 g11 e11 => ?_
    have G11 : Grow m9 m11 := (Grow.upd n10).trans g11
    exact h _ _ _ (g7.trans (G9.trans G11).x) (hs5.grow (G9.trans G11)) (at_Prim (r := [av, b3]) e11 (g11 _ _ upd_same) (.cons (hav5.grow (G9.trans G11)) (.cons (f3.grow G11) .nil))) (by simp [Ex.size, sizes, eVar, eLit]; omega)
  rw [show (way == 1) = false from by simpa using w1]
  refine sts_nil ?_
  (walk_at "GO")
  refine ev_call (ev_global g_App (by assumption) ⟨callee_K ke_App, ?_⟩) rfl
  (walk_at "GO")
  refine ev_call (ev_global g_Var (by assumption) ⟨callee_K ke_Var, ?_⟩) rfl
  (walk_at "GO")
  refine ev_call (ev_global g__law_one (by assumption) ⟨callee_K ke__law_one, ?_⟩) rfl
  (walk_at "GO")
  refine (one_ok (n := n + 1) hs5 (ht.imp (g7 _ _ htn) (g7 _ _ htn)) htn (by simpa [sL] using h0) (by simpa [sL] using h1) fun v m6 g8 hs6 hv => ?_).cal
  obtain ⟨t, rfl⟩ : ∃ t, v = .str t 0 := by
    obtain ⟨t, _, rfl⟩ := List.mem_map.mp hv
    exact ⟨t, rfl⟩
  have hav6 := hav5.growX hs5 g8
  have g9 := g7.trans g8
  (walk_at "GO")
  refine new_Var fun b1 m7 n7 g10 e7 => ?_
  (walk_at "GO")
  refine ev_list ?_
  (walk_at "GO")
  refine ⟨by simp, fun l8 n8 => ?_⟩
  (walk_at "GO")
  refine new_App fun b2 m9 n9 g11 e9 => ?_
  have G9 : Grow m6 m9 := (g10.trans (Grow.upd n8)).trans g11
  have f1 : ExAt m9 b2 (.node .app [eVar t, ea]) := at_App (r := [av]) e9 (g11 _ _ upd_same) ((at_Var e7).grow ((Grow.upd n8).trans g11)) (.cons (hav6.grow G9) .nil)
  have hav9 := hav6.grow G9
  (walk_at "GO")
  refine ev_ifexp ?_
  (walk_at "GO")
  by_cases w2 : way = 2
  · subst w2
    rw [beq_self_eq_true]
    (walk_at "GO")
    exact h _ _ _ (g9.trans G9.x) (hs6.grow G9) f1 (by simp [Ex.size, sizes, eVar]; omega)
  rw [show (way == 2) = false from by simpa using w2]
  (walk_at "GO")
  refine ev_call (ev_global g_Prim (by assumption) ⟨callee_K ke_Prim, ?_⟩) rfl
  (walk_at "GO")
  refine ev_list ?_
  (walk_at "GO")
  refine ev_call (ev_global g_Prim (by assumption) ⟨callee_K ke_Prim, ?_⟩) rfl
  (walk_at "GO")
  refine ev_list ?_
  (walk_at "GO")
  refine ev_call (ev_global g_Prim (by assumption) ⟨callee_K ke_Prim, ?_⟩) rfl
  (walk_at "GO")
  refine ev_list ?_
  (walk_at "GO")
  refine ⟨by simp, fun l10 n10 => ?_⟩
  (walk_at "GO")
  refine new_Prim fun b3 m11 n11 g12 e11 => ?_
  have G11 : Grow m9 m11 := (Grow.upd n10).trans g12
  have f3 : ExAt m11 b3 (.node .prim [ea, ea]) := at_Prim (r := [av, av]) e11 (g12 _ _ upd_same) (.cons (hav9.grow G11) (.cons (hav9.grow G11) .nil))
  (walk_at "GO")
  refine ⟨by simp, fun l12 n12 => ?_⟩
  (walk_at "GO")
  refine new_Prim fun b4 m13 n13 g13 e13 => ?_
  have G13 : Grow m11 m13 := (Grow.upd n12).trans g13
  have f4 : ExAt m13 b4 (.node .prim [ea, .node .prim [ea, ea]]) := at_Prim (r := [av, b3]) e13 (g13 _ _ upd_same) (.cons (hav9.grow (G11.trans G13)) (.cons (f3.grow G13) .nil))
  (walk_at "GO")
  refine ⟨by simp, fun l14 n14 => ?_⟩
  (walk_at "GO")
  refine new_Prim fun b5 m15 n15 g15 e15 => ?_
  have G15 : Grow m13 m15 := (Grow.upd n14).trans g15
  exact h _ _ _ (g9.trans (((G9.trans G11).trans G13).trans G15).x) (hs6.grow (((G9.trans G11).trans G13).trans G15)) (at_Prim (r := [b2, b4]) e15 (g15 _ _ upd_same) (.cons (f1.grow ((G11.trans G13).trans G15)) (.cons (f4.grow G15) .nil))) (by simp [Ex.size, sizes, eVar]; omega)
end
end Mine
end
section
-- F17
set_option maxRecDepth 100000
set_option maxHeartbeats 400000
set_option autoImplicit false
set_option linter.unusedVariables false
set_option linter.unusedSimpArgs false
namespace Mine
open PySem PySem.W PySem.Calls PyProof.Rows
section
variable {w : World} {h₀ : Heap} {n : Nat} {f : Fs} {ρ : Loc} {mem : Mem} {Q : Value → Mem → Prop}
theorem ExsAt.snoc {m : Mem} : ∀ {bs : List Addr} {es : List Ex} {b : Addr} {e : Ex}, ExsAt m bs es → ExAt m b e → ExsAt m (bs ++ [b]) (es ++ [e])
  | _, _, _, _, .nil, h => .cons h .nil
  | _, _, _, _, .cons h1 h2, h => .cons h1 (h2.snoc h)
noncomputable def Ex.leaf (e : Ex) : Prop := (∃ x, e = eVar x) ∨ e = eLit
theorem ExAt.upd {m : Mem} {a D : Addr} {e : Ex} {vs ws : List Value} (h : ExAt m a e) (hl : e.leaf) (hD : m D = some (.list vs)) : ExAt (Mine.upd m D (.list ws)) a e := by
  rcases hl with ⟨x, rfl⟩ | rfl
  · cases h with
    | mk h hs =>
      cases hs
      obtain ⟨fs, h1, h2, h3⟩ := h
      exact .mk ⟨fs, by rw [upd_ne (by rintro rfl; rw [hD] at h1; cases h1)]; exact h1, h2, h3⟩ .nil
  · cases h with
    | mk h hs =>
      cases hs
      obtain ⟨fs, h1, h2, h3⟩ := h
      exact .mk ⟨fs, by rw [upd_ne (by rintro rfl; rw [hD] at h1; cases h1)]; exact h1, h2, h3⟩ .nil
theorem ExsAt.upd {m : Mem} {D : Addr} {vs ws : List Value} (hD : m D = some (.list vs)) : ∀ {bs : List Addr} {es : List Ex}, ExsAt m bs es → (∀ e ∈ es, e.leaf) → ExsAt (Mine.upd m D (.list ws)) bs es
  | _, _, .nil, _ => .nil
  | _, _, .cons h hs, hl => .cons (h.upd (hl _ (by simp)) hD) (hs.upd hD fun e he => hl e (by simp [he]))
/-- Var(_law_one(source, tops)) in any frame -/
theorem ev_varOf {p1 p2 p3 p4 : Pos} {es : List Expr} {sl tl : Addr} {ts : List Str} (hs : SrcAt mem sl) (ht : LstAt mem tl (sL ts)) (htn : tl ≠ sl) (h0 : 0 < ts.length) (h1 : ts.length < 1000) (g1 : isG f "Var") (g2 : isG f "_law_one")
    (he : ∀ Q' : List Value → Mem → Prop, Q' [.ref sl, .ref tl] mem → Evs (cx w h₀) (n + 4) f ρ p3 es mem Q') (hpl : es.all plainE = true)
    (h : ∀ a x m', GrowX sl mem m' → SrcAt m' sl → mem a = none → m' a = some (.inst 66 [("name", .str x 0)]) → Q (.ref a) m') :
    Ev (cx w h₀) (n + 4) f ρ (.Call (.Name "Var" p1) [.Call (.Name "_law_one" p2) es [] p3] [] p4) mem Q := by
  refine ev_call (ev_global g_Var g1 ⟨callee_K ke_Var, ?_⟩) rfl
  refine evs_cons (ev_call (ev_global g__law_one g2 ⟨callee_K ke__law_one, he _ ?_⟩) hpl) rfl
  refine (one_ok (n := n + 1) hs ht htn (by simpa [sL] using h0) (by simpa [sL] using h1) fun v m6 g8 hs6 hv => ?_).cal
  obtain ⟨t, rfl⟩ : ∃ t, v = .str t 0 := by
    obtain ⟨t, _, rfl⟩ := List.mem_map.mp hv
    exact ⟨t, rfl⟩
  refine evs_nil (new_Var fun b1 m7 n7 g10 e7 => ?_)
  have hb : mem b1 = none := by
    cases hb : mem b1 with
    | none => rfl
    | some o =>
      by_cases hq : b1 = sl
      · subst hq; obtain ⟨_, _, q, _⟩ := hs6; rw [n7] at q; cases q
      · rw [g8 _ _ hq hb] at n7; cases n7
  exact h _ t _ (g8.trans g10.x) (hs6.grow g10) hb e7
theorem top_ok {sl tl : Addr} {ts : List Str} (hs : SrcAt mem sl) (ht : LstAt mem tl (sL ts)) (h0 : 0 < ts.length) (h1 : ts.length < 1000)
    (h : ∀ r e m', GrowX sl mem m' → SrcAt m' sl → ExAt m' r e → e.size ≤ 60 → e.params.length ≤ 2 → Q (.ref r) m') : CodeCal (cx w h₀) (n + 6) 462 [.ref sl, .ref tl] mem Q := by
  have htn : tl ≠ sl := by
    rcases ht with q | q
    · exact hs.ne q fun p q => sL_ne p q
    · exact hs.ne q fun p q e => by cases e
  refine code_fc ["source", "tops"] lk__law_top cd__law_top rfl (vals2 fun _ _ => by kernel_rfl) (by kernel_rfl) (by kernel_rfl) ?_
  have nl0 : isL (⟨(topDef 30).2.2, true⟩ : Fs) "way" := by kernel_rfl
  have nl1 : isL (⟨(topDef 30).2.2, true⟩ : Fs) "params" := by kernel_rfl
  have nl2 : isL (⟨(topDef 30).2.2, true⟩ : Fs) "fields" := by kernel_rfl
  have nl3 : isG (⟨(topDef 30).2.2, true⟩ : Fs) "_law_take" := by kernel_rfl
  have nl4 : isG (⟨(topDef 30).2.2, true⟩ : Fs) "Lam" := by kernel_rfl
  have nl5 : isG (⟨(topDef 30).2.2, true⟩ : Fs) "_law_body" := by kernel_rfl
  have nl6 : isG (⟨(topDef 30).2.2, true⟩ : Fs) "Lit" := by kernel_rfl
  have nl7 : isG (⟨(topDef 30).2.2, true⟩ : Fs) "Var" := by kernel_rfl
  have nl8 : isG (⟨(topDef 30).2.2, true⟩ : Fs) "_law_one" := by kernel_rfl
  have nl9 : isG (⟨(topDef 30).2.2, true⟩ : Fs) "Con" := by kernel_rfl
  have nl10 : isG (⟨(topDef 30).2.2, true⟩ : Fs) "range" := by kernel_rfl
  have nl11 : isC (⟨(topDef 30).2.2, true⟩ : Fs) "source" := by kernel_rfl
  have nl12 : isC (⟨(topDef 30).2.2, true⟩ : Fs) "tops" := by kernel_rfl
  (walk_at "GO")
  refine ev_call (ev_global g__law_take (by assumption) ⟨callee_K ke__law_take, ?_⟩) rfl
  (walk_at "GO")
  refine (take_ok (n := n + 3) hs (by decide) (by decide) fun way m1 g1 hs1 d0 d1 => ?_).cal
  have ht1 : LstAt m1 tl (sL ts) := ht.imp (g1 _ _ htn) (g1 _ _ htn)
  (walk_at "GO")
  by_cases w4 : way < 4
  · rw [decide_eq_true w4]
    (walk_at "GO")
    refine ev_ifexp ?_
    (walk_at "GO")
    by_cases w2 : way < 2
    · rw [decide_eq_true w2]
      (walk_at "GO")
      refine ev_list ?_
      (walk_at "GO")
      refine ⟨by simp, fun pl n2 => ?_⟩
      (walk_at "GO")
      refine ev_call (ev_global g_Lam (by assumption) ⟨callee_K ke_Lam, ?_⟩) rfl
      (walk_at "GO")
      refine ev_call (ev_global g__law_body (by assumption) ⟨callee_K ke__law_body, ?_⟩) rfl
      (walk_at "GO")
      refine (body_ok (n := n) (x := "x") (z := "x") (ps := []) (hs1.grow (Grow.upd n2)) (pl := pl) upd_same rfl (ht1.grow (Grow.upd n2)) h0 h1 fun r e m2 g2 hs2 he hz => ?_).cal
      have hpl : m2 pl = some (.list (sL ["x"])) := g2 _ _ (by rintro rfl; obtain ⟨_, _, q, _⟩ := hs1; rw [n2] at q; cases q) upd_same
      (walk_at "GO")
      refine new_Lam fun b m3 n3 g3 e3 => ?_
      (walk_at "GO")
      exact h _ _ _ (((g1.trans (Grow.upd n2).x).trans g2).trans g3.x) (hs2.grow g3) (at_Lam e3 (g3 _ _ hpl) (he.grow g3)) (by simp [Ex.size, sizes]; omega) (by simp [Ex.params])
    · rw [decide_eq_false w2]
      (walk_at "GO")
      refine ev_list ?_
      (walk_at "GO")
      refine ⟨by simp, fun pl n2 => ?_⟩
      (walk_at "GO")
      refine ev_call (ev_global g_Lam (by assumption) ⟨callee_K ke_Lam, ?_⟩) rfl
      (walk_at "GO")
      refine ev_call (ev_global g__law_body (by assumption) ⟨callee_K ke__law_body, ?_⟩) rfl
      (walk_at "GO")
      refine (body_ok (n := n) (x := "x") (z := "y") (ps := ["x"]) (hs1.grow (Grow.upd n2)) (pl := pl) upd_same rfl (ht1.grow (Grow.upd n2)) h0 h1 fun r e m2 g2 hs2 he hz => ?_).cal
      have hpl : m2 pl = some (.list (sL ["x", "y"])) := g2 _ _ (by rintro rfl; obtain ⟨_, _, q, _⟩ := hs1; rw [n2] at q; cases q) upd_same
      (walk_at "GO")
      refine new_Lam fun b m3 n3 g3 e3 => ?_
      (walk_at "GO")
      exact h _ _ _ (((g1.trans (Grow.upd n2).x).trans g2).trans g3.x) (hs2.grow g3) (at_Lam e3 (g3 _ _ hpl) (he.grow g3)) (by simp [Ex.size, sizes]; omega) (by simp [Ex.params])
  rw [decide_eq_false w4]
  refine sts_nil ?_
  (walk_at "GO")
  by_cases w5 : way = 4
  · subst w5
    rw [beq_self_eq_true]
    (walk_at "GO")
    refine ev_call (ev_global g_Lit (by assumption) ⟨callee_K ke_Lit, ?_⟩) rfl
    (walk_at "GO")
    refine new_Lit fun a2 m2 n2 g2 e2 => ?_
    (walk_at "GO")
    exact h _ _ _ (g1.trans g2.x) (hs1.grow g2) (at_Lit e2) (by simp [Ex.size, sizes, eLit]) (by simp [Ex.params, eLit])
  rw [show (way == 4) = false from by simpa using w5]
  refine sts_nil ?_
  (walk_at "GO")
  by_cases w6 : way = 5
  · subst w6
    rw [beq_self_eq_true]
    (walk_at "GO")
    refine ev_varOf (n := n + 1) hs1 ht1 htn h0 h1 (by with_reducible assumption) (by with_reducible assumption) (fun Q' q => ?_) rfl fun a x m2 g2 hs2 na e2 => ?_
    · (walk_at "GO")
      exact q
    (walk_at "GO")
    exact h _ _ _ (g1.trans g2) hs2 (at_Var e2) (by simp [Ex.size, sizes, eVar]) (by simp [Ex.params, eVar])
  rw [show (way == 5) = false from by simpa using w6]
  refine sts_nil ?_
  (walk_at "GO")
  by_cases w7 : way = 6
  · subst w7
    rw [beq_self_eq_true]
    (walk_at "GO")
    refine ev_call (ev_global g_Con (by assumption) ⟨callee_K ke_Con, ?_⟩) rfl
    (walk_at "GO")
    refine ev_list (evs_nil ⟨by simp, fun l2 n2 => ?_⟩)
    (walk_at "GO")
    refine new_Con fun b m3 n3 g3 e3 => ?_
    (walk_at "GO")
    exact h _ _ _ (g1.trans ((Grow.upd n2).trans g3).x) (hs1.grow ((Grow.upd n2).trans g3)) (at_Con (r := []) e3 (g3 _ _ upd_same) .nil) (by simp [Ex.size, sizes]) (by simp [Ex.params])
  rw [show (way == 6) = false from by simpa using w7]
  refine sts_nil ?_
  refine sts_cons ?_
  refine st_comp [("source", .ref sl), ("tops", .ref tl)] (by kernel_rfl) (by kernel_rfl) (List.forall_mem_cons.mpr ⟨⟨rfl, by kernel_rfl⟩, List.forall_mem_cons.mpr ⟨⟨rfl, by kernel_rfl⟩, List.forall_mem_nil _⟩⟩) ?_
  refine ev_call (ev_builtin gn_range bb_range (by assumption) ⟨callee_type, ?_⟩ (by decide) (by decide)) rfl
  (walk_at "GO")
  refine cal_range1 fun rg n2 => ?_
  have hrs : rg ≠ sl := by rintro rfl; obtain ⟨_, _, q, _⟩ := hs1; rw [n2] at q; cases q
  have G2 : GrowX sl mem (upd m1 rg (.rng 0 2)) := g1.trans (Grow.upd n2).x
  have S2 : SrcAt (upd m1 rg (.rng 0 2)) sl := hs1.grow (Grow.upd n2)
  have T2 : LstAt (upd m1 rg (.rng 0 2)) tl (sL ts) := ht1.grow (Grow.upd n2)
  have R2 : upd m1 rg (.rng 0 2) rg = some (.rng 0 2) := upd_same
  generalize upd m1 rg (.rng 0 2) = m2 at G2 S2 T2 R2 ⊢
  refine ⟨rngVals 0 2, .rng 0 2, .inr ⟨rg, 0, 2, rfl, R2, by decide, by decide, by decide, by decide, rfl, rfl⟩, fun i out D m => GrowX sl m2 m ∧ SrcAt m sl ∧ m2 D = none ∧ m D = some (.list out) ∧ i ≤ 2 ∧ out.length = i ∧ ∃ bs es, out = refs bs ∧ ExsAt m bs es ∧ (∀ e ∈ es, e.leaf) ∧ sizes es = i, ?_, ?_, ?_, ?_⟩
  · intro D hD
    exact ⟨(Grow.upd hD).x, S2.grow (Grow.upd hD), hD, upd_same, by decide, rfl, [], [], rfl, .nil, (fun e he => by cases he), rfl⟩
  · rintro i out D m ⟨y1, y2, y3, y4, y5, y6, _⟩
    exact ⟨rfl, y4, by omega⟩
  · rintro i x out D m hx' ⟨y1, y2, y3, y4, y5, y6, bs, es, rfl, y7, y9, y8⟩
    have hi' : i < 2 := by have := (rng_get hx').2; simpa using this
    have hDs : D ≠ sl := by rintro rfl; obtain ⟨_, _, q, _⟩ := S2; rw [y3] at q; cases q
    have T3 : LstAt m tl (sL ts) := T2.imp (y1 _ _ htn) (y1 _ _ htn)
    refine as_name (sto_local (comp_local (by kernel_rfl)) (ifs_nil ?_))
    rw [if_pos rfl]
    refine ev_call (ev_global g__law_one (by kernel_rfl) ⟨callee_K ke__law_one, ?_⟩) rfl
    refine evs_cons (ev_cell rfl (by kernel_rfl) ?_) rfl
    refine evs_cons (ev_list ?_) rfl
    refine evs_cons (ev_varOf (n := n + 1) y2 T3 htn h0 h1 (by kernel_rfl) (by kernel_rfl) (fun Q' q => ?_) rfl fun a1 x1 m3 g3 s3 n3 e3 => ?_) rfl
    · exact evs_cons (ev_cell rfl (by kernel_rfl) (evs_cons (ev_cell rfl (by kernel_rfl) (evs_nil q)) rfl)) rfl
    have T4 : LstAt m3 tl (sL ts) := T3.imp (g3 _ _ htn) (g3 _ _ htn)
    refine evs_cons (ev_varOf (n := n + 1) s3 T4 htn h0 h1 (by kernel_rfl) (by kernel_rfl) (fun Q' q => ?_) rfl fun a2 x2 m4 g4 s4 n4 e4 => ?_) rfl
    · exact evs_cons (ev_cell rfl (by kernel_rfl) (evs_cons (ev_cell rfl (by kernel_rfl) (evs_nil q)) rfl)) rfl
    refine evs_cons (ev_call (ev_global g_Lit (by kernel_rfl) ⟨callee_K ke_Lit, ?_⟩) rfl) rfl
    (walk_at "GO")
    refine new_Lit fun a3 m5 n5 g5 e5 => ?_
    refine evs_nil ⟨by simp, fun l6 n6 => ?_⟩
    have t3 : ExAt (upd m5 l6 (.list [.ref a1, .ref a2, .ref a3])) a1 (eVar x1) := (((at_Var e3).growX s3 g4).grow g5).grow (Grow.upd n6)
    have t4 : ExAt (upd m5 l6 (.list [.ref a1, .ref a2, .ref a3])) a2 (eVar x2) := ((at_Var e4).grow g5).grow (Grow.upd n6)
    have t5 : ExAt (upd m5 l6 (.list [.ref a1, .ref a2, .ref a3])) a3 eLit := (at_Lit e5).grow (Grow.upd n6)
    have G6 : GrowX sl m (upd m5 l6 (.list [.ref a1, .ref a2, .ref a3])) := (g3.trans g4).trans (g5.trans (Grow.upd n6)).x
    have s6 : SrcAt (upd m5 l6 (.list [.ref a1, .ref a2, .ref a3])) sl := s4.grow (g5.trans (Grow.upd n6))
    have e6 : upd m5 l6 (.list [.ref a1, .ref a2, .ref a3]) l6 = some (.list [.ref a1, .ref a2, .ref a3]) := upd_same
    generalize upd m5 l6 (.list [.ref a1, .ref a2, .ref a3]) = m6 at t3 t4 t5 G6 s6 e6 ⊢
    refine evs_nil ((one_ok (n := n + 2) s6 (.inl e6) (s6.ne e6 fun p q e => by simp [iL] at e) (by simp) (by simp) fun v m7 g7 s7 hv => ?_).cal)
    obtain ⟨av, ea, rfl, hav, hlf, hsz⟩ : ∃ av ea, v = .ref av ∧ ExAt m7 av ea ∧ ea.leaf ∧ ea.size = 1 := by
      simp at hv
      rcases hv with rfl | rfl | rfl
      · exact ⟨_, _, rfl, t3.growX s6 g7, .inl ⟨_, rfl⟩, rfl⟩
      · exact ⟨_, _, rfl, t4.growX s6 g7, .inl ⟨_, rfl⟩, rfl⟩
      · exact ⟨_, _, rfl, t5.growX s6 g7, .inr rfl, rfl⟩
    have G7 : GrowX sl m m7 := G6.trans g7
    have b7 := G7 _ _ hDs y4
    have gd : GrowX sl m2 (upd m7 D (.list (refs bs ++ [.ref av]))) := fun b o hb e => by
      rw [upd_ne (by rintro rfl; rw [y3] at e; cases e)]
      exact G7 _ _ hb (y1 _ _ hb e)
    refine ⟨b7, gd, ?_, y3, upd_same, hi', by simp [y6], bs ++ [av], es ++ [ea], by simp [refs], ?_, ?_, by rw [sizes_append, y8]; simp [sizes, hsz]⟩
    · obtain ⟨p, q, e, z⟩ := s7
      exact ⟨p, q, by rw [upd_ne (Ne.symm hDs)]; exact e, z⟩
    · exact ((y7.growX y2 G7).upd b7 y9).snoc (hav.upd hlf b7)
    · intro e he
      rcases List.mem_append.mp he with he | he
      · exact y9 e he
      · rcases List.mem_singleton.mp he with rfl; exact hlf
  · rintro D out m ⟨y1, y2, y3, y4, y5, y6, bs, es, rfl, y7, y9, y8⟩
    (walk_at "GO")
    refine ev_call (ev_global g_Con (by assumption) ⟨callee_K ke_Con, ?_⟩) rfl
    (walk_at "GO")
    refine new_Con fun b m3 n3 g3 e3 => ?_
    (walk_at "GO")
    exact h _ _ _ (G2.trans (y1.trans g3.x)) (y2.grow g3) (at_Con e3 (g3 _ _ y4) (y7.grow g3)) (by simp only [Ex.size, y8]; omega) (by simp [Ex.params])
end
end Mine
end
section
-- F18
set_option maxRecDepth 100000
set_option maxHeartbeats 400000
set_option autoImplicit false
set_option linter.unusedVariables false
set_option linter.unusedSimpArgs false
namespace Mine
open PySem PySem.W PySem.Calls PyProof.Rows
noncomputable def setF {β : Type} (g : Str → β) (x : Str) (v : β) : Str → β := fun y => if y = x then v else g y
noncomputable def dmap (xs : List Str) (g : Str → Value) : List (Str × Value) := xs.map fun x => (x, g x)
theorem dmap_look {xs : List Str} {g : Str → Value} {x : Str} : (dmap xs g).lookup x = if x ∈ xs then some (g x) else none := by
  induction xs with
  | nil => rfl
  | cons y r ih =>
    show ((y, g y) :: dmap r g).lookup x = _
    by_cases h : x = y
    · subst h; rw [List.lookup_cons, beq_self_eq_true]; simp
    · rw [lookup_cons_ne h, ih]; simp [h]
theorem dmap_in {xs : List Str} {g : Str → Value} {x : Str} (h : x ∈ xs) : (dmap xs g).lookup x = some (g x) := by rw [dmap_look, if_pos h]
theorem dmap_out {xs : List Str} {g : Str → Value} {x : Str} (h : x ∉ xs) : (dmap xs g).lookup x = none := by rw [dmap_look, if_neg h]
theorem dmap_len {xs : List Str} {g : Str → Value} : (dmap xs g).length = xs.length := by simp [dmap]
theorem dmap_congr {xs : List Str} {g g' : Str → Value} (h : ∀ x ∈ xs, g x = g' x) : dmap xs g = dmap xs g' := List.map_congr_left fun x hx => by rw [h x hx]
theorem dmap_new {xs : List Str} {g : Str → Value} {x : Str} {v : Value} (h : x ∉ xs) : put (dmap xs g) x v = dmap (xs ++ [x]) (setF g x v) := by
  rw [put_new (dmap_out h)]
  have : dmap xs g = dmap xs (setF g x v) := dmap_congr fun y hy => by
    have : y ≠ x := fun e => h (e ▸ hy)
    simp [setF, this]
  rw [this]
  simp [dmap, setF]
theorem dmap_set {xs : List Str} {g : Str → Value} {x : Str} {v : Value} (h : x ∈ xs) : put (dmap xs g) x v = dmap xs (setF g x v) := by
  unfold put stored
  rw [if_pos (by simpa [dmap] using h)]
  simp only [dmap, List.map_map]
  refine List.map_congr_left fun y hy => ?_
  by_cases hyx : y = x <;> simp [setF, hyx]
/-- the walker's state: the tops in the order of their numbers, the open ones (the last first), the groups -/
structure TS where
  seen : List Str
  num : Str → Int
  low : Str → Int
  op : List Str
  found : List (List Str)
structure WA where
  wa : Addr
  ud : Addr
  nd : Addr
  ld : Addr
  ol : Addr
  io : Addr
  gf : Addr
noncomputable def WA.all (A : WA) : List Addr := [A.wa, A.ud, A.nd, A.ld, A.ol, A.io, A.gf]
noncomputable def WA.muts (A : WA) : List Addr := [A.nd, A.ld, A.ol, A.io, A.gf]
noncomputable def WA.fs (A : WA) : Loc := [("found", .ref A.gf), ("is_open", .ref A.io), ("open", .ref A.ol), ("lows", .ref A.ld), ("numbers", .ref A.nd), ("uses", .ref A.ud)]
noncomputable def GrowL (B : List Addr) (m m' : Mem) : Prop := ∀ a o, a ∉ B → m a = some o → m' a = some o
theorem GrowL.refl (B : List Addr) (m : Mem) : GrowL B m m := fun _ _ _ e => e
theorem GrowL.trans {B : List Addr} {m₁ m₂ m₃ : Mem} (p : GrowL B m₁ m₂) (q : GrowL B m₂ m₃) : GrowL B m₁ m₃ := fun a o h e => q a o h (p a o h e)
theorem Grow.l {B : List Addr} {m m' : Mem} (g : Grow m m') : GrowL B m m' := fun a o _ e => g a o e
theorem GrowL.more {B B' : List Addr} {m m' : Mem} (g : GrowL B m m') (h : ∀ a ∈ B, a ∈ B') : GrowL B' m m' := fun a o ha e => g a o (fun q => ha (h a q)) e
theorem GrowL.upd {B : List Addr} {m : Mem} {a : Addr} {o : AO} (h : a ∈ B) : GrowL B m (upd m a o) := fun b o' hb e => by rw [upd_ne (by rintro rfl; exact hb h)]; exact e
noncomputable def GroupsAt (m : Mem) (X : List Addr) (A : WA) (G : List (List Str)) : Prop := ∃ gs : List Addr, m A.gf = some (.list (refs gs)) ∧ gs.length = G.length ∧ ∀ (i : Nat) (g : Addr) (xs : List Str), gs[i]? = some g → G[i]? = some xs → m g = some (.list (sL xs)) ∧ g ∉ A.all ∧ g ∉ X
structure WAt (m : Mem) (X : List Addr) (V : List Str) (adj : Str → List Str) (A : WA) (st : TS) : Prop where
  nodup : A.all.Nodup
  out : ∀ a ∈ A.all, a ∉ X
  live : ∀ a ∈ X, ∃ o, m a = some o
  obj : m A.wa = some (.inst 363 A.fs)
  nums : m A.nd = some (.dict (dmap st.seen fun x => .int (st.num x) 0))
  lows : m A.ld = some (.dict (dmap st.seen fun x => .int (st.low x) 0))
  opn : m A.ol = some (.list (sL st.op.reverse))
  iso : m A.io = some (.dict (dmap st.seen fun x => .bool (decide (x ∈ st.op))))
  fnd : GroupsAt m X A st.found
  uses : ∃ kvs, m A.ud = some (.dict kvs) ∧ ∀ x ∈ V, ∃ l, kvs.lookup x = some (.ref l) ∧ m l = some (.list (sL (adj x))) ∧ l ∉ A.all ∧ l ∉ X
theorem WA.mutsIn {A : WA} {a : Addr} (h : a ∈ A.muts) : a ∈ A.all := by
  simp only [WA.muts, WA.all, List.mem_cons, List.not_mem_nil, or_false] at h ⊢
  rcases h with h | h | h | h | h <;> simp [h]
theorem GroupsAt.grow {m m' : Mem} {X : List Addr} {A : WA} {G : List (List Str)} (h : GroupsAt m X A G) (g : ∀ a o, a ∉ A.all → a ∉ X → m a = some o → m' a = some o) (e : m' A.gf = m A.gf) : GroupsAt m' X A G := by
  obtain ⟨gs, h1, h2, h3⟩ := h
  exact ⟨gs, by rw [e]; exact h1, h2, fun i b xs q1 q2 => let ⟨z1, z2, z3⟩ := h3 i b xs q1 q2; ⟨g _ _ z2 z3 z1, z2, z3⟩⟩
theorem WAt.put {m m' : Mem} {X : List Addr} {V : List Str} {adj : Str → List Str} {A : WA} {st st' : TS} (W : WAt m X V adj A st) (g : GrowL A.muts m m')
    (h1 : m' A.nd = some (.dict (dmap st'.seen fun x => .int (st'.num x) 0))) (h2 : m' A.ld = some (.dict (dmap st'.seen fun x => .int (st'.low x) 0))) (h3 : m' A.ol = some (.list (sL st'.op.reverse)))
    (h4 : m' A.io = some (.dict (dmap st'.seen fun x => .bool (decide (x ∈ st'.op))))) (h5 : GroupsAt m' X A st'.found) : WAt m' X V adj A st' := by
  have hn := W.nodup
  have hwa : A.wa ∉ A.muts := by simp [WA.all, WA.muts] at hn ⊢; grind
  have hud : A.ud ∉ A.muts := by simp [WA.all, WA.muts] at hn ⊢; grind
  refine ⟨hn, W.out, fun a ha => ?_, g _ _ hwa W.obj, h1, h2, h3, h4, h5, ?_⟩
  · obtain ⟨o, e⟩ := W.live a ha
    exact ⟨o, g _ _ (fun q => W.out a (WA.mutsIn q) ha) e⟩
  · obtain ⟨kvs, e, h⟩ := W.uses
    exact ⟨kvs, g _ _ hud e, fun x hx => let ⟨l, q1, q2, q3, q4⟩ := h x hx; ⟨l, q1, g _ _ (fun q => q3 (WA.mutsIn q)) q2, q3, q4⟩⟩
/-- what lies outside may change -/
theorem WAt.keep {m m' : Mem} {X : List Addr} {V : List Str} {adj : Str → List Str} {A : WA} {st : TS} (W : WAt m X V adj A st) (g : GrowL X m m') (hl : ∀ a ∈ X, ∃ o, m' a = some o) : WAt m' X V adj A st := by
  refine ⟨W.nodup, W.out, hl, g _ _ (W.out _ (by simp [WA.all])) W.obj, g _ _ (W.out _ (by simp [WA.all])) W.nums, g _ _ (W.out _ (by simp [WA.all])) W.lows, g _ _ (W.out _ (by simp [WA.all])) W.opn, g _ _ (W.out _ (by simp [WA.all])) W.iso, ?_, ?_⟩
  · obtain ⟨gs, h1, h2, h3⟩ := W.fnd
    exact ⟨gs, g _ _ (W.out _ (by simp [WA.all])) h1, h2, fun i b xs q1 q2 => let ⟨z1, z2, z3⟩ := h3 i b xs q1 q2; ⟨g _ _ z3 z1, z2, z3⟩⟩
  · obtain ⟨kvs, e, h⟩ := W.uses
    exact ⟨kvs, g _ _ (W.out _ (by simp [WA.all])) e, fun x hx => let ⟨l, q1, q2, q3, q4⟩ := h x hx; ⟨l, q1, g _ _ q4 q2, q3, q4⟩⟩
/-- a fresh address is outside -/
theorem WAt.add {m : Mem} {X : List Addr} {V : List Str} {adj : Str → List Str} {A : WA} {st : TS} {a : Addr} {o : AO} (W : WAt m X V adj A st) (ha : m a = none) : WAt (upd m a o) (a :: X) V adj A st := by
  have key : ∀ b o', m b = some o' → b ≠ a := fun b o' e q => by rw [q, ha] at e; cases e
  have hall : ∀ b ∈ A.all, b ≠ a := by
    obtain ⟨gs, h1, _⟩ := W.fnd
    obtain ⟨kvs, h2, _⟩ := W.uses
    intro b hb
    simp only [WA.all, List.mem_cons, List.not_mem_nil, or_false] at hb
    rcases hb with rfl | rfl | rfl | rfl | rfl | rfl | rfl
    · exact key _ _ W.obj
    · exact key _ _ h2
    · exact key _ _ W.nums
    · exact key _ _ W.lows
    · exact key _ _ W.opn
    · exact key _ _ W.iso
    · exact key _ _ h1
  have g := Grow.upd (o := o) ha
  refine ⟨W.nodup, fun b hb q => ?_, fun b hb => ?_, g _ _ W.obj, g _ _ W.nums, g _ _ W.lows, g _ _ W.opn, g _ _ W.iso, ?_, ?_⟩
  · rcases List.mem_cons.mp q with rfl | q
    · exact hall _ hb rfl
    · exact W.out b hb q
  · rcases List.mem_cons.mp hb with rfl | hb
    · exact ⟨_, upd_same⟩
    · obtain ⟨o', e⟩ := W.live b hb; exact ⟨o', g _ _ e⟩
  · obtain ⟨gs, h1, h2, h3⟩ := W.fnd
    exact ⟨gs, g _ _ h1, h2, fun i b xs q1 q2 => let ⟨z1, z2, z3⟩ := h3 i b xs q1 q2; ⟨g _ _ z1, z2, fun q => (List.mem_cons.mp q).elim (key _ _ z1) z3⟩⟩
  · obtain ⟨kvs, e, h⟩ := W.uses
    exact ⟨kvs, g _ _ e, fun x hx => let ⟨l, q1, q2, q3, q4⟩ := h x hx; ⟨l, q1, g _ _ q2, q3, fun q => (List.mem_cons.mp q).elim (key _ _ q2) q4⟩⟩
noncomputable def TS.enter (st : TS) (x : Str) : TS := ⟨st.seen ++ [x], setF st.num x st.seen.length, setF st.low x st.seen.length, x :: st.op, st.found⟩
section
variable {w : World} {h₀ : Heap} {n : Nat} {f : Fs} {ρ : Loc} {mem : Mem} {Q : Value → Mem → Prop} {X : List Addr} {V : List Str} {adj : Str → List Str} {A : WA} {st : TS}
theorem st_ret0 {c : Cx} {N : Loc → Mem → Prop} {R : Value → Mem → Prop} {pos : Pos} (h : R .none mem) : St c n f ρ (.Return none pos) mem N R := fun A s env r Rp L C => wpAny_Return_none ⟨mem, ρ, .refl Rp, L, h⟩
theorem enter_ok {x : Str} (W : WAt mem X V adj A st) (hx : x ∉ st.seen) (hl : st.seen.length ≤ 1000) (ho : st.op.length ≤ 1000) (h : ∀ m', WAt m' X V adj A (st.enter x) → GrowL A.muts mem m' → Q .none m') : CodeCal (cx w h₀) (n + 1) 339 [.ref A.wa, .str x 0] mem Q := by
  refine code_fn ["self", "name"] lk_Walker_enter cd_Walker_enter rfl (vals2 fun _ _ => by kernel_rfl) (by kernel_rfl) (by kernel_rfl) ?_
  generalize hf : (⟨(methDef 14 1).2.2, true⟩ : Fs) = f
  have nl0 : isL f "self" := by rw [← hf]; kernel_rfl
  have nl1 : isL f "name" := by rw [← hf]; kernel_rfl
  have nl2 : isG f "len" := by rw [← hf]; kernel_rfl
  clear hf
  have hn := W.nodup
  simp only [WA.all, List.nodup_cons, List.mem_cons, List.not_mem_nil, or_false, not_or] at hn
  (walk_at "GO")
  refine ev_call (ev_builtin gn_len bb_len (by assumption) ⟨callee_builtin, ?_⟩ (by decide) (by decide)) rfl
  (walk_at "GO")
  refine geta_inst ok_Walker W.obj rfl (fun i q => by cases q) na_Walker_numbers ?_
  (walk_at "GO")
  refine cal_lenD W.nums (by rw [dmap_len]; omega) ?_
  (walk_at "GO")
  refine geta_inst ok_Walker W.obj rfl (fun i q => by cases q) na_Walker_numbers ?_
  (walk_at "GO")
  refine seti_dict W.nums (by rw [dmap_len]; omega) ?_
  rw [dmap_new hx, dmap_len]
  have o1 : upd mem A.nd (.dict (dmap (st.seen ++ [x]) (setF (fun x => .int (st.num x) 0) x (.int st.seen.length 0)))) A.wa = some (.inst 363 A.fs) := by rw [upd_ne (by grind)]; exact W.obj
  have e1 : upd mem A.nd (.dict (dmap (st.seen ++ [x]) (setF (fun x => .int (st.num x) 0) x (.int st.seen.length 0)))) A.nd = some (.dict (dmap (st.seen ++ [x]) (setF (fun x => .int (st.num x) 0) x (.int st.seen.length 0)))) := upd_same
  (walk_at "GO")
  refine geta_inst ok_Walker o1 rfl (fun i q => by cases q) na_Walker_numbers ?_
  (walk_at "GO")
  refine sub_dict e1 (v := .int st.seen.length 0) (by rw [dmap_in (by simp)]; simp [setF]) ?_
  (walk_at "GO")
  refine geta_inst ok_Walker o1 rfl (fun i q => by cases q) na_Walker_lows ?_
  (walk_at "GO")
  refine seti_dict (kvs := dmap st.seen fun x => .int (st.low x) 0) (by rw [upd_ne (by grind)]; exact W.lows) (by rw [dmap_len]; omega) ?_
  rw [dmap_new hx]
  (walk_at "GO")
  refine ev_meth (ev_attr (ev_local rfl (by assumption) (geta_inst ok_Walker (by rw [upd_ne (by grind)]; exact o1) rfl (fun i q => by cases q) na_Walker_open ?_)) rfl) rfl rfl rfl (by decide)
  refine ⟨_, meth_append (vs := sL st.op.reverse) (by rw [upd_ne (by grind), upd_ne (by grind)]; exact W.opn), rfl, callee_builtin, ?_⟩
  (walk_at "GO")
  refine cal_append (vs := sL st.op.reverse) (by rw [upd_ne (by grind), upd_ne (by grind)]; exact W.opn) (by simp [sL]; omega) ?_
  (walk_at "GO")
  refine geta_inst ok_Walker (by rw [upd_ne (by grind), upd_ne (by grind)]; exact o1) rfl (fun i q => by cases q) na_Walker_is_open ?_
  (walk_at "GO")
  refine seti_dict (kvs := dmap st.seen fun x => .bool (decide (x ∈ st.op))) (by rw [upd_ne (by grind), upd_ne (by grind), upd_ne (by grind)]; exact W.iso) (by rw [dmap_len]; omega) ?_
  rw [dmap_new hx]
  refine sts_nil (h _ (W.put ?_ ?_ ?_ ?_ ?_ ?_) ?_)
  any_goals exact (((GrowL.upd (by simp [WA.muts])).trans (GrowL.upd (by simp [WA.muts]))).trans (GrowL.upd (by simp [WA.muts]))).trans (GrowL.upd (by simp [WA.muts]))
  · rw [upd_ne (by grind), upd_ne (by grind), upd_ne (by grind), upd_same]
    congr 2
    exact dmap_congr fun y _ => by simp only [setF, TS.enter]; split <;> rfl
  · rw [upd_ne (by grind), upd_ne (by grind), upd_same]
    congr 2
    exact dmap_congr fun y _ => by simp only [setF, TS.enter]; split <;> rfl
  · rw [upd_ne (by grind), upd_same]
    simp [TS.enter, sL]
  · rw [upd_same]
    congr 2
    refine dmap_congr fun y _ => ?_
    simp only [setF, TS.enter]
    split
    · rename_i e; simp [e]
    · rename_i e; simp [e]
  · refine W.fnd.grow (fun a o ha _ e => ?_) ?_
    · simp only [WA.all, List.mem_cons, List.not_mem_nil, or_false, not_or] at ha
      rw [upd_ne (by grind), upd_ne (by grind), upd_ne (by grind), upd_ne (by grind)]; exact e
    · rw [upd_ne (by grind), upd_ne (by grind), upd_ne (by grind), upd_ne (by grind)]
end
end Mine
end
section
-- F19
set_option maxRecDepth 100000
set_option maxHeartbeats 400000
set_option autoImplicit false
set_option linter.unusedVariables false
set_option linter.unusedSimpArgs false
namespace Mine
open PySem PySem.W PySem.Calls PyProof.Rows
section
variable {w : World} {h₀ : Heap} {n : Nat} {f : Fs} {ρ : Loc} {mem : Mem} {Q : Value → Mem → Prop} {X : List Addr} {V : List Str} {adj : Str → List Str} {A : WA} {st : TS}
theorem WAt.all_live (W : WAt mem X V adj A st) {a : Addr} (h : a ∈ A.all) : ∃ o, mem a = some o := by
  obtain ⟨gs, h1, _⟩ := W.fnd
  obtain ⟨kvs, h2, _⟩ := W.uses
  simp only [WA.all, List.mem_cons, List.not_mem_nil, or_false] at h
  rcases h with rfl | rfl | rfl | rfl | rfl | rfl | rfl
  · exact ⟨_, W.obj⟩
  · exact ⟨_, h2⟩
  · exact ⟨_, W.nums⟩
  · exact ⟨_, W.lows⟩
  · exact ⟨_, W.opn⟩
  · exact ⟨_, W.iso⟩
  · exact ⟨_, h1⟩
theorem WAt.none {m' : Mem} {X' : List Addr} {st' : TS} (W' : WAt m' X' V adj A st') {B : List Addr} (hB : ∀ a ∈ B, a ∈ A.all ∨ a ∈ X') (g : GrowL B mem m') {a : Addr} (h : m' a = none) : mem a = none := by
  cases e : mem a with
  | none => rfl
  | some o =>
    by_cases hb : a ∈ B
    · rcases hB a hb with q | q
      · obtain ⟨o', e'⟩ := W'.all_live q; rw [h] at e'; cases e'
      · obtain ⟨o', e'⟩ := W'.live a q; rw [h] at e'; cases e'
    · rw [g _ _ hb e] at h; cases h
theorem WAt.drop {a : Addr} (W : WAt mem (a :: X) V adj A st) : WAt mem X V adj A st := by
  refine ⟨W.nodup, fun b hb q => W.out b hb (List.mem_cons_of_mem _ q), fun b hb => W.live b (List.mem_cons_of_mem _ hb), W.obj, W.nums, W.lows, W.opn, W.iso, ?_, ?_⟩
  · obtain ⟨gs, h1, h2, h3⟩ := W.fnd
    exact ⟨gs, h1, h2, fun i b xs q1 q2 => let ⟨z1, z2, z3⟩ := h3 i b xs q1 q2; ⟨z1, z2, fun q => z3 (List.mem_cons_of_mem _ q)⟩⟩
  · obtain ⟨kvs, e, h⟩ := W.uses
    exact ⟨kvs, e, fun x hx => let ⟨l, q1, q2, q3, q4⟩ := h x hx; ⟨l, q1, q2, q3, fun q => q4 (List.mem_cons_of_mem _ q)⟩⟩
noncomputable def TS.mark (st : TS) (x y : Str) : TS := { st with low := if y ∈ st.op then setF st.low x (min (st.low x) (st.num y)) else st.low }
noncomputable def TS.pop (st : TS) (rest : List Str) : TS := { st with op := rest }
theorem WAt.lower {x : Str} {v : Int} (W : WAt mem X V adj A st) (hx : x ∈ st.seen) : WAt (upd mem A.ld (.dict (Mine.put (dmap st.seen fun x => .int (st.low x) 0) x (.int v 0)))) X V adj A { st with low := setF st.low x v } ∧ GrowL A.muts mem (upd mem A.ld (.dict (Mine.put (dmap st.seen fun x => .int (st.low x) 0) x (.int v 0)))) := by
  have hn := W.nodup
  simp only [WA.all, List.nodup_cons, List.mem_cons, List.not_mem_nil, or_false, not_or] at hn
  have g : GrowL A.muts mem (upd mem A.ld (.dict (Mine.put (dmap st.seen fun x => .int (st.low x) 0) x (.int v 0)))) := GrowL.upd (by simp [WA.muts])
  refine ⟨W.put g ?_ ?_ ?_ ?_ ?_, g⟩
  · rw [upd_ne (by grind)]; exact W.nums
  · rw [upd_same, dmap_set hx]
    congr 2
    exact dmap_congr fun y _ => by simp only [setF]; split <;> rfl
  · rw [upd_ne (by grind)]; exact W.opn
  · rw [upd_ne (by grind)]; exact W.iso
  · refine W.fnd.grow (fun a o ha _ e => ?_) ?_
    · simp only [WA.all, List.mem_cons, List.not_mem_nil, or_false, not_or] at ha
      rw [upd_ne (by grind)]; exact e
    · rw [upd_ne (by grind)]
theorem look_ok {x y : Str} {sk : Addr} {bs : List Addr} (W : WAt mem X V adj A st) (hx : x ∈ st.seen) (hsk : sk ∈ X) (hb : mem sk = some (.list (refs bs))) (hbl : bs.length ≤ 1000) (hl : st.seen.length ≤ 1000) (ho : st.op.length ≤ 1000)
    (hnew : y ∉ st.seen → ∀ fa m', mem fa = none → WAt m' (fa :: X) V adj A (st.enter y) → m' sk = some (.list (refs (bs ++ [fa]))) → m' fa = some (.list [.str y 0, .int 0 0]) → GrowL (sk :: A.muts) mem m' → Q .none m')
    (hold : y ∈ st.seen → ∀ m', WAt m' X V adj A (st.mark x y) → GrowL A.muts mem m' → Q .none m') : CodeCal (cx w h₀) (n + 2) 360 [.ref A.wa, .str x 0, .str y 0, .ref sk] mem Q := by
  refine code_fn ["self", "name", "other", "stack"] lk_Walker_look cd_Walker_look rfl (vals4 fun _ _ _ _ => by kernel_rfl) (by kernel_rfl) (by kernel_rfl) ?_
  generalize hf : (⟨(methDef 14 4).2.2, true⟩ : Fs) = f
  have nl0 : isL f "self" := by rw [← hf]; kernel_rfl
  have nl1 : isL f "name" := by rw [← hf]; kernel_rfl
  have nl2 : isL f "other" := by rw [← hf]; kernel_rfl
  have nl3 : isL f "stack" := by rw [← hf]; kernel_rfl
  have nl4 : isG f "min" := by rw [← hf]; kernel_rfl
  clear hf
  (walk_at "GO")
  refine geta_inst ok_Walker W.obj rfl (fun i q => by cases q) na_Walker_numbers ?_
  refine cmp_notInD W.nums ?_
  (walk_at "GO")
  by_cases hy : y ∈ st.seen
  · rw [dmap_in hy, Option.isSome_some, Bool.not_true]
    (walk_at "GO")
    refine geta_inst ok_Walker W.obj rfl (fun i q => by cases q) na_Walker_is_open ?_
    (walk_at "GO")
    refine sub_dict W.iso (dmap_in hy) ?_
    (walk_at "GO")
    by_cases hyo : y ∈ st.op
    · rw [decide_eq_true hyo]
      (walk_at "GO")
      refine ev_call (ev_builtin gn_min bb_min (by assumption) ⟨callee_builtin, ?_⟩ (by decide) (by decide)) rfl
      (walk_at "GO")
      refine geta_inst ok_Walker W.obj rfl (fun i q => by cases q) na_Walker_lows ?_
      (walk_at "GO")
      refine sub_dict W.lows (dmap_in hx) ?_
      (walk_at "GO")
      refine geta_inst ok_Walker W.obj rfl (fun i q => by cases q) na_Walker_numbers ?_
      (walk_at "GO")
      refine sub_dict W.nums (dmap_in hy) ?_
      (walk_at "GO")
      refine cal_min ?_
      (walk_at "GO")
      refine geta_inst ok_Walker W.obj rfl (fun i q => by cases q) na_Walker_lows ?_
      (walk_at "GO")
      refine seti_dict W.lows (by rw [dmap_len]; omega) ?_
      have z := W.lower (v := min (st.low x) (st.num y)) hx
      refine sts_nil (sts_nil (sts_nil (hold hy _ ?_ z.2)))
      simp only [TS.mark, if_pos hyo]
      exact z.1
    · rw [decide_eq_false hyo]
      (walk_at "GO")
      refine sts_nil (sts_nil (sts_nil (hold hy _ ?_ (GrowL.refl _ _))))
      simp only [TS.mark, if_neg hyo]
      exact W
  · rw [dmap_out hy, Option.isSome_none, Bool.not_false]
    (walk_at "GO")
    refine ev_meth (ev_local rfl (by assumption) ⟨_, meth_own ok_Walker W.obj fi_Walker_enter ty_Walker_enter (by rfl), rfl, callee_K ke_Walker_enter, evs_cons (ev_local rfl (by assumption) (evs_nil ?_)) rfl⟩) rfl rfl rfl (by decide)
    refine (enter_ok (n := n) W hy hl ho fun m1 W1 g1 => ?_).cal
    have hskm : sk ∉ A.muts := fun q => W.out _ (WA.mutsIn q) hsk
    have hb1 := g1 _ _ hskm hb
    (walk_at "GO")
    refine ev_meth (ev_local rfl (by assumption) ⟨_, meth_append hb1, rfl, callee_builtin, evs_cons (ev_list ?_) rfl⟩) rfl rfl rfl (by decide)
    (walk_at "GO")
    refine ⟨by simp, fun fa hfa => ?_⟩
    (walk_at "GO")
    have hne : fa ≠ sk := by rintro rfl; rw [hb1] at hfa; cases hfa
    have hb2 : upd m1 fa (.list [.str y 0, .int 0 0]) sk = some (.list (refs bs)) := by rw [upd_ne (Ne.symm hne)]; exact hb1
    refine cal_append hb2 (by simp [refs]; omega) ?_
    have W2 := W1.add (o := .list [.str y 0, .int 0 0]) hfa
    have g3 : GrowL (fa :: X) (upd m1 fa (.list [.str y 0, .int 0 0])) (upd (upd m1 fa (.list [.str y 0, .int 0 0])) sk (.list (refs bs ++ [.ref fa]))) := GrowL.upd (by simp [hsk])
    refine sts_nil (sts_nil (hnew hy fa _ (W1.none (fun a q => .inl (WA.mutsIn q)) g1 hfa) (W2.keep g3 fun a ha => ?_) (by rw [upd_same]; simp [refs]) (by rw [upd_ne hne, upd_same]) ?_))
    · by_cases q : a = sk
      · exact ⟨_, by rw [q]; exact upd_same⟩
      · rw [upd_ne q]; exact W2.live a ha
    · exact ((g1.more fun a q => List.mem_cons_of_mem _ q).trans (Grow.upd hfa).l).trans (GrowL.upd (by simp))
end
end Mine
end
section
-- F20
set_option maxRecDepth 100000
set_option maxHeartbeats 400000
set_option autoImplicit false
set_option linter.unusedVariables false
set_option linter.unusedSimpArgs false
namespace Mine
open PySem PySem.W PySem.Calls PyProof.Rows
section
variable {w : World} {h₀ : Heap} {n : Nat} {f : Fs} {ρ : Loc} {mem : Mem} {Q : Value → Mem → Prop} {X : List Addr} {V : List Str} {adj : Str → List Str} {A : WA} {st : TS}
/-- one open name is closed -/
theorem WAt.shut {y : Str} {rest : List Str} (W : WAt mem X V adj A st) (ho : st.op = y :: rest) (hs : y ∈ st.seen) (hn' : y ∉ rest) :
    WAt (upd (upd mem A.ol (.list (sL rest.reverse))) A.io (.dict (Mine.put (dmap st.seen fun x => .bool (decide (x ∈ st.op))) y (.bool false)))) X V adj A (st.pop rest) ∧ GrowL A.muts mem (upd (upd mem A.ol (.list (sL rest.reverse))) A.io (.dict (Mine.put (dmap st.seen fun x => .bool (decide (x ∈ st.op))) y (.bool false)))) := by
  have hn := W.nodup
  simp only [WA.all, List.nodup_cons, List.mem_cons, List.not_mem_nil, or_false, not_or] at hn
  have g : GrowL A.muts mem (upd (upd mem A.ol (.list (sL rest.reverse))) A.io (.dict (Mine.put (dmap st.seen fun x => .bool (decide (x ∈ st.op))) y (.bool false)))) := (GrowL.upd (by simp [WA.muts])).trans (GrowL.upd (by simp [WA.muts]))
  refine ⟨W.put g ?_ ?_ ?_ ?_ ?_, g⟩
  · rw [upd_ne (by grind), upd_ne (by grind)]; exact W.nums
  · rw [upd_ne (by grind), upd_ne (by grind)]; exact W.lows
  · rw [upd_ne (by grind), upd_same]; rfl
  · rw [upd_same, dmap_set hs]
    congr 2
    refine dmap_congr fun z _ => ?_
    simp only [setF, TS.pop]
    split
    · rename_i e; subst e; exact congrArg Value.bool (decide_eq_false hn').symm
    · rename_i e; exact congrArg Value.bool (decide_eq_decide.mpr (by rw [ho]; simp [e]))
  · refine W.fnd.grow (fun a o ha _ e => ?_) ?_
    · simp only [WA.all, List.mem_cons, List.not_mem_nil, or_false, not_or] at ha
      rw [upd_ne (by grind), upd_ne (by grind)]; exact e
    · rw [upd_ne (by grind), upd_ne (by grind)]
/-- a group is kept -/
theorem WAt.group {ga : Addr} {xs : List Str} (W : WAt mem (ga :: X) V adj A st) (hX : ga ∉ X) (hg : mem ga = some (.list (sL xs))) {vs : List Value} (hgf : mem A.gf = some (.list vs)) :
    WAt (upd mem A.gf (.list (vs ++ [.ref ga]))) X V adj A { st with found := st.found ++ [xs] } ∧ GrowL A.muts mem (upd mem A.gf (.list (vs ++ [.ref ga]))) := by
  have hn := W.nodup
  simp only [WA.all, List.nodup_cons, List.mem_cons, List.not_mem_nil, or_false, not_or] at hn
  have g : GrowL A.muts mem (upd mem A.gf (.list (vs ++ [.ref ga]))) := GrowL.upd (by simp [WA.muts])
  refine ⟨W.drop.put g ?_ ?_ ?_ ?_ ?_, g⟩
  · rw [upd_ne (by grind)]; exact W.nums
  · rw [upd_ne (by grind)]; exact W.lows
  · rw [upd_ne (by grind)]; exact W.opn
  · rw [upd_ne (by grind)]; exact W.iso
  · obtain ⟨gs, h1, h2, h3⟩ := W.fnd
    rw [hgf] at h1; cases h1
    have hga : ga ∉ A.all := fun q => W.out _ q (by simp)
    have hgf' : A.gf ∈ A.all := by simp [WA.all]
    refine ⟨gs ++ [ga], by rw [upd_same]; simp [refs], by simp [h2], fun i b zs q1 q2 => ?_⟩
    by_cases hi : i < gs.length
    · rw [List.getElem?_append_left hi] at q1
      rw [List.getElem?_append_left (by omega)] at q2
      obtain ⟨z1, z2, z3⟩ := h3 i b zs q1 q2
      exact ⟨by rw [upd_ne (by rintro rfl; exact z2 hgf')]; exact z1, z2, fun q => z3 (List.mem_cons_of_mem _ q)⟩
    · have hi' : i = gs.length := by
        have := (List.getElem?_eq_some_iff.mp q1).1
        simp at this; omega
      subst hi'
      simp at q1
      rw [h2] at q2
      simp at q2
      subst q1; subst q2
      exact ⟨by rw [upd_ne (by rintro rfl; exact hga hgf')]; exact hg, hga, hX⟩
theorem leave_ok {x : Str} {g rest : List Str} (W : WAt mem X V adj A st) (hx : x ∈ st.seen) (hop : st.op = g ++ x :: rest) (hnd : st.op.Nodup) (hsub : ∀ y ∈ st.op, y ∈ st.seen) (hl : st.seen.length ≤ 1000) (hfl : st.found.length ≤ 1000)
    (h1 : st.low x ≠ st.num x → Q .none mem)
    (h2 : st.low x = st.num x → ∀ m', WAt m' X V adj A { st with op := rest, found := st.found ++ [g ++ [x]] } → GrowL A.muts mem m' → Q .none m') : CodeCal (cx w h₀) (n + 1) 346 [.ref A.wa, .str x 0] mem Q := by
  refine code_fn ["self", "name"] lk_Walker_leave cd_Walker_leave rfl (vals2 fun _ _ => by kernel_rfl) (by kernel_rfl) (by kernel_rfl) ?_
  generalize hf : (⟨(methDef 14 2).2.2, true⟩ : Fs) = f
  have nl0 : isL f "self" := by rw [← hf]; kernel_rfl
  have nl1 : isL f "name" := by rw [← hf]; kernel_rfl
  have nl2 : isL f "group" := by rw [← hf]; kernel_rfl
  clear hf
  have hol : st.op.length ≤ 1000 := Nat.le_trans (nodup_le hnd hsub) hl
  (walk_at "GO")
  refine geta_inst ok_Walker W.obj rfl (fun i q => by cases q) na_Walker_lows ?_
  (walk_at "GO")
  refine sub_dict W.lows (dmap_in hx) ?_
  (walk_at "GO")
  refine geta_inst ok_Walker W.obj rfl (fun i q => by cases q) na_Walker_numbers ?_
  (walk_at "GO")
  refine sub_dict W.nums (dmap_in hx) ?_
  refine cmp_ne ?_
  (walk_at "GO")
  by_cases hlow : st.low x = st.num x
  rotate_left
  · rw [show (st.low x != st.num x) = true from by simpa using hlow]
    (walk_at "GO")
    exact st_ret0 (h1 hlow)
  rw [show (st.low x != st.num x) = false from by simpa using hlow]
  (walk_at "GO")
  refine sts_nil ?_
  (walk_at "GO")
  refine ev_list (evs_nil ⟨by simp, fun ga hga => ?_⟩)
  have W1 := W.add (o := .list []) hga
  have hgX : ga ∉ X := fun q => by obtain ⟨o, e⟩ := W.live _ q; rw [hga] at e; cases e
  have g1 : GrowL A.muts mem (upd mem ga (.list [])) := (Grow.upd hga).l
  have e1 : upd mem ga (.list []) ga = some (.list (sL [])) := upd_same
  have e1' : ∀ a o, mem a = some o → a ≠ ga := fun a o e q => by rw [q, hga] at e; cases e
  generalize upd mem ga (.list []) = m1 at W1 g1 e1 ⊢
  (walk_at "GO")
  refine St.weaken [("group", .ref ga), ("self", .ref A.wa), ("name", .str x 0)] (by walk_at "WEAK") ?_
  refine st_while (fun k ρ₁ m => ρ₁ = ([("group", .ref ga), ("self", .ref A.wa), ("name", .str x 0)] : Loc) ∧ ∃ ps rem, st.op = ps ++ rem ∧ rem.length = k ∧ WAt m (ga :: X) V adj A (st.pop rem) ∧ GrowL (ga :: A.muts) mem m ∧ m ga = some (.list (sL ps)) ∧ ((x ∉ ps ∧ x ∈ rem) ∨ (ps = g ++ [x] ∧ rem = rest))) st.op.length ⟨rfl, [], st.op, rfl, rfl, ?_, g1.more fun a q => List.mem_cons_of_mem _ q, e1, .inl ⟨by simp, by rw [hop]; simp⟩⟩ ?_
  · exact W1
  rintro k ρ₁ m ⟨rfl, ps, rem, r1, r2, r3, r4, r5, r6⟩
  have hgal : ga ∉ A.all := fun q => r3.out _ q (by simp)
  have hlen : ps.length + rem.length ≤ 1000 := by rw [r1] at hol; simpa using hol
  rcases r6 with ⟨hxp, hxr⟩ | ⟨rfl, rfl⟩
  · refine tst_pure true (fun Q' q => ?_) (iteT ?_)
    · (walk_at "GO")
      refine tru_list (.inl r5) (by simp [sL]; omega) ?_
      (walk_at "GO")
      rcases List.eq_nil_or_concat ps with rfl | ⟨ps', z, rfl⟩
      · refine iteT ?_
        exact q
      · have hz : x ≠ z := fun e => hxp (by simp [e])
        rw [show (!!(sL (ps'.concat z)).isEmpty) = false from by simp [sL]]
        (walk_at "GO")
        refine un_neg ?_
        refine sub_last (vs := sL ps') (v := .str z 0) (.inl (by rw [r5]; simp [sL])) ?_
        (walk_at "GO")
        rw [show (z != x) = true from by simpa using Ne.symm hz]
        (walk_at "GO")
        exact q
    · cases rem with
      | nil => cases hxr
      | cons y rem =>
        have hyo : y ∈ st.op := by rw [r1]; simp
        have hnd' : (ps ++ y :: rem).Nodup := r1 ▸ hnd
        have hyr : y ∉ rem := by
          rw [List.nodup_append] at hnd'
          exact (List.nodup_cons.mp hnd'.2.1).1
        have W2 : WAt (upd m ga (.list (sL (ps ++ [y])))) (ga :: X) V adj A (st.pop (y :: rem)) := r3.keep (GrowL.upd (by simp)) fun a ha => by
          by_cases q : a = ga
          · exact ⟨_, by rw [q]; exact upd_same⟩
          · rw [upd_ne q]; exact r3.live a ha
        have W3 := W2.shut (y := y) (rest := rem) rfl (hsub y hyo) hyr
        have hgol : ga ≠ A.ol := by rintro rfl; exact hgal (by simp [WA.all])
        have hgio : ga ≠ A.io := by rintro rfl; exact hgal (by simp [WA.all])
        have hn := r3.nodup
        simp only [WA.all, List.nodup_cons, List.mem_cons, List.not_mem_nil, or_false, not_or] at hn
        have hgwa : A.wa ≠ ga := by rintro e; exact hgal (by simp [WA.all, ← e])
        have hwol : A.wa ≠ A.ol := by grind
        have hwio : A.wa ≠ A.io := by grind
        have hioo : A.io ≠ A.ol := by grind
        refine sts_cons (st_expr ?_ rfl)
        refine ev_meth (ev_local rfl (by assumption) ⟨_, meth_append r5, rfl, callee_builtin, evs_cons ?_ rfl⟩) rfl rfl rfl (by decide)
        have eo : m A.ol = some (.list (sL rem.reverse ++ [.str y 0])) := by rw [r3.opn]; simp [TS.pop, sL]
        refine ev_meth (ev_attr (ev_local rfl (by assumption) (geta_inst ok_Walker r3.obj rfl (fun i q => by cases q) na_Walker_open ?_)) rfl) rfl rfl rfl (by decide)
        refine ⟨_, meth_pop eo, rfl, callee_builtin, evs_nil ?_⟩
        refine cal_pop eo (by simp [sL]; simp at hlen; omega) ?_
        refine evs_nil ?_
        refine cal_append (vs := sL ps) (by rw [upd_ne hgol]; exact r5) (by simp [sL]; omega) ?_
        rw [show sL ps ++ [Value.str y 0] = sL (ps ++ [y]) from by simp [sL], upd_comm (Ne.symm hgol)]
        refine sts_cons ?_
        (walk_at "GO")
        refine geta_inst ok_Walker (by rw [upd_ne hwol, upd_ne hgwa]; exact r3.obj) rfl (fun i q => by cases q) na_Walker_is_open ?_
        (walk_at "GO")
        refine un_neg ?_
        refine sub_last (vs := sL ps) (v := .str y 0) (.inl (by rw [upd_ne hgol, upd_same]; simp [sL])) ?_
        (walk_at "GO")
        refine seti_dict (kvs := dmap st.seen fun x => .bool (decide (x ∈ (y :: rem)))) (by rw [upd_ne hioo, upd_ne (Ne.symm hgio)]; exact r3.iso) (by rw [dmap_len]; omega) ?_
        refine sts_nil ⟨_, (by walk_at "WEAK"), rem.length, by rw [← r2]; simp, rfl, ps ++ [y], rem, by rw [r1]; simp, rfl, W3.1, ?_, ?_, ?_⟩
        · exact (r4.trans (GrowL.upd (by simp))).trans (W3.2.more fun a q => List.mem_cons_of_mem _ q)
        · exact W3.2 _ _ (fun q => hgal (WA.mutsIn q)) upd_same
        · by_cases hxy : x = y
          · subst hxy
            right
            have hh : g ++ x :: rest = ps ++ x :: rem := by rw [← hop, r1]
            have hxg : x ∉ g := fun q => by
              rw [hop, List.nodup_append] at hnd
              exact hnd.2.2 x q x (by simp) rfl
            have key : ∀ (g ps : List Str) (rest rem : List Str), x ∉ g → x ∉ ps → g ++ x :: rest = ps ++ x :: rem → ps = g ∧ rem = rest := by
              intro g
              induction g with
              | nil =>
                intro ps rest rem _ h2 e
                cases ps with
                | nil => simp at e; exact ⟨rfl, e.symm⟩
                | cons p r => simp at e; exact absurd (by simp [e.1]) h2
              | cons a r ih =>
                intro ps rest rem h1 h2 e
                cases ps with
                | nil => simp at e; exact absurd (by simp [e.1]) h1
                | cons p q =>
                  simp at e
                  obtain ⟨z1, z2⟩ := ih q rest rem (fun q => h1 (by simp [q])) (fun q => h2 (by simp [q])) e.2
                  exact ⟨by rw [e.1, z1], z2⟩
            obtain ⟨z1, z2⟩ := key g ps rest rem hxg hxp hh
            exact ⟨by rw [z1], z2⟩
          · left
            refine ⟨by simp [hxp, hxy], ?_⟩
            simpa [hxy] using hxr
  · refine tst_pure false (fun Q' q => ?_) (iteF ?_)
    · (walk_at "GO")
      refine tru_list (.inl r5) (by simp [sL]; simp at hlen; omega) ?_
      (walk_at "GO")
      rw [show (!!(sL (g ++ [x])).isEmpty) = false from by simp [sL]]
      (walk_at "GO")
      refine un_neg ?_
      refine sub_last (vs := sL g) (v := .str x 0) (.inl (by rw [r5]; simp [sL])) ?_
      (walk_at "GO")
      rw [show (x != x) = false from by simp]
      (walk_at "GO")
      exact q
    · obtain ⟨gs, z1, z2, z3⟩ := r3.fnd
      have z2' : gs.length = st.found.length := z2
      have Z := r3.group hgX r5 z1
      refine sts_cons (st_expr ?_ rfl)
      refine ev_meth (ev_attr (ev_local rfl (by assumption) (geta_inst ok_Walker r3.obj rfl (fun i q => by cases q) na_Walker_found ?_)) rfl) rfl rfl rfl (by decide)
      refine ⟨_, meth_append z1, rfl, callee_builtin, evs_cons (ev_local rfl (by assumption) (evs_nil ?_)) rfl⟩
      refine cal_append z1 (by simp [refs, z2']; omega) ?_
      refine sts_nil (h2 hlow _ Z.1 ?_)
      intro a o ha e
      exact Z.2 _ _ ha (r4 _ _ (fun q => (List.mem_cons.mp q).elim (e1' _ _ e) ha) e)
end
end Mine
end
section
-- F21
set_option maxRecDepth 100000
set_option maxHeartbeats 400000
set_option autoImplicit false
set_option linter.unusedVariables false
set_option linter.unusedSimpArgs false
namespace Mine
open PySem PySem.W PySem.Calls PyProof.Rows
inductive Reach (adj : Str → List Str) (a : Str) : Str → Prop
  | refl : Reach adj a a
  | more {b d : Str} (h : Reach adj a b) (e : d ∈ adj b) : Reach adj a d
theorem Reach.trans {adj : Str → List Str} {a b d : Str} (h : Reach adj a b) (k : Reach adj b d) : Reach adj a d := by
  induction k with
  | refl => exact h
  | more _ e ih => exact ih.more e
noncomputable abbrev Frames := List (Str × Nat)
noncomputable def pth (fr : Frames) : List Str := fr.map (·.1)
/-- the edge from u to w has been looked at -/
noncomputable def Done (adj : Str → List Str) (fr : Frames) (u w : Str) : Prop := (u ∉ pth fr ∧ w ∈ adj u) ∨ ∃ i, (u, i) ∈ fr ∧ w ∈ (adj u).take i
structure Inv (V : List Str) (adj : Str → List Str) (st : TS) (fr : Frames) : Prop where
  srt : st.op.Pairwise fun a b => st.num b < st.num a
  opseen : ∀ x ∈ st.op, x ∈ st.seen
  seenV : ∀ x ∈ st.seen, x ∈ V
  seenN : st.seen.Nodup
  numlt : ∀ x ∈ st.seen, st.num x < st.seen.length
  pathop : ∀ p ∈ pth fr, p ∈ st.op
  pathsrt : (pth fr).Pairwise fun a b => st.num b < st.num a
  J1 : ∀ p ∈ pth fr, ∀ u ∈ st.op, st.num p ≤ st.num u → Reach adj p u
  J2 : ∀ u ∈ st.op, ∃ p ∈ pth fr, st.num p ≤ st.num u ∧ Reach adj u p
  J3 : ∀ p ∈ pth fr, st.low p ≤ st.num p ∧ ∃ y ∈ st.op, st.low p = st.num y ∧ Reach adj p y
  J4 : ∀ u ∈ st.op, ∀ w, Done adj fr u w → w ∈ st.seen ∧ (w ∈ st.op → ∀ p ∈ pth fr, st.num p ≤ st.num u → (∀ q ∈ pth fr, st.num q ≤ st.num u → st.num q ≤ st.num p) → st.low p ≤ st.num w)
  J5 : ∀ x ∈ st.seen, x ∉ st.op → (∃ g ∈ st.found, x ∈ g) ∧ ∀ w ∈ adj x, w ∈ st.seen ∧ w ∉ st.op
  J6 : ∀ g ∈ st.found, g.Nodup ∧ g ≠ [] ∧ ∀ x ∈ g, x ∈ st.seen ∧ x ∉ st.op ∧ ∀ y, y ∈ g ↔ Reach adj x y ∧ Reach adj y x
section
variable {V : List Str} {adj : Str → List Str} {st : TS} {fr : Frames}
theorem Inv.start : Inv V adj ⟨[], fun _ => 0, fun _ => 0, [], []⟩ [] := by
  constructor <;> simp [pth]
theorem pairwise_congr {α : Type} {R S : α → α → Prop} : ∀ {l : List α}, (∀ a ∈ l, ∀ b ∈ l, R a b → S a b) → l.Pairwise R → l.Pairwise S
  | [], _, _ => .nil
  | a :: l, h, .cons h1 h2 => .cons (fun b hb => h a (by simp) b (by simp [hb]) (h1 b hb)) (pairwise_congr (fun x hx y hy => h x (by simp [hx]) y (by simp [hy])) h2)
theorem Inv.inj (I : Inv V adj st fr) {a b : Str} (ha : a ∈ pth fr) (hb : b ∈ pth fr) (e : st.num a = st.num b) : a = b := by
  have h := I.pathsrt
  generalize pth fr = l at h ha hb
  induction l with
  | nil => cases ha
  | cons x r ih =>
    obtain ⟨h1, h2⟩ := List.pairwise_cons.mp h
    rcases List.mem_cons.mp ha with e1 | ha'
    · rcases List.mem_cons.mp hb with e2 | hb'
      · rw [e1, e2]
      · have := h1 b hb'; rw [e1] at e; omega
    · rcases List.mem_cons.mp hb with e2 | hb'
      · have := h1 a ha'; rw [e2] at e; omega
      · exact ih h2 ha' hb' 
theorem Inv.enter (I : Inv V adj st fr) {y : Str} (hy : y ∉ st.seen) (hyV : y ∈ V) (fr1 : Frames) (hP : pth fr1 = pth fr) (hD : ∀ v w, Done adj fr1 v w → Done adj fr v w ∨ w = y) (hR : ∀ p ∈ pth fr, Reach adj p y) : Inv V adj (st.enter y) ((y, 0) :: fr1) := by
  have hne : ∀ x ∈ st.seen, x ≠ y := fun x hx e => hy (e ▸ hx)
  have hnum : ∀ x ∈ st.seen, (st.enter y).num x = st.num x := fun x hx => by simp [TS.enter, setF, hne x hx]
  have hlow : ∀ x ∈ st.seen, (st.enter y).low x = st.low x := fun x hx => by simp [TS.enter, setF, hne x hx]
  have hny : (st.enter y).num y = st.seen.length := by simp [TS.enter, setF]
  have hly : (st.enter y).low y = st.seen.length := by simp [TS.enter, setF]
  have hops := I.opseen
  have hpo := I.pathop
  have hps : ∀ p ∈ pth fr, p ∈ st.seen := fun p hp => hops p (hpo p hp)
  have hlt := I.numlt
  have eop : (st.enter y).op = y :: st.op := rfl
  have eseen : (st.enter y).seen = st.seen ++ [y] := rfl
  have efound : (st.enter y).found = st.found := rfl
  have epth : pth ((y, 0) :: fr1) = y :: pth fr := by rw [← hP]; rfl
  have hyop : y ∉ st.op := fun q => hy (hops y q)
  have hyp : y ∉ pth fr := fun q => hy (hps y q)
  refine ⟨?_, ?_, ?_, ?_, ?_, ?_, ?_, ?_, ?_, ?_, ?_, ?_, ?_⟩
  · rw [eop]
    refine List.pairwise_cons.mpr ⟨fun b hb => by rw [hny, hnum b (hops b hb)]; exact hlt b (hops b hb), pairwise_congr (fun a ha b hb h => ?_) I.srt⟩
    rw [hnum a (hops a ha), hnum b (hops b hb)]; exact h
  · rw [eop, eseen]; intro x hx; rcases List.mem_cons.mp hx with rfl | hx
    · simp
    · simp [hops x hx]
  · rw [eseen]; intro x hx; rcases List.mem_append.mp hx with hx | hx
    · exact I.seenV x hx
    · rcases List.mem_singleton.mp hx with rfl; exact hyV
  · rw [eseen, List.nodup_append]
    exact ⟨I.seenN, by simp, fun a ha b hb => by rcases List.mem_singleton.mp hb with rfl; exact hne a ha⟩
  · rw [eseen]; intro x hx
    rcases List.mem_append.mp hx with hx | hx
    · rw [hnum x hx]; have := hlt x hx; simp; omega
    · rcases List.mem_singleton.mp hx with rfl; rw [hny]; simp; omega
  · rw [epth, eop]; intro p hp; rcases List.mem_cons.mp hp with rfl | hp
    · simp
    · simp [hpo p hp]
  · rw [epth]
    refine List.pairwise_cons.mpr ⟨fun b hb => by rw [hny, hnum b (hps b hb)]; exact hlt b (hps b hb), pairwise_congr (fun a ha b hb h => ?_) I.pathsrt⟩
    rw [hnum a (hps a ha), hnum b (hps b hb)]; exact h
  · rw [epth, eop]; intro p hp v hv h
    rcases List.mem_cons.mp hp with e1 | hp <;> rcases List.mem_cons.mp hv with e2 | hv
    · rw [e1, e2]; exact .refl
    · rw [e1, hny, hnum v (hops v hv)] at h; have := hlt v (hops v hv); omega
    · rw [e2]; exact hR p hp
    · rw [hnum p (hps p hp), hnum v (hops v hv)] at h; exact I.J1 p hp v hv h
  · rw [epth, eop]; intro v hv
    rcases List.mem_cons.mp hv with rfl | hv
    · exact ⟨v, by simp, Int.le_refl _, .refl⟩
    · obtain ⟨p, hp, h1, h2⟩ := I.J2 v hv
      exact ⟨p, by simp [hp], by rw [hnum p (hps p hp), hnum v (hops v hv)]; exact h1, h2⟩
  · rw [epth, eop]; intro p hp
    rcases List.mem_cons.mp hp with rfl | hp
    · exact ⟨by rw [hny, hly]; exact Int.le_refl _, p, by simp, by rw [hny, hly], .refl⟩
    · obtain ⟨h1, z, hz, h2, h3⟩ := I.J3 p hp
      rw [hlow p (hps p hp), hnum p (hps p hp)]
      exact ⟨h1, z, by simp [hz], by rw [hnum z (hops z hz)]; exact h2, h3⟩
  · rw [epth, eop, eseen]; intro v hv w hd
    have hd' : v ≠ y → Done adj fr1 v w := fun hvy => by
      rcases hd with ⟨h1, h2⟩ | ⟨i, h1, h2⟩
      · exact .inl ⟨fun q => h1 (by simp only [pth, List.map_cons] at q ⊢; exact List.mem_cons_of_mem _ q), h2⟩
      · rcases List.mem_cons.mp h1 with e | h1
        · cases e; exact absurd rfl hvy
        · exact .inr ⟨i, h1, h2⟩
    rcases List.mem_cons.mp hv with rfl | hv
    · rcases hd with ⟨h1, h2⟩ | ⟨i, h1, h2⟩
      · exact absurd (by simp [pth]) h1
      · rcases List.mem_cons.mp h1 with e | h1
        · cases e; simp at h2
        · exact absurd (by rw [← hP]; exact List.mem_map_of_mem h1) hyp
    · have hvs := hops v hv
      have hvy := hne v hvs
      rcases hD v w (hd' hvy) with hd'' | rfl
      · obtain ⟨h1, h2⟩ := I.J4 v hv w hd''
        refine ⟨by simp [h1], fun hw p hp hpv hq => ?_⟩
        rcases List.mem_cons.mp hw with rfl | hw
        · exact absurd h1 hy
        rcases List.mem_cons.mp hp with rfl | hp
        · rw [hny, hnum v hvs] at hpv; have := hlt v hvs; omega
        · rw [hnum p (hps p hp), hnum v hvs] at hpv
          rw [hlow p (hps p hp), hnum w h1]
          refine h2 hw p hp hpv fun q hq' hqv => ?_
          have := hq q (by simp [hq']) (by rw [hnum q (hps q hq'), hnum v hvs]; exact hqv)
          rwa [hnum q (hps q hq'), hnum p (hps p hp)] at this
      · refine ⟨by simp, fun _ p hp hpv hq => ?_⟩
        rcases List.mem_cons.mp hp with rfl | hp
        · rw [hny, hly]; exact Int.le_refl _
        · rw [hny, hlow p (hps p hp)]
          have h1 := (I.J3 p hp).1
          have h2 := hlt p (hps p hp)
          omega
  · rw [eop, eseen, efound]; intro x hx hxo
    rcases List.mem_append.mp hx with hx | hx
    · obtain ⟨h1, h2⟩ := I.J5 x hx (fun q => hxo (by simp [q]))
      exact ⟨h1, fun w hw => ⟨by simp [(h2 w hw).1], fun q => (List.mem_cons.mp q).elim (hne w (h2 w hw).1) (h2 w hw).2⟩⟩
    · rcases List.mem_singleton.mp hx with rfl; exact absurd (by simp) hxo
  · rw [efound, eseen, eop]; intro g hg
    obtain ⟨h1, h2, h3⟩ := I.J6 g hg
    exact ⟨h1, h2, fun x hx => ⟨by simp [(h3 x hx).1], fun q => (List.mem_cons.mp q).elim (hne x (h3 x hx).1) (h3 x hx).2.1, (h3 x hx).2.2⟩⟩
theorem Inv.first (I : Inv V adj st []) {y : Str} (hy : y ∉ st.seen) (hyV : y ∈ V) : Inv V adj (st.enter y) [(y, 0)] :=
  I.enter hy hyV [] rfl (fun v w h => .inl h) (fun p hp => by cases hp)
theorem take_succ_mem {l : List Str} {i : Nat} {y : Str} (h : l[i]? = some y) {w : Str} : w ∈ l.take (i + 1) ↔ w ∈ l.take i ∨ w = y := by
  rw [List.take_add_one, h]; simp
theorem Inv.child {u y : Str} {i : Nat} (I : Inv V adj st ((u, i) :: fr)) (hy : y ∉ st.seen) (hyV : y ∈ V) (he : (adj u)[i]? = some y) : Inv V adj (st.enter y) ((y, 0) :: (u, i + 1) :: fr) := by
  refine I.enter hy hyV ((u, i + 1) :: fr) rfl (fun v w h => ?_) fun p hp => ?_
  · rcases h with ⟨h1, h2⟩ | ⟨j, h1, h2⟩
    · exact .inl (.inl ⟨h1, h2⟩)
    · rcases List.mem_cons.mp h1 with e | h1
      · cases e
        rcases (take_succ_mem he).mp h2 with h2 | h2
        · exact .inl (.inr ⟨i, by simp, h2⟩)
        · exact .inr h2
      · exact .inl (.inr ⟨j, by simp [h1], h2⟩)
  · have hu : u ∈ st.op := I.pathop u (by simp [pth])
    have : st.num p ≤ st.num u := by
      rcases List.mem_cons.mp hp with rfl | hp
      · exact Int.le_refl _
      · have := (List.pairwise_cons.mp I.pathsrt).1 p hp; simp only at this; omega
    exact (I.J1 p hp u hu this).more (List.mem_of_getElem? he)
end
end Mine
end
section
-- F22
set_option maxRecDepth 100000
set_option maxHeartbeats 400000
set_option autoImplicit false
set_option linter.unusedVariables false
set_option linter.unusedSimpArgs false
namespace Mine
open PySem PySem.W PySem.Calls PyProof.Rows
section
variable {V : List Str} {adj : Str → List Str} {st : TS} {fr : Frames}
theorem Inv.top_max {u : Str} {i : Nat} (I : Inv V adj st ((u, i) :: fr)) {p : Str} (hp : p ∈ pth fr) : st.num p < st.num u := (List.pairwise_cons.mp I.pathsrt).1 p hp
theorem Inv.mark {u y : Str} {i : Nat} (I : Inv V adj st ((u, i) :: fr)) (hy : y ∈ st.seen) (he : (adj u)[i]? = some y) : Inv V adj (st.mark u y) ((u, i + 1) :: fr) := by
  have hle : ∀ p, (st.mark u y).low p ≤ st.low p := fun p => by
    simp only [TS.mark]
    split
    · simp only [setF]; split
      · rename_i e; subst e; omega
      · exact Int.le_refl _
    · exact Int.le_refl _
  have huo : u ∈ st.op := I.pathop u (by simp [pth])
  refine ⟨I.srt, I.opseen, I.seenV, I.seenN, I.numlt, I.pathop, I.pathsrt, I.J1, I.J2, ?_, ?_, I.J5, I.J6⟩
  · intro p hp
    obtain ⟨h1, z, hz, h2, h3⟩ := I.J3 p hp
    by_cases hc : y ∈ st.op ∧ p = u ∧ st.num y < st.low u
    · obtain ⟨c1, rfl, c3⟩ := hc
      have : (st.mark p y).low p = st.num y := by simp only [TS.mark, if_pos c1, setF, if_true]; omega
      rw [this]
      exact ⟨by have : (st.mark p y).num p = st.num p := rfl; rw [this]; omega, y, c1, rfl, Reach.more .refl (List.mem_of_getElem? he)⟩
    · have : (st.mark u y).low p = st.low p := by
        simp only [TS.mark]
        split
        · rename_i c1
          simp only [setF]; split
          · rename_i e; subst e
            have : ¬ st.num y < st.low p := fun q => hc ⟨c1, rfl, q⟩
            omega
          · rfl
        · rfl
      rw [this]
      exact ⟨h1, z, hz, h2, h3⟩
  · intro v hv w hd
    have hd' : Done adj ((u, i) :: fr) v w ∨ (v = u ∧ w = y) := by
      rcases hd with ⟨h1, h2⟩ | ⟨j, h1, h2⟩
      · exact .inl (.inl ⟨h1, h2⟩)
      · rcases List.mem_cons.mp h1 with e | h1
        · cases e
          rcases (take_succ_mem he).mp h2 with h2 | h2
          · exact .inl (.inr ⟨i, by simp, h2⟩)
          · exact .inr ⟨rfl, h2⟩
        · exact .inl (.inr ⟨j, by simp [h1], h2⟩)
    rcases hd' with hd' | ⟨rfl, rfl⟩
    · obtain ⟨h1, h2⟩ := I.J4 v hv w hd'
      exact ⟨h1, fun hw p hp hpv hq => Int.le_trans (hle p) (h2 hw p hp hpv hq)⟩
    · refine ⟨hy, fun hw p hp hpv hq => ?_⟩
      have hvp : v ∈ pth ((v, i) :: fr) := by simp [pth]
      have e1 : st.num v ≤ st.num p := hq v hvp (Int.le_refl _)
      have e2 : st.num p ≤ st.num v := hpv
      have : p = v := I.inj hp hvp (by omega)
      subst this
      have hw' : w ∈ st.op := hw
      simp only [TS.mark, if_pos hw', setF, if_true]
      omega
noncomputable def TS.fold (st : TS) (h u : Str) : TS := { st with low := setF st.low h (min (st.low h) (st.low u)) }
theorem Inv.back {u : Str} {i : Nat} (I : Inv V adj st ((u, i) :: fr)) (hi : (adj u).length ≤ i) (hl : st.low u ≠ st.num u) : ∃ h j fr2, fr = (h, j) :: fr2 ∧ Inv V adj (st.fold h u) fr := by
  have hup : u ∈ pth ((u, i) :: fr) := by simp [pth]
  have huo := I.pathop u hup
  obtain ⟨l1, y0, hy0, l2, l3⟩ := I.J3 u hup
  have hlt : st.num y0 < st.num u := by omega
  obtain ⟨p0, hp0, l4, l5⟩ := I.J2 y0 hy0
  have hp0' : p0 ∈ pth fr := by
    rcases List.mem_cons.mp hp0 with e | q
    · simp only at e; rw [e] at l4; omega
    · exact q
  cases hfr : fr with
  | nil => rw [hfr] at hp0'; cases hp0'
  | cons hj fr2 =>
    obtain ⟨h, j⟩ := hj
    refine ⟨h, j, fr2, rfl, ?_⟩
    rw [← hfr]
    have hhp : h ∈ pth fr := by rw [hfr]; simp [pth]
    have hsub : ∀ p ∈ pth fr, p ∈ pth ((u, i) :: fr) := fun p hp => List.mem_cons_of_mem _ hp
    have hhmax : ∀ p ∈ pth fr, st.num p ≤ st.num h := fun p hp => by
      have hs := (List.pairwise_cons.mp I.pathsrt).2
      change (pth fr).Pairwise _ at hs
      rw [hfr] at hp hs
      rcases List.mem_cons.mp hp with e | q
      · simp only at e; rw [e]; exact Int.le_refl _
      · exact Int.le_of_lt ((List.pairwise_cons.mp hs).1 p q)
    have hhu := I.top_max hhp
    have hle : ∀ p, (st.fold h u).low p ≤ st.low p := fun p => by
      simp only [TS.fold, setF]; split
      · rename_i e; subst e; omega
      · exact Int.le_refl _
    have hlh : (st.fold h u).low h ≤ st.low u := by simp only [TS.fold, setF, if_true]; omega
    refine ⟨I.srt, I.opseen, I.seenV, I.seenN, I.numlt, fun p hp => I.pathop p (hsub p hp), (List.pairwise_cons.mp I.pathsrt).2, fun p hp => I.J1 p (hsub p hp), ?_, ?_, ?_, I.J5, I.J6⟩
    · intro v hv
      obtain ⟨p, hp, q1, q2⟩ := I.J2 v hv
      rcases List.mem_cons.mp hp with e | hp
      · simp only at e; subst e
        exact ⟨p0, hp0', by show st.num p0 ≤ st.num v; omega, (q2.trans l3).trans l5⟩
      · exact ⟨p, hp, q1, q2⟩
    · intro p hp
      obtain ⟨h1, z, hz, h2, h3⟩ := I.J3 p (hsub p hp)
      by_cases hc : p = h ∧ st.low u < st.low h
      · obtain ⟨rfl, c2⟩ := hc
        have : (st.fold p u).low p = st.low u := by simp only [TS.fold, setF, if_true]; omega
        rw [this]
        exact ⟨by show _ ≤ st.num p; omega, y0, hy0, l2, (I.J1 p (hsub p hp) u huo (Int.le_of_lt hhu)).trans l3⟩
      · have : (st.fold h u).low p = st.low p := by
          simp only [TS.fold, setF]; split
          · rename_i e; subst e
            have : ¬ st.low u < st.low p := fun q => hc ⟨rfl, q⟩
            omega
          · rfl
        rw [this]
        exact ⟨h1, z, hz, h2, h3⟩
    · intro v hv w hd
      have hd' : Done adj ((u, i) :: fr) v w := by
        rcases hd with ⟨h1, h2⟩ | ⟨k, h1, h2⟩
        · by_cases hvu : v = u
          · subst hvu; exact .inr ⟨i, by simp, by rw [List.take_of_length_le hi]; exact h2⟩
          · exact .inl ⟨fun q => by rcases List.mem_cons.mp q with e | q; exact hvu e; exact h1 q, h2⟩
        · exact .inr ⟨k, by simp [h1], h2⟩
      obtain ⟨h1, h2⟩ := I.J4 v hv w hd'
      refine ⟨h1, fun hw p hp hpv hq => ?_⟩
      have hpv' : st.num p ≤ st.num v := hpv
      have hw' : w ∈ st.op := hw
      by_cases hc : st.num u ≤ st.num v
      · have e1 : st.num h ≤ st.num p := hq h hhp (by show st.num h ≤ st.num v; omega)
        have : p = h := I.inj (hsub p hp) (hsub h hhp) (by have := hhmax p hp; omega)
        subst this
        refine Int.le_trans hlh (h2 hw' u hup hc fun q hq' _ => ?_)
        rcases List.mem_cons.mp hq' with e | q'
        · simp only at e; rw [e]; exact Int.le_refl _
        · exact Int.le_of_lt (I.top_max q')
      · refine Int.le_trans (hle p) (h2 hw' p (hsub p hp) hpv' fun q hq' hqv => ?_)
        rcases List.mem_cons.mp hq' with e | q'
        · simp only at e; rw [e] at hqv; omega
        · exact hq q q' hqv
theorem Inv.group {u : Str} {i : Nat} {g rest : List Str} (I : Inv V adj st ((u, i) :: fr)) (hi : (adj u).length ≤ i) (hl : st.low u = st.num u) (hop : st.op = g ++ u :: rest) : Inv V adj { st with op := rest, found := st.found ++ [g ++ [u]] } fr := by
  have hup : u ∈ pth ((u, i) :: fr) := by simp [pth]
  have huo := I.pathop u hup
  have hs := I.srt
  rw [hop, List.pairwise_append] at hs
  obtain ⟨s1, s2, s3⟩ := hs
  obtain ⟨s4, s5⟩ := List.pairwise_cons.mp s2
  have hg : ∀ a ∈ g, st.num u < st.num a := fun a ha => s3 a ha u (by simp)
  have hS : ∀ v, v ∈ g ++ [u] ↔ v ∈ st.op ∧ st.num u ≤ st.num v := fun v => by
    rw [hop]
    constructor
    · intro hv
      rcases List.mem_append.mp hv with hv | hv
      · exact ⟨by simp [hv], Int.le_of_lt (hg v hv)⟩
      · rcases List.mem_singleton.mp hv with rfl; exact ⟨by simp, Int.le_refl _⟩
    · rintro ⟨h1, h2⟩
      rcases List.mem_append.mp h1 with h1 | h1
      · simp [h1]
      · rcases List.mem_cons.mp h1 with rfl | h1
        · simp
        · have := s4 v h1; omega
  have hrest : ∀ v, v ∈ rest ↔ v ∈ st.op ∧ st.num v < st.num u := fun v => by
    rw [hop]
    constructor
    · intro hv; exact ⟨by simp [hv], s4 v hv⟩
    · rintro ⟨h1, h2⟩
      rcases List.mem_append.mp h1 with h1 | h1
      · have := hg v h1; omega
      · rcases List.mem_cons.mp h1 with rfl | h1
        · omega
        · exact h1
  have hsub : ∀ p ∈ pth fr, p ∈ pth ((u, i) :: fr) := fun p hp => List.mem_cons_of_mem _ hp
  have hpu : ∀ p ∈ pth ((u, i) :: fr), st.num p ≤ st.num u := fun p hp => by
    rcases List.mem_cons.mp hp with e | hp
    · simp only at e; rw [e]; exact Int.le_refl _
    · exact Int.le_of_lt (I.top_max hp)
  have hmut : ∀ v ∈ g ++ [u], Reach adj u v ∧ Reach adj v u := fun v hv => by
    obtain ⟨h1, h2⟩ := (hS v).mp hv
    refine ⟨I.J1 u hup v h1 h2, ?_⟩
    obtain ⟨p, hp, _, q2⟩ := I.J2 v h1
    exact q2.trans (I.J1 p hp u huo (hpu p hp))
  have hclo : ∀ v ∈ g ++ [u], ∀ w ∈ adj v, w ∈ st.seen ∧ (w ∈ st.op → st.num u ≤ st.num w) := fun v hv w hw => by
    obtain ⟨h1, h2⟩ := (hS v).mp hv
    have hd : Done adj ((u, i) :: fr) v w := by
      by_cases hvu : v = u
      · subst hvu; exact .inr ⟨i, by simp, by rw [List.take_of_length_le hi]; exact hw⟩
      · refine .inl ⟨fun q => ?_, hw⟩
        rcases List.mem_cons.mp q with e | q
        · exact hvu e
        · have := I.top_max q; omega
    obtain ⟨q1, q2⟩ := I.J4 v h1 w hd
    exact ⟨q1, fun hwo => by rw [← hl]; exact q2 hwo u hup h2 fun q hq _ => hpu q hq⟩
  have hJ5 : ∀ x ∈ st.seen, x ∉ rest → (∃ g' ∈ st.found ++ [g ++ [u]], x ∈ g') ∧ ∀ w ∈ adj x, w ∈ st.seen ∧ w ∉ rest := fun x hx hxr => by
    by_cases hxo : x ∈ st.op
    · have hxS : x ∈ g ++ [u] := (hS x).mpr ⟨hxo, by
        have : ¬ st.num x < st.num u := fun q => hxr ((hrest x).mpr ⟨hxo, q⟩)
        omega⟩
      refine ⟨⟨g ++ [u], by simp, hxS⟩, fun w hw => ?_⟩
      obtain ⟨q1, q2⟩ := hclo x hxS w hw
      exact ⟨q1, fun q => by obtain ⟨q3, q4⟩ := (hrest w).mp q; have := q2 q3; omega⟩
    · obtain ⟨⟨g', h1, h2⟩, h3⟩ := I.J5 x hx hxo
      exact ⟨⟨g', by simp [h1], h2⟩, fun w hw => ⟨(h3 w hw).1, fun q => (h3 w hw).2 ((hrest w).mp q).1⟩⟩
  have hclosed : ∀ x, x ∈ st.seen → x ∉ st.op → ∀ z, Reach adj x z → z ∈ st.seen ∧ z ∉ st.op := fun x hx hxo z hz => by
    induction hz with
    | refl => exact ⟨hx, hxo⟩
    | more _ e ih => exact (I.J5 _ ih.1 ih.2).2 _ e
  have hclosed2 : ∀ x, x ∈ st.seen → x ∉ rest → ∀ z, Reach adj x z → z ∈ st.seen ∧ z ∉ rest := fun x hx hxo z hz => by
    induction hz with
    | refl => exact ⟨hx, hxo⟩
    | more _ e ih => exact (hJ5 _ ih.1 ih.2).2 _ e
  refine ⟨s5, fun x hx => I.opseen x ((hrest x).mp hx).1, I.seenV, I.seenN, I.numlt, ?_, (List.pairwise_cons.mp I.pathsrt).2, ?_, ?_, ?_, ?_, hJ5, ?_⟩
  · intro p hp
    exact (hrest p).mpr ⟨I.pathop p (hsub p hp), I.top_max hp⟩
  · intro p hp v hv h
    exact I.J1 p (hsub p hp) v ((hrest v).mp hv).1 h
  · intro v hv
    obtain ⟨h1, h2⟩ := (hrest v).mp hv
    obtain ⟨p, hp, q1, q2⟩ := I.J2 v h1
    rcases List.mem_cons.mp hp with e | hp
    · simp only at e; rw [e] at q1; omega
    · exact ⟨p, hp, q1, q2⟩
  · intro p hp
    obtain ⟨h1, z, hz, h2, h3⟩ := I.J3 p (hsub p hp)
    have := I.top_max hp
    exact ⟨h1, z, (hrest z).mpr ⟨hz, by omega⟩, h2, h3⟩
  · intro v hv w hd
    obtain ⟨h1, h2⟩ := (hrest v).mp hv
    have hvu : v ≠ u := by rintro rfl; omega
    have hd' : Done adj ((u, i) :: fr) v w := by
      rcases hd with ⟨h1, h2⟩ | ⟨k, h1, h2⟩
      · exact .inl ⟨fun q => by rcases List.mem_cons.mp q with e | q; exact hvu e; exact h1 q, h2⟩
      · exact .inr ⟨k, by simp [h1], h2⟩
    obtain ⟨q1, q2⟩ := I.J4 v h1 w hd'
    refine ⟨q1, fun hw p hp hpv hq => q2 ((hrest w).mp hw).1 p (hsub p hp) hpv fun q hq' hqv => ?_⟩
    rcases List.mem_cons.mp hq' with e | q'
    · simp only at e; rw [e] at hqv; omega
    · exact hq q q' hqv
  · intro g' hg'
    rcases List.mem_append.mp hg' with hg' | hg'
    · obtain ⟨h1, h2, h3⟩ := I.J6 g' hg'
      exact ⟨h1, h2, fun x hx => ⟨(h3 x hx).1, fun q => (h3 x hx).2.1 ((hrest x).mp q).1, (h3 x hx).2.2⟩⟩
    · rcases List.mem_singleton.mp hg' with rfl
      refine ⟨?_, by simp, fun x hx => ?_⟩
      · have : (g ++ [u]).Pairwise fun a b => st.num b < st.num a := by
          rw [List.pairwise_append]
          exact ⟨s1, by simp, fun a ha b hb => by rcases List.mem_singleton.mp hb with rfl; exact hg a ha⟩
        exact this.imp fun h e => by rw [e] at h; omega
      · obtain ⟨hxo, hxn⟩ := (hS x).mp hx
        have hxs := I.opseen x hxo
        have hxr : x ∉ rest := fun q => by have := ((hrest x).mp q).2; omega
        refine ⟨hxs, hxr, fun y => ⟨fun hy => ⟨(hmut x hx).2.trans (hmut y hy).1, (hmut y hy).2.trans (hmut x hx).1⟩, fun ⟨r1, r2⟩ => ?_⟩⟩
        obtain ⟨z1, z2⟩ := hclosed2 x hxs hxr y r1
        by_cases hyo : y ∈ st.op
        · refine (hS y).mpr ⟨hyo, ?_⟩
          have : ¬ st.num y < st.num u := fun q => z2 ((hrest y).mpr ⟨hyo, q⟩)
          omega
        · exact absurd hxo (hclosed y z1 hyo x r2).2
theorem Inv.same {st' : TS} (I : Inv V adj st fr) (e1 : st'.seen = st.seen) (e2 : st'.num = st.num) (e3 : st'.low = st.low) (e4 : st'.op = st.op) (e5 : st'.found = st.found) : Inv V adj st' fr := by
  have : st' = st := by cases st; cases st'; simp at e1 e2 e3 e4 e5; simp [e1, e2, e3, e4, e5]
  rw [this]; exact I
theorem Inv.nil_op (I : Inv V adj st []) : st.op = [] := by
  cases h : st.op with
  | nil => rfl
  | cons a r =>
    obtain ⟨p, hp, _⟩ := I.J2 a (by rw [h]; simp)
    cases hp
/-- what is left to do -/
noncomputable def wt (adj : Str → List Str) : List Str → List Str → Nat
  | [], _ => 0
  | v :: r, seen => (if v ∈ seen then 0 else (adj v).length + 2) + wt adj r seen
noncomputable def fw (adj : Str → List Str) : Frames → Nat
  | [] => 0
  | p :: r => ((adj p.1).length - p.2 + 1) + fw adj r
theorem wt_le {y : Str} {seen : List Str} : ∀ V : List Str, wt adj V (seen ++ [y]) ≤ wt adj V seen
  | [] => Nat.le_refl _
  | v :: r => by
    have := wt_le (y := y) (seen := seen) r
    simp only [wt]
    by_cases h : v ∈ seen
    · rw [if_pos h, if_pos (by simp [h])]; omega
    · rw [if_neg h]; split <;> omega
theorem wt_lt {y : Str} {seen : List Str} : ∀ {V : List Str}, y ∈ V → y ∉ seen → wt adj V (seen ++ [y]) + (adj y).length + 2 ≤ wt adj V seen
  | v :: r, h, hn => by
    simp only [wt]
    by_cases e : v = y
    · subst e
      have := wt_le (adj := adj) (y := v) (seen := seen) r
      rw [if_neg hn, if_pos (by simp)]; omega
    · have hr : y ∈ r := (List.mem_cons.mp h).resolve_left fun q => e q.symm
      have := wt_lt hr hn
      by_cases hv : v ∈ seen
      · rw [if_pos hv, if_pos (by simp [hv])]; omega
      · rw [if_neg hv, if_neg (by simp [hv, e])]; omega
end
end Mine
end
section
-- F23
set_option maxRecDepth 100000
set_option maxHeartbeats 400000
set_option autoImplicit false
set_option linter.unusedVariables false
set_option linter.unusedSimpArgs false
namespace Mine
open PySem PySem.W PySem.Calls PyProof.Rows
noncomputable def FrsAt (m : Mem) : List Addr → Frames → Prop
  | [], [] => True
  | a :: as, p :: fr => m a = some (.list [.str p.1 0, .int p.2 0]) ∧ FrsAt m as fr
  | _, _ => False
theorem FrsAt.keep {m m' : Mem} : ∀ {as : List Addr} {fr : Frames}, FrsAt m as fr → (∀ a ∈ as, ∀ o, m a = some o → m' a = some o) → FrsAt m' as fr
  | [], [], _, _ => trivial
  | a :: as, p :: fr, ⟨h1, h2⟩, g => ⟨g a (by simp) _ h1, h2.keep fun b hb => g b (by simp [hb])⟩
  | [], _ :: _, h, _ => h.elim
  | _ :: _, [], h, _ => h.elim
theorem FrsAt.len {m : Mem} : ∀ {as : List Addr} {fr : Frames}, FrsAt m as fr → as.length = fr.length
  | [], [], _ => rfl
  | a :: as, p :: fr, ⟨_, h2⟩ => by simp [h2.len]
  | [], _ :: _, h => h.elim
  | _ :: _, [], h => h.elim
structure Loop (mem : Mem) (X : List Addr) (V : List Str) (adj : Str → List Str) (A : WA) (st : TS) (x : Str) (sk : Addr) (st1 : TS) (fr : Frames) (as : List Addr) (m : Mem) : Prop where
  inv : Inv V adj st1 fr
  wat : WAt m (as ++ sk :: X) V adj A st1
  stk : m sk = some (.list (refs as.reverse))
  nd : (sk :: as).Nodup
  frs : FrsAt m as fr
  grow : GrowL A.muts mem m
  new : ∀ a ∈ as, mem a = none
  cnt : st1.found.length + st1.op.length ≤ st1.seen.length
  sub : ∀ z ∈ st.seen, z ∈ st1.seen
  hx : x ∈ st1.seen
section
variable {w : World} {h₀ : Heap} {n : Nat} {f : Fs} {ρ : Loc} {mem : Mem} {Q : Value → Mem → Prop} {X : List Addr} {V : List Str} {adj : Str → List Str} {A : WA} {st : TS}
theorem Inv.len {fr : Frames} (I : Inv V adj st fr) (hV : V.length ≤ 1000) : st.seen.length ≤ 1000 ∧ st.op.length ≤ 1000 ∧ fr.length ≤ 1000 := by
  have h1 := Nat.le_trans (nodup_le I.seenN I.seenV) hV
  have hnd : st.op.Nodup := I.srt.imp fun h e => by rw [e] at h; omega
  have h2 := nodup_le hnd I.opseen
  have hnd3 : (pth fr).Nodup := I.pathsrt.imp fun h e => by rw [e] at h; omega
  have h3 := nodup_le hnd3 I.pathop
  rw [pth, List.length_map] at h3
  exact ⟨h1, by omega, by omega⟩
theorem walk_ok {x : Str} (W : WAt mem X V adj A st) (I : Inv V adj st []) (hx : x ∉ st.seen) (hxV : x ∈ V) (hV : V.length ≤ 1000) (hadj : ∀ v ∈ V, ∀ y ∈ adj v, y ∈ V) (hlen : ∀ v ∈ V, (adj v).length ≤ 1000) (hc : st.found.length + st.op.length ≤ st.seen.length)
    (h : ∀ m' st', WAt m' X V adj A st' → Inv V adj st' [] → x ∈ st'.seen → (∀ z ∈ st.seen, z ∈ st'.seen) → st'.found.length + st'.op.length ≤ st'.seen.length → GrowL A.muts mem m' → Q .none m') : CodeCal (cx w h₀) (n + 3) 353 [.ref A.wa, .str x 0] mem Q := by
  refine code_fn ["self", "first"] lk_Walker_walk cd_Walker_walk rfl (vals2 fun _ _ => by kernel_rfl) (by kernel_rfl) (by kernel_rfl) ?_
  generalize hf : (⟨(methDef 14 3).2.2, true⟩ : Fs) = f
  have nl0 : isL f "self" := by rw [← hf]; kernel_rfl
  have nl1 : isL f "first" := by rw [← hf]; kernel_rfl
  have nl2 : isL f "stack" := by rw [← hf]; kernel_rfl
  have nl3 : isL f "name" := by rw [← hf]; kernel_rfl
  have nl4 : isL f "at" := by rw [← hf]; kernel_rfl
  have nl5 : isL f "some" := by rw [← hf]; kernel_rfl
  have nl6 : isG f "len" := by rw [← hf]; kernel_rfl
  have nl7 : isG f "min" := by rw [← hf]; kernel_rfl
  clear hf
  have hb := I.len hV
  (walk_at "GO")
  refine ev_meth (ev_local rfl (by assumption) ⟨_, meth_own ok_Walker W.obj fi_Walker_enter ty_Walker_enter (by rfl), rfl, callee_K ke_Walker_enter, evs_cons (ev_local rfl (by assumption) (evs_nil ?_)) rfl⟩) rfl rfl rfl (by decide)
  refine (enter_ok (n := n + 1) W hx hb.1 hb.2.1 fun m1 W1 g1 => ?_).cal
  have I1 := I.first hx hxV
  (walk_at "GO")
  refine ev_list ?_
  refine evs_cons ?_ rfl
  refine ev_list ?_
  (walk_at "GO")
  refine ⟨by simp, fun fa hfa => ?_⟩
  (walk_at "GO")
  refine ⟨by simp, fun sk hsk => ?_⟩
  (walk_at "GO")
  have W2 := W1.add (o := .list [.str x 0, .int 0 0]) hfa
  have W3 := W2.add (o := .list [.ref fa]) hsk
  have hfs : fa ≠ sk := by rintro rfl; rw [upd_same] at hsk; cases hsk
  have hfa0 : mem fa = none := W1.none (fun a q => .inl (WA.mutsIn q)) g1 hfa
  have hsk0 : mem sk = none := W2.none (B := A.muts) (fun a q => .inl (WA.mutsIn q)) (g1.trans (Grow.upd hfa).l) hsk
  have W3' : WAt (upd (upd m1 fa (.list [.str x 0, .int 0 0])) sk (.list [.ref fa])) (fa :: sk :: X) V adj A (st.enter x) := by
    have g := Grow.upd (o := .list [.ref fa]) hsk
    refine ⟨W3.nodup, fun a ha q => W3.out a ha ?_, fun a ha => W3.live a ?_, W3.obj, W3.nums, W3.lows, W3.opn, W3.iso, ?_, ?_⟩
    · simp only [List.mem_cons] at q ⊢; rcases q with q | q | q <;> simp [q]
    · simp only [List.mem_cons] at ha ⊢; rcases ha with q | q | q <;> simp [q]
    · obtain ⟨gs, h1, h2, h3⟩ := W3.fnd
      exact ⟨gs, h1, h2, fun i b xs q1 q2 => let ⟨z1, z2, z3⟩ := h3 i b xs q1 q2; ⟨z1, z2, fun q => z3 (by simp only [List.mem_cons] at q ⊢; rcases q with q | q | q <;> simp [q])⟩⟩
    · obtain ⟨kvs, e, h⟩ := W3.uses
      exact ⟨kvs, e, fun x hx => let ⟨l, q1, q2, q3, q4⟩ := h x hx; ⟨l, q1, q2, q3, fun q => q4 (by simp only [List.mem_cons] at q ⊢; rcases q with q | q | q <;> simp [q])⟩⟩
  have L0 : Loop mem X V adj A st x sk (st.enter x) [(x, 0)] [fa] (upd (upd m1 fa (.list [.str x 0, .int 0 0])) sk (.list [.ref fa])) := by
    refine ⟨I1, W3', upd_same, by simp [Ne.symm hfs], ⟨by rw [upd_ne hfs, upd_same]; rfl, trivial⟩, (g1.trans (Grow.upd hfa).l).trans (Grow.upd hsk).l, ?_, ?_, ?_, ?_⟩
    · intro a ha; rcases List.mem_singleton.mp ha with rfl; exact hfa0
    · simp [TS.enter]; omega
    · intro z hz; simp [TS.enter, hz]
    · simp [TS.enter]
  generalize upd (upd m1 fa (.list [.str x 0, .int 0 0])) sk (.list [.ref fa]) = m3 at L0 ⊢
  refine St.weaken [("stack", .ref sk), ("self", .ref A.wa)] (by walk_at "WEAK") ?_
  refine st_while (fun k ρ₁ m => ρ₁ = ([("stack", .ref sk), ("self", .ref A.wa)] : Loc) ∧ ∃ st1 fr as, Loop mem X V adj A st x sk st1 fr as m ∧ k = wt adj V st1.seen + fw adj fr) _ ⟨rfl, _, _, _, L0, rfl⟩ ?_
  clear L0 W1 W2 W3 W3' g1 hfa hsk m1 m3 hfa0 hfs fa I1
  rintro k ρ₁ m ⟨rfl, st1, fr, as, L, rfl⟩
  have hl1 := L.inv.len hV
  have hsl := L.frs.len
  cases fr with
  | nil =>
    cases as with
    | cons _ _ => cases hsl
    | nil =>
      refine tst_pure false (fun Q' q => ?_) (iteF ?_)
      · (walk_at "GO")
        refine tru_list (.inl L.stk) (by decide) q
      · have hW : WAt m X V adj A st1 := L.wat.drop
        exact sts_nil (h m st1 hW L.inv L.hx L.sub L.cnt L.grow)
  | cons p fr =>
    obtain ⟨u, i⟩ := p
    cases as with
    | nil => cases hsl
    | cons a as =>
      have hup : u ∈ pth ((u, i) :: fr) := by simp [pth]
      have huo := L.inv.pathop u hup
      have hus := L.inv.opseen u huo
      have huV := L.inv.seenV u hus
      have ha : m a = some (.list [.str u 0, .int i 0]) := L.frs.1
      have hstk : m sk = some (.list (refs as.reverse ++ [.ref a])) := by rw [L.stk]; simp [refs]
      obtain ⟨kvs, hud, huses⟩ := L.wat.uses
      obtain ⟨l, hl2, hl3, hl4, hl5⟩ := huses u huV
      have hnd := L.nd
      simp only [List.nodup_cons, List.mem_cons, not_or] at hnd
      refine tst_pure true (fun Q' q => ?_) (iteT ?_)
      · (walk_at "GO")
        refine tru_list (.inl hstk) (by simp [refs] at *; omega) ?_
        rw [show (!(refs as.reverse ++ [Value.ref a]).isEmpty) = true from by simp]
        exact q
      · (walk_at "GO")
        refine un_neg ?_
        refine sub_last (.inl hstk) ?_
        refine as_pairL (.inl ha) ?_ rfl
        (walk_at "GO")
        refine geta_inst ok_Walker L.wat.obj rfl (fun i q => by cases q) na_Walker_uses ?_
        (walk_at "GO")
        refine sub_dict hud hl2 ?_
        (walk_at "GO")
        refine ev_call (ev_builtin gn_len bb_len (by assumption) ⟨callee_builtin, ?_⟩ (by decide) (by decide)) rfl
        (walk_at "GO")
        refine cal_len (.inl hl3) (by have := hlen u huV; simp [sL]; omega) ?_
        (walk_at "GO")
        by_cases hi : i < (adj u).length
        · rw [decide_eq_true (show (i : Int) < ((sL (adj u)).length : Int) by simp [sL]; exact hi)]
          obtain ⟨y, hy⟩ : ∃ y, (adj u)[i]? = some y := ⟨_, List.getElem?_eq_getElem hi⟩
          (walk_at "GO")
          refine un_neg ?_
          refine sub_last (.inl hstk) ?_
          (walk_at "GO")
          refine seti_list ha (by decide) (by decide) (by simp) ?_
          have hsa : a ≠ sk := fun q => hnd.1.1 q.symm
          have aout : a ∉ A.all := fun q => L.wat.out _ q (by simp)
          have skout : sk ∉ A.all := fun q => L.wat.out _ q (by simp)
          have W1 : WAt (upd m a (.list ([Value.str u 0, .int i 0].set (1 : Int).toNat (.int (i + 1) 0)))) (a :: as ++ sk :: X) V adj A st1 := L.wat.keep (GrowL.upd (by simp)) fun b hb => by
            by_cases q : b = a
            · exact ⟨_, by rw [q]; exact upd_same⟩
            · rw [upd_ne q]; exact L.wat.live b hb
          have k1 : upd m a (.list ([Value.str u 0, .int i 0].set (1 : Int).toNat (.int (i + 1) 0))) a = some (.list [.str u 0, .int ((i + 1 : Nat) : Int) 0]) := upd_same
          have k2 : upd m a (.list ([Value.str u 0, .int i 0].set (1 : Int).toNat (.int (i + 1) 0))) sk = some (.list (refs (a :: as).reverse)) := by rw [upd_ne (Ne.symm hsa)]; exact L.stk
          have k3 : ∀ b o, b ≠ a → m b = some o → upd m a (.list ([Value.str u 0, .int i 0].set (1 : Int).toNat (.int (i + 1) 0))) b = some o := fun b o q e => by rw [upd_ne q]; exact e
          have k4 : ∀ b, upd m a (.list ([Value.str u 0, .int i 0].set (1 : Int).toNat (.int (i + 1) 0))) b = none → m b = none := fun b e => by
            rw [upd_ne (by rintro rfl; rw [upd_same] at e; cases e)] at e; exact e
          generalize upd m a (.list ([Value.str u 0, .int i 0].set (1 : Int).toNat (.int (i + 1) 0))) = m1 at W1 k1 k2 k3 k4 ⊢
          have hal : l ≠ a := fun q => hl5 (by simp [q])
          refine sts_cons (st_expr ?_ rfl)
          refine ev_meth (ev_local rfl (by assumption) ⟨_, meth_own ok_Walker W1.obj fi_Walker_look ty_Walker_look (by rfl), rfl, callee_K ke_Walker_look, evs_cons (ev_local rfl (by assumption) (evs_cons (ev_sub (ev_local rfl (by assumption) (ev_local rfl (by assumption) (sub_list (v := .str y 0) (.inl (k3 _ _ hal hl3)) (by omega) (by have := hlen u huV; omega) (by simp [sL, hy]) ?_)))) rfl)) rfl⟩) rfl rfl rfl (by decide)
          refine evs_cons (ev_local rfl (by assumption) (evs_nil ?_)) rfl
          have fr1 : FrsAt m1 as fr := L.frs.2.keep fun b hb o e => k3 b o (by rintro rfl; exact hnd.2.1 hb) e
          have old : ∀ b o, b ∉ A.muts → mem b = some o → m1 b = some o ∧ b ≠ sk := fun b o hb e => ⟨k3 _ _ (by rintro rfl; rw [L.new b (by simp)] at e; cases e) (L.grow _ _ hb e), by rintro rfl; rw [hsk0] at e; cases e⟩
          refine (look_ok (n := n) W1 hus (by simp) k2 (by simp at hsl hl1 ⊢; omega) hl1.1 hl1.2.1 (fun hyn fa m2 hfa W2 q1 q2 g2 => ?_) (fun hys m2 W2 g2 => ?_)).cal
          · have hfam := k4 _ hfa
            have hfa0 : mem fa = none := L.wat.none (fun b q => .inl (WA.mutsIn q)) L.grow hfam
            have hfaa : fa ≠ a := by rintro rfl; rw [k1] at hfa; cases hfa
            have hfask : fa ≠ sk := by rintro rfl; rw [k2] at hfa; cases hfa
            have hfaas : fa ∉ as := fun q => by obtain ⟨o, e⟩ := W1.live fa (by simp [q]); rw [hfa] at e; cases e
            have keep2 : ∀ b ∈ a :: as, ∀ o, m1 b = some o → m2 b = some o := fun b hb o e => g2 b o (by
              simp only [List.mem_cons, not_or]
              refine ⟨?_, fun q => W1.out b (WA.mutsIn q) (by simp only [List.cons_append, List.mem_cons, List.mem_append]; rcases List.mem_cons.mp hb with q | q <;> simp [q])⟩
              rintro rfl
              rcases List.mem_cons.mp hb with q | q
              · exact hsa q.symm
              · exact hnd.1.2 q) e
            refine sts_nil (sts_nil ⟨[("stack", .ref sk), ("self", .ref A.wa)], (by walk_at "WEAK"), _, ?_, rfl, st1.enter y, (y, 0) :: (u, i + 1) :: fr, fa :: a :: as, ⟨L.inv.child hyn (hadj u huV y (List.mem_of_getElem? hy)) hy, W2, ?_, ?_, ?_, ?_, ?_, ?_, ?_, ?_⟩, rfl⟩)
            · have := wt_lt (adj := adj) (hadj u huV y (List.mem_of_getElem? hy)) hyn
              simp only [fw, TS.enter]; omega
            · rw [q1, List.reverse_cons (a := fa)]
            · simp only [List.nodup_cons, List.mem_cons, not_or]
              exact ⟨⟨Ne.symm hfask, Ne.symm hsa, hnd.1.2⟩, ⟨hfaa, hfaas⟩, hnd.2.1, hnd.2.2⟩
            · exact ⟨q2, keep2 a (by simp) _ k1, fr1.keep fun b hb o e => keep2 b (by simp [hb]) o e⟩
            · intro b o hb e
              obtain ⟨z1, z2⟩ := old b o hb e
              exact g2 b o (by simp [hb, z2]) z1
            · intro b hb
              rcases List.mem_cons.mp hb with rfl | hb
              · exact hfa0
              · exact L.new b hb
            · have := L.cnt; simp [TS.enter]; omega
            · intro z hz; simp [TS.enter, L.sub z hz]
            · simp [TS.enter, L.hx]
          · refine sts_nil (sts_nil ⟨[("stack", .ref sk), ("self", .ref A.wa)], (by walk_at "WEAK"), _, ?_, rfl, st1.mark u y, (u, i + 1) :: fr, a :: as, ⟨L.inv.mark hys hy, W2, ?_, L.nd, ?_, ?_, L.new, L.cnt, L.sub, L.hx⟩, rfl⟩)
            · simp only [fw, TS.mark]; omega
            · exact g2 _ _ (fun q => skout (WA.mutsIn q)) k2
            · exact ⟨g2 _ _ (fun q => aout (WA.mutsIn q)) k1, fr1.keep fun b hb o e => g2 b o (fun q => W1.out b (WA.mutsIn q) (by simp [hb])) e⟩
            · intro b o hb e
              exact g2 b o hb (old b o hb e).1
        · rw [decide_eq_false (show ¬ (i : Int) < ((sL (adj u)).length : Int) by simp [sL]; omega)]
          refine iteF ?_
          refine sts_cons (st_expr ?_ rfl)
          refine ev_meth (ev_local rfl (by assumption) ⟨_, meth_pop hstk, rfl, callee_builtin, evs_nil ?_⟩) rfl rfl rfl (by decide)
          refine cal_pop hstk (by simp [refs] at *; omega) ?_
          have hsa : a ≠ sk := fun q => hnd.1.1 q.symm
          have skout : sk ∉ A.all := fun q => L.wat.out _ q (by simp)
          have W1 : WAt (upd m sk (.list (refs as.reverse))) (a :: as ++ sk :: X) V adj A st1 := L.wat.keep (GrowL.upd (by simp)) fun b hb => by
            by_cases q : b = sk
            · exact ⟨_, by rw [q]; exact upd_same⟩
            · rw [upd_ne q]; exact L.wat.live b hb
          have k2 : upd m sk (.list (refs as.reverse)) sk = some (.list (refs as.reverse)) := upd_same
          have k3 : ∀ b o, b ≠ sk → m b = some o → upd m sk (.list (refs as.reverse)) b = some o := fun b o q e => by rw [upd_ne q]; exact e
          generalize upd m sk (.list (refs as.reverse)) = m1 at W1 k2 k3 ⊢
          refine sts_cons (st_expr ?_ rfl)
          refine ev_meth (ev_local rfl (by assumption) ⟨_, meth_own ok_Walker W1.obj fi_Walker_leave ty_Walker_leave (by rfl), rfl, callee_K ke_Walker_leave, evs_cons (ev_local rfl (by assumption) (evs_nil ?_)) rfl⟩) rfl rfl rfl (by decide)
          obtain ⟨g, rest, hop⟩ := List.append_of_mem huo
          have hond : st1.op.Nodup := L.inv.srt.imp fun h e => by rw [e] at h; omega
          refine Cal.mono (Q := fun v m2 => ∃ st2, WAt m2 (a :: as ++ sk :: X) V adj A st2 ∧ GrowL A.muts m1 m2 ∧ st2.seen = st1.seen ∧ st2.found.length + st2.op.length ≤ st2.seen.length ∧ (fr = [] → Inv V adj st2 []) ∧ ∀ h j fr2, fr = (h, j) :: fr2 → Inv V adj (st2.fold h u) fr) ?_ ?_
          · refine (leave_ok (n := n + 1) W1 hus hop hond L.inv.opseen hl1.1 (by have := L.cnt; omega) (fun hlow => ?_) (fun hlow m2 W2 g2 => ?_)).cal
            · obtain ⟨h', j', fr2', e', I'⟩ := L.inv.back (by omega) hlow
              exact ⟨st1, W1, GrowL.refl _ _, rfl, L.cnt, (fun q => by rw [q] at e'; cases e'), (fun h j fr2 q => by rw [q] at e'; cases e'; exact I')⟩
            · have I' := L.inv.group (by omega) hlow hop
              refine ⟨_, W2, g2, rfl, ?_, fun q => by rw [q] at I'; exact I', fun h j fr2 q => ?_⟩
              · have := L.cnt; rw [hop] at this; simp at this ⊢; omega
              · have hh : h ∈ pth fr := by rw [q]; simp [pth]
                have z1 := L.inv.top_max hh
                have z2 := (L.inv.J3 h (List.mem_cons_of_mem _ hh)).1
                refine I'.same rfl rfl ?_ rfl rfl
                funext z
                simp only [TS.fold, setF]
                split
                · rename_i e; subst e; omega
                · rfl
          · rintro v m2 ⟨st2, W2, g2, hseen, hcnt, hI0, hI1⟩
            have W2' : WAt m2 (as ++ sk :: X) V adj A st2 := W2.drop
            have stk2 := g2 _ _ (fun q => skout (WA.mutsIn q)) k2
            have frs2 : FrsAt m2 as fr := L.frs.2.keep fun b hb o e => g2 b o (fun q => W1.out b (WA.mutsIn q) (by simp [hb])) (k3 b o (by rintro rfl; exact hnd.1.2 hb) e)
            have gr2 : GrowL A.muts mem m2 := fun b o hb e => g2 b o hb (k3 b o (by rintro rfl; rw [hsk0] at e; cases e) (L.grow b o hb e))
            refine sts_cons (st_if ?_)
            cases fr with
            | nil =>
              cases as with
              | cons _ _ => exact frs2.elim
              | nil =>
                refine tst_pure false (fun Q' q => ?_) (iteF ?_)
                · (walk_at "GO")
                  exact tru_list (.inl stk2) (by decide) q
                · refine sts_nil (sts_nil (sts_nil ⟨[("stack", .ref sk), ("self", .ref A.wa)], (by walk_at "WEAK"), _, ?_, rfl, st2, [], [], ⟨hI0 rfl, W2', stk2, by simp, trivial, gr2, (fun b hb => by cases hb), hcnt, fun z hz => by rw [hseen]; exact L.sub z hz, by rw [hseen]; exact L.hx⟩, rfl⟩))
                  simp only [fw, hseen]; omega
            | cons p fr2 =>
              obtain ⟨h', j'⟩ := p
              cases as with
              | nil => exact frs2.elim
              | cons b as =>
                have hst : m2 sk = some (.list (refs as.reverse ++ [.ref b])) := by rw [stk2]; simp [refs]
                refine tst_pure true (fun Q' q => ?_) (iteT ?_)
                · (walk_at "GO")
                  refine tru_list (.inl hst) (by simp [refs] at *; omega) ?_
                  rw [show (!(refs as.reverse ++ [Value.ref b]).isEmpty) = true from by simp]
                  exact q
                · have hb2 : m2 b = some (.list [.str h' 0, .int j' 0]) := frs2.1
                  have hh' : h' ∈ pth ((h', j') :: fr2) := by simp [pth]
                  have hhs : h' ∈ st2.seen := by
                    rw [hseen]; exact L.inv.opseen _ (L.inv.pathop _ (List.mem_cons_of_mem _ hh'))
                  have hus2 : u ∈ st2.seen := by rw [hseen]; exact hus
                  (walk_at "GO")
                  refine ev_call (ev_builtin gn_min bb_min (by assumption) ⟨callee_builtin, ?_⟩ (by decide) (by decide)) rfl
                  (walk_at "GO")
                  refine geta_inst ok_Walker W2.obj rfl (fun i q => by cases q) na_Walker_lows ?_
                  (walk_at "GO")
                  refine un_neg ?_
                  refine sub_last (.inl hst) ?_
                  (walk_at "GO")
                  refine sub_list (v := .str h' 0) (.inl hb2) (by decide) (by decide) rfl ?_
                  refine sub_dict W2.lows (dmap_in hhs) ?_
                  (walk_at "GO")
                  refine geta_inst ok_Walker W2.obj rfl (fun i q => by cases q) na_Walker_lows ?_
                  (walk_at "GO")
                  refine sub_dict W2.lows (dmap_in hus2) ?_
                  (walk_at "GO")
                  refine cal_min ?_
                  (walk_at "GO")
                  refine geta_inst ok_Walker W2.obj rfl (fun i q => by cases q) na_Walker_lows ?_
                  (walk_at "GO")
                  refine un_neg ?_
                  refine sub_last (.inl hst) ?_
                  (walk_at "GO")
                  refine sub_list (v := .str h' 0) (.inl hb2) (by decide) (by decide) rfl ?_
                  refine seti_dict W2.lows (by rw [dmap_len, hseen]; omega) ?_
                  have Z := W2'.lower (v := min (st2.low h') (st2.low u)) hhs
                  have out2 : ∀ d ∈ (b :: as), d ∉ A.muts := fun d hd q => W2'.out d (WA.mutsIn q) (by simp only [List.cons_append, List.mem_cons, List.mem_append]; rcases List.mem_cons.mp hd with z | z <;> simp [z])
                  refine sts_nil (sts_nil (sts_nil ⟨[("stack", .ref sk), ("self", .ref A.wa)], (by walk_at "WEAK"), _, ?_, rfl, st2.fold h' u, (h', j') :: fr2, b :: as, ⟨hI1 _ _ _ rfl, Z.1, ?_, ?_, ?_, ?_, ?_, hcnt, fun z hz => by show z ∈ st2.seen; rw [hseen]; exact L.sub z hz, by show x ∈ st2.seen; rw [hseen]; exact L.hx⟩, rfl⟩))
                  · show wt adj V st2.seen + _ < _
                    simp only [fw, hseen]; omega
                  · exact Z.2 _ _ (fun q => skout (WA.mutsIn q)) stk2
                  · have := L.nd
                    simp only [List.nodup_cons, List.mem_cons, not_or] at this ⊢
                    exact ⟨this.1.2, this.2.2⟩
                  · exact frs2.keep fun d hd o e => Z.2 d o (out2 d hd) e
                  · exact gr2.trans Z.2
                  · exact fun d hd => L.new d (List.mem_cons_of_mem _ hd)
end
end Mine
end
section
-- F24
set_option maxRecDepth 100000
set_option maxHeartbeats 400000
set_option autoImplicit false
set_option linter.unusedVariables false
set_option linter.unusedSimpArgs false
namespace Mine
open PySem PySem.W PySem.Calls PyProof.Rows
noncomputable def posN : List Str → Str → Nat
  | [], _ => 0
  | y :: r, x => if x = y then 0 else posN r x + 1
theorem posN_mem : ∀ {xs : List Str} {x : Str}, x ∈ xs → xs[posN xs x]? = some x
  | y :: r, x, h => by
    simp only [posN]
    by_cases e : x = y
    · rw [if_pos e, e]; rfl
    · rw [if_neg e]
      have := posN_mem ((List.mem_cons.mp h).resolve_left e)
      simpa using this
theorem posN_at {xs : List Str} {i : Nat} {x : Str} (hn : xs.Nodup) (h : xs[i]? = some x) : posN xs x = i := by
  have h2 := posN_mem (List.mem_of_getElem? h)
  have hi := (List.getElem?_eq_some_iff.mp h).1
  exact ((List.getElem?_inj hi hn).mp (h.trans h2.symm)).symm
section
variable {w : World} {h₀ : Heap} {n : Nat} {f : Fs} {ρ : Loc} {mem : Mem} {Q : Value → Mem → Prop} {V : List Str} {adj : Str → List Str}
noncomputable def TS.zero : TS := ⟨[], fun _ => 0, fun _ => 0, [], []⟩
theorem init_Walker {a ud : Addr} {kvs : List (Str × Value)} (ha : mem a = some (.inst 363 [])) (hu : mem ud = some (.dict kvs)) (hs : ∀ x ∈ V, ∃ l, kvs.lookup x = some (.ref l) ∧ mem l = some (.list (sL (adj x))))
    (h : ∀ A m', A.ud = ud → A.wa = a → WAt m' [] V adj A .zero → GrowX a mem m' → (∀ b o, mem b = some o → b ≠ a → b ∉ A.muts) → Q .none m') : CodeCal (cx w h₀) (n + 1) 332 [.ref a, .ref ud] mem Q := by
  refine code_fn ["self", "uses"] lk_Walker_init cd_Walker_init rfl (vals2 fun _ _ => by kernel_rfl) (by kernel_rfl) (by kernel_rfl) ?_
  generalize hf : (⟨(methDef 14 0).2.2, true⟩ : Fs) = f
  have nl0 : isL f "self" := by rw [← hf]; kernel_rfl
  have nl1 : isL f "uses" := by rw [← hf]; kernel_rfl
  clear hf
  have hua : ud ≠ a := by rintro rfl; rw [ha] at hu; cases hu
  (walk_at "GO")
  refine seta_inst ok_Walker ha ta_Walker_uses (by simp) ?_
  generalize hm1 : upd mem a (.inst 363 [("uses", .ref ud)]) = m1
  have a1 : m1 a = some (.inst 363 [("uses", .ref ud)]) := by rw [← hm1]; exact upd_same
  have g1 : GrowX a mem m1 := fun b o hb e => by rw [← hm1, upd_ne hb]; exact e
  clear hm1
  (walk_at "GO")
  refine ev_dict fun nd hnd => ?_
  (walk_at "GO")
  have n1 : a ≠ nd := by rintro rfl; rw [a1] at hnd; cases hnd
  refine seta_inst (fs := [("uses", .ref ud)]) ok_Walker (by rw [upd_ne n1]; exact a1) ta_Walker_numbers (by simp) ?_
  generalize hm2 : upd (upd m1 nd (.dict [])) a (.inst 363 [("numbers", .ref nd), ("uses", .ref ud)]) = m2
  have a2 : m2 a = some (.inst 363 [("numbers", .ref nd), ("uses", .ref ud)]) := by rw [← hm2]; exact upd_same
  have d2 : m2 nd = some (.dict []) := by rw [← hm2, upd_ne (Ne.symm n1)]; exact upd_same
  have g2 : GrowX a m1 m2 := fun b o hb e => by rw [← hm2, upd_ne hb]; exact Grow.upd hnd _ _ e
  clear hm2
  (walk_at "GO")
  refine ev_dict fun ld hld => ?_
  (walk_at "GO")
  have n2 : a ≠ ld := by rintro rfl; rw [a2] at hld; cases hld
  refine seta_inst (fs := [("numbers", .ref nd), ("uses", .ref ud)]) ok_Walker (by rw [upd_ne n2]; exact a2) ta_Walker_lows (by simp) ?_
  generalize hm3 : upd (upd m2 ld (.dict [])) a (.inst 363 [("lows", .ref ld), ("numbers", .ref nd), ("uses", .ref ud)]) = m3
  have a3 : m3 a = some (.inst 363 [("lows", .ref ld), ("numbers", .ref nd), ("uses", .ref ud)]) := by rw [← hm3]; exact upd_same
  have d3 : m3 ld = some (.dict []) := by rw [← hm3, upd_ne (Ne.symm n2)]; exact upd_same
  have g3 : GrowX a m2 m3 := fun b o hb e => by rw [← hm3, upd_ne hb]; exact Grow.upd hld _ _ e
  clear hm3
  (walk_at "GO")
  refine ev_list (evs_nil ⟨by simp, fun ol hol => ?_⟩)
  (walk_at "GO")
  have n3 : a ≠ ol := by rintro rfl; rw [a3] at hol; cases hol
  refine seta_inst (fs := [("lows", .ref ld), ("numbers", .ref nd), ("uses", .ref ud)]) ok_Walker (by rw [upd_ne n3]; exact a3) ta_Walker_open (by simp) ?_
  generalize hm4 : upd (upd m3 ol (.list [])) a (.inst 363 [("open", .ref ol), ("lows", .ref ld), ("numbers", .ref nd), ("uses", .ref ud)]) = m4
  have a4 : m4 a = some (.inst 363 [("open", .ref ol), ("lows", .ref ld), ("numbers", .ref nd), ("uses", .ref ud)]) := by rw [← hm4]; exact upd_same
  have d4 : m4 ol = some (.list []) := by rw [← hm4, upd_ne (Ne.symm n3)]; exact upd_same
  have g4 : GrowX a m3 m4 := fun b o hb e => by rw [← hm4, upd_ne hb]; exact Grow.upd hol _ _ e
  clear hm4
  (walk_at "GO")
  refine ev_dict fun io hio => ?_
  (walk_at "GO")
  have n4 : a ≠ io := by rintro rfl; rw [a4] at hio; cases hio
  refine seta_inst (fs := [("open", .ref ol), ("lows", .ref ld), ("numbers", .ref nd), ("uses", .ref ud)]) ok_Walker (by rw [upd_ne n4]; exact a4) ta_Walker_is_open (by simp) ?_
  generalize hm5 : upd (upd m4 io (.dict [])) a (.inst 363 [("is_open", .ref io), ("open", .ref ol), ("lows", .ref ld), ("numbers", .ref nd), ("uses", .ref ud)]) = m5
  have a5 : m5 a = some (.inst 363 [("is_open", .ref io), ("open", .ref ol), ("lows", .ref ld), ("numbers", .ref nd), ("uses", .ref ud)]) := by rw [← hm5]; exact upd_same
  have d5 : m5 io = some (.dict []) := by rw [← hm5, upd_ne (Ne.symm n4)]; exact upd_same
  have g5 : GrowX a m4 m5 := fun b o hb e => by rw [← hm5, upd_ne hb]; exact Grow.upd hio _ _ e
  clear hm5
  (walk_at "GO")
  refine ev_list (evs_nil ⟨by simp, fun gf hgf => ?_⟩)
  (walk_at "GO")
  have n5 : a ≠ gf := by rintro rfl; rw [a5] at hgf; cases hgf
  refine seta_inst (fs := [("is_open", .ref io), ("open", .ref ol), ("lows", .ref ld), ("numbers", .ref nd), ("uses", .ref ud)]) ok_Walker (by rw [upd_ne n5]; exact a5) ta_Walker_found (by simp) ?_
  generalize hm6 : upd (upd m5 gf (.list [])) a (.inst 363 [("found", .ref gf), ("is_open", .ref io), ("open", .ref ol), ("lows", .ref ld), ("numbers", .ref nd), ("uses", .ref ud)]) = m6
  have a6 : m6 a = some (.inst 363 [("found", .ref gf), ("is_open", .ref io), ("open", .ref ol), ("lows", .ref ld), ("numbers", .ref nd), ("uses", .ref ud)]) := by rw [← hm6]; exact upd_same
  have d6 : m6 gf = some (.list []) := by rw [← hm6, upd_ne (Ne.symm n5)]; exact upd_same
  have g6 : GrowX a m5 m6 := fun b o hb e => by rw [← hm6, upd_ne hb]; exact Grow.upd hgf _ _ e
  clear hm6
  -- what lay in one memory lies in the later ones, so what is new there is another address
  have lt : ∀ {m₁ m₂ : Mem} {b d : Addr} {o : AO}, GrowX a m₁ m₂ → m₁ b = some o → b ≠ a → m₂ b = some o := fun g e q => g _ _ q e
  have ne : ∀ {m₁ : Mem} {b d : Addr} {o : AO}, m₁ b = some o → m₁ d = none → b ≠ d := fun e q z => by rw [z, q] at e; cases e
  have old : ∀ b o, mem b = some o → b ≠ a → b ≠ nd ∧ b ≠ ld ∧ b ≠ ol ∧ b ≠ io ∧ b ≠ gf := fun b o e q => by
    have e1 := g1 _ _ q e
    have e2 := g2 _ _ q e1
    have e3 := g3 _ _ q e2
    have e4 := g4 _ _ q e3
    have e5 := g5 _ _ q e4
    exact ⟨ne e1 hnd, ne e2 hld, ne e3 hol, ne e4 hio, ne e5 hgf⟩
  obtain ⟨u1, u2, u3, u4, u5⟩ := old ud _ hu hua
  have x1 := g3 _ _ (Ne.symm n1) d2
  have x2 := g4 _ _ (Ne.symm n1) x1
  have x3 := g5 _ _ (Ne.symm n1) x2
  have x4 := g6 _ _ (Ne.symm n1) x3
  have y2 := g4 _ _ (Ne.symm n2) d3
  have y3 := g5 _ _ (Ne.symm n2) y2
  have y4 := g6 _ _ (Ne.symm n2) y3
  have z3 := g5 _ _ (Ne.symm n3) d4
  have z4 := g6 _ _ (Ne.symm n3) z3
  have v4 := g6 _ _ (Ne.symm n4) d5
  have G : GrowX a mem m6 := ((((g1.trans g2).trans g3).trans g4).trans g5).trans g6
  refine sts_nil (h ⟨a, ud, nd, ld, ol, io, gf⟩ m6 rfl rfl ?_ G fun b o e q => by obtain ⟨w1, w2, w3, w4, w5⟩ := old b o e q; simp [WA.muts, w1, w2, w3, w4, w5])
  refine ⟨?_, by simp, by simp, a6, x4, y4, z4, v4, ⟨[], d6, rfl, fun i g xs q => by cases q⟩, kvs, G _ _ hua hu, fun x hx => ?_⟩
  · simp only [WA.all, List.nodup_cons, List.mem_cons, List.not_mem_nil, or_false, not_or]
    exact ⟨⟨Ne.symm hua, n1, n2, n3, n4, n5⟩, ⟨u1, u2, u3, u4, u5⟩, ⟨ne d2 hld, ne x1 hol, ne x2 hio, ne x3 hgf⟩, ⟨ne d3 hol, ne y2 hio, ne y3 hgf⟩, ⟨ne d4 hio, ne z3 hgf⟩, ne d5 hgf, by simp, by simp⟩
  · obtain ⟨l, q1, q2⟩ := hs x hx
    have hla : l ≠ a := by rintro rfl; rw [ha] at q2; cases q2
    have hlu : l ≠ ud := by rintro rfl; rw [hu] at q2; cases q2
    obtain ⟨w1, w2, w3, w4, w5⟩ := old l _ q2 hla
    exact ⟨l, q1, G _ _ hla q2, by simp [WA.all, hla, hlu, w1, w2, w3, w4, w5], by simp⟩
theorem new_Walker {ud : Addr} {kvs : List (Str × Value)} (hu : mem ud = some (.dict kvs)) (hs : ∀ x ∈ V, ∃ l, kvs.lookup x = some (.ref l) ∧ mem l = some (.list (sL (adj x))))
    (h : ∀ A m', A.ud = ud → WAt m' [] V adj A .zero → Grow mem m' → (∀ a o, mem a = some o → a ∉ A.muts) → Q (.ref A.wa) m') : Cal (cx w h₀) (n + 2) (.ref 363) [.ref ud] mem Q :=
  (code_class ok_Walker fi_Walker_init ty_Walker_init fun a d h1 h2 h3 => init_Walker (V := V) (adj := adj) (kvs := kvs) upd_same (by grind [upd]) (fun x hx => let ⟨l, q1, q2⟩ := hs x hx; ⟨l, q1, by grind [upd]⟩) fun A m' e1 e2 W g gm => by
    subst e2
    exact ⟨rfl, h A m' e1 W (fun b o e => g b o (by rintro rfl; rw [h1] at e; cases e) (by grind [upd])) fun b o e => gm b o (by grind [upd]) (by rintro rfl; rw [h1] at e; cases e)⟩).cal
end
end Mine
end
section
-- F25
set_option maxRecDepth 100000
set_option maxHeartbeats 400000
set_option autoImplicit false
set_option linter.unusedVariables false
set_option linter.unusedSimpArgs false
namespace Mine
open PySem PySem.W PySem.Calls PyProof.Rows
noncomputable def adjOf (xs : List Str) (us : Str → List Str) (x : Str) : List Str := (us x).filter fun y => decide (y ∈ xs)
noncomputable def GroupsL (m : Mem) (r : Addr) (G : List (List Str)) : Prop := ∃ gs : List Addr, m r = some (.list (refs gs)) ∧ gs.length = G.length ∧ ∀ (i : Nat) (g : Addr) (xs : List Str), gs[i]? = some g → G[i]? = some xs → m g = some (.list (sL xs))
noncomputable def Good (xs : List Str) (adj : Str → List Str) (G : List (List Str)) : Prop := (∀ g ∈ G, g.Nodup ∧ g ≠ [] ∧ ∀ x ∈ g, x ∈ xs ∧ ∀ y, y ∈ g ↔ Reach adj x y ∧ Reach adj y x) ∧ ∀ x ∈ xs, ∃ g ∈ G, x ∈ g
theorem Good.perm {xs : List Str} {adj : Str → List Str} {G G' : List (List Str)} (h : Good xs adj G) (hl : G'.length = G.length) (hp : ∀ (j : Nat) (g' g : List Str), G'[j]? = some g' → G[j]? = some g → g'.Perm g) : Good xs adj G' := by
  constructor
  · intro g' hg'
    obtain ⟨j, hj, rfl⟩ := List.getElem_of_mem hg'
    have hp' := hp j G'[j] G[j] (List.getElem?_eq_getElem hj) (List.getElem?_eq_getElem (by omega))
    obtain ⟨h1, h2, h3⟩ := h.1 G[j] (List.getElem_mem _)
    refine ⟨hp'.nodup_iff.mpr h1, fun e => h2 (by rw [e] at hp'; exact hp'.symm.eq_nil), fun x hx => ?_⟩
    obtain ⟨h4, h5⟩ := h3 x (hp'.mem_iff.mp hx)
    exact ⟨h4, fun y => by rw [hp'.mem_iff]; exact h5 y⟩
  · intro x hx
    obtain ⟨g, hg, hxg⟩ := h.2 x hx
    obtain ⟨j, hj, rfl⟩ := List.getElem_of_mem hg
    exact ⟨G'[j], List.getElem_mem _, (hp j G'[j] G[j] (List.getElem?_eq_getElem (by omega)) (List.getElem?_eq_getElem hj)).mem_iff.mpr hxg⟩
theorem good_of {xs : List Str} {adj : Str → List Str} {st : TS} (I : Inv xs adj st []) (hs : ∀ x ∈ xs, x ∈ st.seen) : Good xs adj st.found := by
  have ho := I.nil_op
  refine ⟨fun g hg => ?_, fun x hx => (I.J5 x (hs x hx) (by rw [ho]; simp)).1⟩
  obtain ⟨h1, h2, h3⟩ := I.J6 g hg
  exact ⟨h1, h2, fun x hx => ⟨I.seenV x (h3 x hx).1, (h3 x hx).2.2⟩⟩
/-- a sorted list of the places of a group gives the group again -/
theorem back_perm {xs g : List Str} {ys : List Int} (hg : ∀ x ∈ g, x ∈ xs) (hp : ys.Perm (g.map fun x => (posN xs x : Int))) : (ys.map fun p : Int => (xs[p.toNat]?).getD (Str.ofString "")).Perm g := by
  have h := hp.map fun p : Int => (xs[p.toNat]?).getD (Str.ofString "")
  rw [List.map_map] at h
  have e : g.map ((fun p : Int => (xs[p.toNat]?).getD (Str.ofString "")) ∘ fun x => (posN xs x : Int)) = g := by
    conv => rhs; rw [← List.map_id g]
    refine List.map_congr_left fun x hx => ?_
    simp [posN_mem (hg x hx)]
  rw [e] at h
  exact h
section
variable {w : World} {h₀ : Heap} {n : Nat} {f : Fs} {ρ : Loc} {mem : Mem} {Q : Value → Mem → Prop}
theorem strong_ok {nl ul : Addr} {xs : List Str} {us : Str → List Str} {ukvs : List (Str × Value)} (hn : LstAt mem nl (sL xs)) (hnd : xs.Nodup) (hl : xs.length ≤ 50) (hu : mem ul = some (.dict ukvs))
    (hus : ∀ x ∈ xs, ∃ l, ukvs.lookup x = some (.ref l) ∧ mem l = some (.list (sL (us x))) ∧ (us x).length ≤ 1000)
    (h : ∀ r G m', mem r = none → Grow mem m' → GroupsL m' r G → Good xs (adjOf xs us) G → Q (.ref r) m') : CodeCal (cx w h₀) (n + 5) 372 [.ref nl, .ref ul] mem Q := by
  refine code_fc ["names", "uses"] lk_strong_groups cd_strong_groups rfl (vals2 fun _ _ => by kernel_rfl) (by kernel_rfl) (by kernel_rfl) ?_
  have nl0 : isL (⟨(topDef 15).2.2, true⟩ : Fs) "uses" := by kernel_rfl
  have nl1 : isL (⟨(topDef 15).2.2, true⟩ : Fs) "name" := by kernel_rfl
  have nl2 : isL (⟨(topDef 15).2.2, true⟩ : Fs) "kept" := by kernel_rfl
  have nl3 : isL (⟨(topDef 15).2.2, true⟩ : Fs) "walker" := by kernel_rfl
  have nl4 : isL (⟨(topDef 15).2.2, true⟩ : Fs) "found" := by kernel_rfl
  have nl5 : isL (⟨(topDef 15).2.2, true⟩ : Fs) "group" := by kernel_rfl
  have nl6 : isL (⟨(topDef 15).2.2, true⟩ : Fs) "ranked" := by kernel_rfl
  have nl7 : isG (⟨(topDef 15).2.2, true⟩ : Fs) "len" := by kernel_rfl
  have nl8 : isG (⟨(topDef 15).2.2, true⟩ : Fs) "Walker" := by kernel_rfl
  have nl9 : isG (⟨(topDef 15).2.2, true⟩ : Fs) "sorted" := by kernel_rfl
  have nl10 : isC (⟨(topDef 15).2.2, true⟩ : Fs) "names" := by kernel_rfl
  have nl11 : isC (⟨(topDef 15).2.2, true⟩ : Fs) "places" := by kernel_rfl
  (walk_at "GO")
  refine ev_dict fun pd hpd => ?_
  (walk_at "GO")
  have g0 : Grow mem (upd mem pd (.dict [])) := Grow.upd hpd
  have p0 : upd mem pd (.dict []) pd = some (.dict (dmap (xs.take 0) fun x => .int (posN xs x) 0)) := by rw [upd_same]; rfl
  generalize upd mem pd (.dict []) = m0 at g0 p0 ⊢
  refine St.weaken [("places", .ref pd), ("names", .ref nl), ("uses", .ref ul)] (by walk_at "WEAK") ?_
  refine st_for ?_ (by intro _ _; rfl)
  refine ev_cell rfl (by with_reducible assumption) ⟨_, _, .inl ⟨nl, rfl, hn.grow g0, rfl⟩, fun i ρ₁ m => ρ₁ = ([("places", .ref pd), ("names", .ref nl), ("uses", .ref ul)] : Loc) ∧ i ≤ xs.length ∧ Grow mem m ∧ m pd = some (.dict (dmap (xs.take i) fun x => .int (posN xs x) 0)), ⟨rfl, Nat.zero_le _, g0, p0⟩, ?_, ?_, ?_⟩
  · rintro i ρ₁ m ⟨rfl, hi, y1, y2⟩
    exact hn.grow y1
  · rintro i x ρ₁ m hx' ⟨rfl, hi, y1, y2⟩
    have hi' : i < xs.length := by have := (List.getElem?_eq_some_iff.mp hx').1; simpa [sL] using this
    rw [sL, List.getElem?_map] at hx'
    obtain ⟨z, hz, rfl⟩ := Option.map_eq_some_iff.mp hx'
    have hnew : z ∉ xs.take i := fun q => by
      obtain ⟨j, hj, e⟩ := List.getElem_of_mem q
      have hj' : j < i := by simp at hj; omega
      have : xs[j]? = xs[i]? := by rw [hz, ← e, List.getElem_take]; exact List.getElem?_eq_getElem (by omega)
      have := (List.getElem?_inj (by omega) hnd).mp this
      omega
    (walk_at "GO")
    refine ev_call (ev_builtin gn_len bb_len (by assumption) ⟨callee_builtin, ?_⟩ (by decide) (by decide)) rfl
    (walk_at "GO")
    refine cal_lenD y2 (by rw [dmap_len]; simp; omega) ?_
    (walk_at "GO")
    refine seti_dict y2 (by rw [dmap_len]; simp; omega) ?_
    refine sts_nil ⟨_, (by walk_at "WEAK"), rfl, hi', y1.set hpd, ?_⟩
    rw [upd_same, dmap_new hnew, dmap_len, List.take_add_one, hz]
    congr 2
    refine dmap_congr fun y hy => ?_
    simp only [setF]
    split
    · rename_i e; subst e; rw [posN_at hnd hz]; simp; omega
    · rfl
  rintro ρ₁ m1 ⟨rfl, _, g1, p1⟩
  rw [show (sL xs).length = xs.length from by simp [sL], List.take_length] at p1
  (walk_at "GO")
  refine ev_dict fun kd hkd => ?_
  (walk_at "GO")
  refine St.weaken [("kept", .ref kd), ("places", .ref pd), ("names", .ref nl), ("uses", .ref ul)] (by walk_at "WEAK") ?_
  refine st_for ?_ (by intro _ _; rfl)
  refine ev_cell rfl (by with_reducible assumption) ⟨_, _, .inl ⟨nl, rfl, hn.grow (g1.trans (Grow.upd hkd)), rfl⟩, fun i ρ₁ m => ρ₁ = ([("kept", .ref kd), ("places", .ref pd), ("names", .ref nl), ("uses", .ref ul)] : Loc) ∧ i ≤ xs.length ∧ Grow m1 m ∧ ∃ kvs, m kd = some (.dict kvs) ∧ kvs.length ≤ i ∧ ∀ x ∈ xs.take i, ∃ l, kvs.lookup x = some (.ref l) ∧ m l = some (.list (sL (adjOf xs us x))), ⟨rfl, Nat.zero_le _, Grow.upd hkd, [], upd_same, Nat.le_refl _, fun x hx => by cases hx⟩, ?_, ?_, ?_⟩
  · rintro i ρ₁ m ⟨rfl, hi, y1, y2⟩
    exact hn.grow (g1.trans y1)
  · rintro i x ρ₁ m hx' ⟨rfl, hi, y1, kvs, y2, y3, y4⟩
    have hi' : i < xs.length := by have := (List.getElem?_eq_some_iff.mp hx').1; simpa [sL] using this
    rw [sL, List.getElem?_map] at hx'
    obtain ⟨z, hz, rfl⟩ := Option.map_eq_some_iff.mp hx'
    obtain ⟨l, u1, u2, u3⟩ := hus z (List.mem_of_getElem? hz)
    (walk_at "GO")
    refine st_assignC ?_ (by kernel_rfl) (by rfl) (by rfl)
    refine ev_comp [("places", .ref pd)] (by kernel_rfl) (List.forall_mem_cons.mpr ⟨⟨rfl, by kernel_rfl⟩, List.forall_mem_nil _⟩) ?_
    refine ev_meth (ev_local rfl (by with_reducible assumption) ⟨_, meth_get (y1 _ _ (g1 _ _ hu)), rfl, callee_builtin, ?_⟩) rfl rfl rfl (by decide)
    (walk_at "GO")
    refine ev_list (evs_nil ⟨by simp, fun el hel => ?_⟩)
    (walk_at "GO")
    refine cal_get2 (kvs := ukvs) (Grow.upd hel _ _ (y1 _ _ (g1 _ _ hu))) ?_
    rw [u1, Option.getD_some]
    have y2' : upd m el (.list []) kd = some (.dict kvs) := Grow.upd hel _ _ y2
    have yg : Grow m (upd m el (.list [])) := Grow.upd hel
    generalize upd m el (.list []) = m2 at y2' yg ⊢
    refine ⟨_, _, .inl ⟨l, rfl, .inl (yg _ _ (y1 _ _ (g1 _ _ u2))), rfl⟩, fun i out D m' => Grow m2 m' ∧ m2 D = none ∧ i ≤ (us z).length ∧ out = sL (((us z).take i).filter fun y => decide (y ∈ xs)) ∧ m' D = some (.list out), ?_, ?_, ?_, ?_⟩
    · intro D hD
      exact ⟨Grow.upd hD, hD, Nat.zero_le _, rfl, upd_same⟩
    · rintro i out D m' ⟨v1, v2, v3, rfl, v5⟩
      refine ⟨.inl (v1 _ _ (yg _ _ (y1 _ _ (g1 _ _ u2)))), v5, ?_⟩
      have := List.length_filter_le (fun y => decide (y ∈ xs)) ((us z).take i)
      simp [sL] at this ⊢; omega
    · rintro i x out D m' hx2 ⟨v1, v2, v3, rfl, v5⟩
      have hi2 : i < (us z).length := by have := (List.getElem?_eq_some_iff.mp hx2).1; simpa [sL] using this
      rw [sL, List.getElem?_map] at hx2
      obtain ⟨y, hy, rfl⟩ := Option.map_eq_some_iff.mp hx2
      refine as_name (sto_local (comp_local (by kernel_rfl)) (ifs_one (tst_cmp ?_ (by with_unfolding_all rfl))))
      refine ev_local rfl (comp_local (by kernel_rfl)) (ev_cell rfl (by kernel_rfl) ?_)
      refine cmp_inD (v1 _ _ (yg _ _ (y1 _ _ p1))) (tru_bool ?_)
      have hft := filter_take (fun y => decide (y ∈ xs)) hy
      by_cases hyx : y ∈ xs
      · rw [dmap_in hyx, Option.isSome_some, if_pos rfl]
        refine ev_local rfl (comp_local (by kernel_rfl)) ⟨v5, v1.set v2, v2, hi2, ?_, upd_same⟩
        rw [hft, if_pos (by simpa using hyx)]; simp [sL]
      · rw [dmap_out hyx, Option.isSome_none, if_neg (by decide)]
        refine ⟨v1, v2, hi2, ?_, v5⟩
        rw [hft, if_neg (by simpa using hyx)]
    · rintro D out m' ⟨v1, v2, v3, rfl, v5⟩
      rw [show (sL (us z)).length = (us z).length from by simp [sL], List.take_length] at v5
      (walk_at "GO")
      have z1 : m' kd = some (.dict kvs) := v1 _ _ y2'
      refine seti_dict z1 (by omega) ?_
      have hkD : D ≠ kd := by rintro rfl; rw [y2'] at v2; cases v2
      have hlen : (put kvs z (.ref D)).length ≤ kvs.length + 1 := stored_length_le ..
      refine sts_nil ⟨_, (by walk_at "WEAK"), rfl, hi', ((y1.trans yg).trans v1).set hkd, _, upd_same, by omega, fun x hx => ?_⟩
      rw [lookup_put]
      by_cases hxz : x = z
      · subst hxz
        rw [if_pos rfl]
        exact ⟨D, rfl, by rw [upd_ne hkD]; exact v5⟩
      · rw [if_neg hxz]
        rw [List.take_add_one, hz] at hx
        have hx3 : x ∈ xs.take i := by simpa [hxz] using hx
        obtain ⟨l', q1, q2⟩ := y4 x hx3
        have : l' ≠ kd := by rintro rfl; rw [y2] at q2; cases q2
        exact ⟨l', q1, by rw [upd_ne this]; exact v1 _ _ (yg _ _ q2)⟩
  rintro ρ₁ m2 ⟨rfl, _, g2, kvs, k1, _, k2⟩
  rw [show (sL xs).length = xs.length from by simp [sL], List.take_length] at k2
  (walk_at "GO")
  refine ev_call (ev_global g_Walker (by assumption) ⟨callee_K ke_Walker, ?_⟩) rfl
  (walk_at "GO")
  refine new_Walker (n := n + 2) (V := xs) (adj := adjOf xs us) k1 k2 fun A m3 e3 W3 g3 hmu => ?_
  (walk_at "GO")
  refine St.weaken [("walker", .ref A.wa), ("places", .ref pd), ("names", .ref nl)] (by walk_at "WEAK") ?_
  refine st_for ?_ (by intro _ _; rfl)
  have keep : ∀ m, GrowL A.muts m3 m → Grow m2 m := fun m g b o e => g b o (hmu b o e) (g3 b o e)
  refine ev_cell rfl (by with_reducible assumption) ⟨_, _, .inl ⟨nl, rfl, hn.grow ((g1.trans g2).trans g3), rfl⟩, fun i ρ₁ m => ρ₁ = ([("walker", .ref A.wa), ("places", .ref pd), ("names", .ref nl)] : Loc) ∧ i ≤ xs.length ∧ GrowL A.muts m3 m ∧ ∃ st, WAt m [] xs (adjOf xs us) A st ∧ Inv xs (adjOf xs us) st [] ∧ st.found.length + st.op.length ≤ st.seen.length ∧ ∀ x ∈ xs.take i, x ∈ st.seen, ⟨rfl, Nat.zero_le _, GrowL.refl _ _, _, W3, Inv.start, by simp [TS.zero], fun x hx => by cases hx⟩, ?_, ?_, ?_⟩
  · rintro i ρ₁ m ⟨rfl, hi, y1, y2⟩
    exact hn.grow ((g1.trans g2).trans (keep m y1))
  · rintro i x ρ₁ m hx' ⟨rfl, hi, y1, st, y2, y3, y4, y5⟩
    have hi' : i < xs.length := by have := (List.getElem?_eq_some_iff.mp hx').1; simpa [sL] using this
    rw [sL, List.getElem?_map] at hx'
    obtain ⟨z, hz, rfl⟩ := Option.map_eq_some_iff.mp hx'
    (walk_at "GO")
    refine geta_inst ok_Walker y2.obj rfl (fun i q => by cases q) na_Walker_numbers ?_
    refine cmp_notInD y2.nums ?_
    (walk_at "GO")
    by_cases hzs : z ∈ st.seen
    · rw [dmap_in hzs, Option.isSome_some, Bool.not_true]
      (walk_at "GO")
      refine sts_nil (sts_nil ⟨_, (by walk_at "WEAK"), rfl, hi', y1, st, y2, y3, y4, fun x hx => ?_⟩)
      rw [List.take_add_one, hz] at hx
      rcases List.mem_append.mp hx with hx | hx
      · exact y5 x hx
      · simp at hx; rw [hx]; exact hzs
    · rw [dmap_out hzs, Option.isSome_none, Bool.not_false]
      (walk_at "GO")
      refine ev_meth (ev_local rfl (by with_reducible assumption) ⟨_, meth_own ok_Walker y2.obj fi_Walker_walk ty_Walker_walk (by rfl), rfl, callee_K ke_Walker_walk, evs_cons (ev_local rfl (by with_reducible assumption) (evs_nil ?_)) rfl⟩) rfl rfl rfl (by decide)
      refine (walk_ok (n := n + 1) y2 y3 hzs (List.mem_of_getElem? hz) (by omega) (fun v _ y hy => by have := (List.mem_filter.mp hy).2; simpa using this) (fun v hv => by
        obtain ⟨l, _, _, u3⟩ := hus v hv
        exact Nat.le_trans (List.length_filter_le _ _) u3) y4 fun m' st' q1 q2 q3 q4 q5 q6 => ?_).cal
      refine sts_nil (sts_nil ⟨_, (by walk_at "WEAK"), rfl, hi', y1.trans q6, st', q1, q2, q5, fun x hx => ?_⟩)
      rw [List.take_add_one, hz] at hx
      rcases List.mem_append.mp hx with hx | hx
      · exact q4 x (y5 x hx)
      · simp at hx; rw [hx]; exact q3
  rintro ρ₁ m4 ⟨rfl, _, y1, st, W4, I4, hcnt, hseen⟩
  have hl4 := I4.len (by omega)
  rw [show (sL xs).length = xs.length from by simp [sL], List.take_length] at hseen
  have hG := good_of I4 hseen
  have g4 := keep m4 y1
  (walk_at "GO")
  refine ev_list (evs_nil ⟨by simp, fun fl hfl => ?_⟩)
  (walk_at "GO")
  have G4 : Grow mem m4 := (g1.trans g2).trans g4
  have hfl0 : mem fl = none := Grow.none G4 hfl
  refine St.weaken [("found", .ref fl), ("walker", .ref A.wa), ("places", .ref pd), ("names", .ref nl)] (by walk_at "WEAK") ?_
  refine st_for ?_ (by intro _ _; rfl)
  refine ev_attr (ev_local rfl (by with_reducible assumption) ?_) rfl
  refine geta_inst ok_Walker (Grow.upd hfl _ _ W4.obj) rfl (fun i q => by cases q) na_Walker_found ?_
  obtain ⟨gs, r1, r2, r3⟩ := W4.fnd
  have r1' := Grow.upd (o := .list []) hfl _ _ r1
  refine ⟨_, _, .inl ⟨A.gf, rfl, .inl r1', rfl⟩, fun i ρ₁ m => ρ₁ = ([("found", .ref fl), ("walker", .ref A.wa), ("places", .ref pd), ("names", .ref nl)] : Loc) ∧ i ≤ gs.length ∧ Grow m4 m ∧ ∃ G', G'.length = i ∧ GroupsL m fl G' ∧ ∀ (j : Nat) (g' g : List Str), G'[j]? = some g' → st.found[j]? = some g → g'.Perm g, ⟨rfl, Nat.zero_le _, Grow.upd hfl, [], rfl, ⟨[], upd_same, rfl, fun i g xs q => by cases q⟩, fun j g' g q => by cases q⟩, ?_, ?_, ?_⟩
  · rintro i ρ₁ m ⟨rfl, hi, y1, y2⟩
    exact .inl (y1 _ _ r1)
  · rintro i x ρ₁ m hx' ⟨rfl, hi, y1, G', y2, ⟨gs', v1, v2, v3⟩, y4⟩
    have hi' : i < gs.length := by have := (List.getElem?_eq_some_iff.mp hx').1; simpa [refs] using this
    rw [List.getElem?_map] at hx'
    obtain ⟨ga, hga, rfl⟩ := Option.map_eq_some_iff.mp hx'
    obtain ⟨g, hg⟩ : ∃ g, st.found[i]? = some g := ⟨_, List.getElem?_eq_getElem (by omega)⟩
    obtain ⟨r4, _, _⟩ := r3 i ga g hga hg
    obtain ⟨hgn, _, hgx⟩ := hG.1 g (List.mem_of_getElem? hg)
    have hgl : g.length ≤ xs.length := nodup_le hgn fun x hx => (hgx x hx).1
    (walk_at "GO")
    refine ev_call (ev_builtin gn_sorted bb_sorted (by assumption) ⟨callee_builtin, ?_⟩ (by decide) (by decide)) rfl
    refine evs_cons ?_ rfl
    refine ev_comp [("places", .ref pd)] (by kernel_rfl) (List.forall_mem_cons.mpr ⟨⟨rfl, by kernel_rfl⟩, List.forall_mem_nil _⟩) ?_
    refine ev_local rfl (by with_reducible assumption) ?_
    have gm : LstAt m ga (sL g) := .inl (y1 _ _ r4)
    refine ⟨_, _, .inl ⟨ga, rfl, gm, rfl⟩, fun i out D m' => Grow m m' ∧ m D = none ∧ i ≤ g.length ∧ out = iL ((g.take i).map fun x => (posN xs x : Int)) ∧ m' D = some (.list out), ?_, ?_, ?_, ?_⟩
    · intro D hD
      exact ⟨Grow.upd hD, hD, Nat.zero_le _, rfl, upd_same⟩
    · rintro i out D m' ⟨v1, v2, v3, rfl, v5⟩
      exact ⟨gm.grow v1, v5, by simp [iL]; omega⟩
    · rintro i x out D m' hx2 ⟨v1, v2, v3, rfl, v5⟩
      have hi2 : i < g.length := by have := (List.getElem?_eq_some_iff.mp hx2).1; simpa [sL] using this
      rw [sL, List.getElem?_map] at hx2
      obtain ⟨y, hy, rfl⟩ := Option.map_eq_some_iff.mp hx2
      refine as_name (sto_local (comp_local (by kernel_rfl)) (ifs_nil (iteT ?_)))
      refine ev_sub (ev_cell rfl (by kernel_rfl) (ev_local rfl (comp_local (by kernel_rfl)) ?_))
      refine sub_dict (v1 _ _ (y1 _ _ (g4 _ _ (g2 _ _ p1)))) (dmap_in ((hgx y (List.mem_of_getElem? hy)).1)) ?_
      refine ⟨v5, v1.set v2, v2, hi2, ?_, upd_same⟩
      rw [List.take_add_one, hy]; simp [iL]
    rintro D out m' ⟨w1, w2, _, rfl, w5⟩
    rw [show (sL g).length = g.length from by simp [sL], List.take_length] at w5
    (walk_at "GO")
    refine cal_sortedI (.inl w5) (by simp; omega) fun rk ys hrk hperm hsrt => ?_
    (walk_at "GO")
    have gm2 : Grow m (upd m' rk (.list (iL ys))) := w1.trans (Grow.upd hrk)
    have rk2 : upd m' rk (.list (iL ys)) rk = some (.list (iL ys)) := upd_same
    generalize upd m' rk (.list (iL ys)) = m5 at gm2 rk2 ⊢
    refine ev_meth (ev_local rfl (by with_reducible assumption) ⟨_, meth_append (gm2 _ _ v1), rfl, callee_builtin, evs_cons ?_ rfl⟩) rfl rfl rfl (by decide)
    refine ev_comp [("names", .ref nl)] (by kernel_rfl) (List.forall_mem_cons.mpr ⟨⟨rfl, by kernel_rfl⟩, List.forall_mem_nil _⟩) ?_
    refine ev_local rfl (by with_reducible assumption) ?_
    refine ⟨_, _, .inl ⟨rk, rfl, .inl rk2, rfl⟩, fun i out D m' => Grow m5 m' ∧ m5 D = none ∧ i ≤ ys.length ∧ out = sL ((ys.take i).map fun p : Int => (xs[p.toNat]?).getD (Str.ofString "")) ∧ m' D = some (.list out), ?_, ?_, ?_, ?_⟩
    · intro D hD
      exact ⟨Grow.upd hD, hD, Nat.zero_le _, rfl, upd_same⟩
    · rintro i out D m' ⟨v1, v2, v3, rfl, v5⟩
      have := hperm.length_eq
      exact ⟨.inl (v1 _ _ rk2), v5, by simp [sL] at this ⊢; omega⟩
    · rintro i x out D m' hx2 ⟨v1, v2, v3, rfl, v5⟩
      have hi2 : i < ys.length := by have := (List.getElem?_eq_some_iff.mp hx2).1; simpa [iL] using this
      rw [iL, List.getElem?_map] at hx2
      obtain ⟨p, hp, rfl⟩ := Option.map_eq_some_iff.mp hx2
      obtain ⟨y, hy, rfl⟩ := List.mem_map.mp (hperm.mem_iff.mp (List.mem_of_getElem? hp))
      have hyx := posN_mem (hgx y hy).1
      have hpl := (List.getElem?_eq_some_iff.mp hyx).1
      refine as_name (sto_local (comp_local (by kernel_rfl)) (ifs_nil (iteT ?_)))
      refine ev_sub (ev_cell rfl (by kernel_rfl) (ev_local rfl (comp_local (by kernel_rfl)) ?_))
      refine sub_list (v := .str y 0) (hn.grow (G4.trans (y1.trans (gm2.trans v1)))) (by omega) (by omega) (by simp [sL, hyx]) ?_
      refine ⟨v5, v1.set v2, v2, hi2, ?_, upd_same⟩
      rw [List.take_add_one, hp]; simp [sL, hyx]
    rintro D2 out m6 ⟨t1, t2, _, rfl, t5⟩
    rw [show (iL ys).length = ys.length from by simp [iL], List.take_length] at t5
    refine evs_nil ?_
    have v1' := t1 _ _ (gm2 _ _ v1)
    have hDf : D2 ≠ fl := by rintro rfl; rw [gm2 _ _ v1] at t2; cases t2
    refine cal_append v1' (by simp [refs]; omega) ?_
    refine sts_nil ⟨[("found", .ref fl), ("walker", .ref A.wa), ("places", .ref pd), ("names", .ref nl)], (by walk_at "WEAK"), rfl, hi', (y1.trans (gm2.trans t1)).set hfl, G' ++ [ys.map fun p : Int => (xs[p.toNat]?).getD (Str.ofString "")], by simp [y2], ⟨gs' ++ [D2], by rw [upd_same]; simp [refs], by simp [v2], fun j b zs q1 q2 => ?_⟩, fun j g' g2 q1 q2 => ?_⟩
    · by_cases hj : j < gs'.length
      · rw [List.getElem?_append_left hj] at q1
        rw [List.getElem?_append_left (by omega)] at q2
        have z1 := v3 j b zs q1 q2
        have z2 : m6 b = some (.list (sL zs)) := t1 _ _ (gm2 _ _ z1)
        by_cases hb : b = fl
        · subst hb
          rw [v1] at z1
          cases zs with
          | nil =>
            have : gs' = [] := by cases gs' with | nil => rfl | cons _ _ => simp [refs, sL] at z1
            subst this; simp at hj
          | cons _ _ => cases gs' with | nil => simp [refs, sL] at z1 | cons _ _ => simp [refs, sL] at z1
        · rw [upd_ne hb]; exact z2
      · have hj' : j = gs'.length := by
          have := (List.getElem?_eq_some_iff.mp q1).1
          simp at this; omega
        subst hj'
        simp at q1
        rw [v2] at q2
        simp at q2
        subst q1; subst q2
        rw [upd_ne hDf]; exact t5
    · by_cases hj : j < G'.length
      · rw [List.getElem?_append_left hj] at q1
        exact y4 j g' g2 q1 q2
      · have hj' : j = G'.length := by
          have := (List.getElem?_eq_some_iff.mp q1).1
          simp at this; omega
        subst hj'
        simp at q1
        rw [y2, hg] at q2
        cases q2
        rw [← q1]
        exact back_perm (fun x hx => (hgx x hx).1) hperm
  rintro ρ₁ m6 ⟨rfl, _, y1, G', y2, y3, y4⟩
  have y2' : G'.length = st.found.length := by rw [y2, ← r2]; simp [refs]
  (walk_at "GO")
  exact h fl G' m6 hfl0 (G4.trans y1) y3 (hG.perm y2' y4)
end
end Mine
end
section
-- F26
set_option maxRecDepth 100000
set_option maxHeartbeats 400000
set_option autoImplicit false
set_option linter.unusedVariables false
set_option linter.unusedSimpArgs false
namespace Mine
open PySem PySem.W PySem.Calls PyProof.Rows
theorem Led.trans {bs : List Bd} {a b d : Str} (h : Led bs a b) (k : Led bs b d) : Led bs a d := by
  induction k with
  | one e => exact h.more e
  | more _ e ih => exact ih.more e
theorem Led.head {bs : List Bd} {a b : Str} (h : Led bs a b) : ∃ c, Edge bs a c ∧ (c = b ∨ Led bs c b) := by
  induction h with
  | one e => exact ⟨_, e, .inl rfl⟩
  | more _ e ih =>
    obtain ⟨c, h1, h2⟩ := ih
    refine ⟨c, h1, .inr ?_⟩
    rcases h2 with rfl | h2
    · exact .one e
    · exact h2.more e
/-- a group that turns -/
noncomputable def Turns (us : Str → List Str) (g : List Str) : Prop := 1 < g.length ∨ ∃ y, g[0]? = some y ∧ y ∈ us y
noncomputable def UsOk (bs : List Bd) (us : Str → List Str) : Prop := ∀ b ∈ bs, ∀ y, y ∈ us b.x ↔ y ∈ b.e.names
theorem edge_adj {bs : List Bd} {us : Str → List Str} (hn : (bs.map Bd.x).Nodup) (hu : UsOk bs us) {a b : Str} (ha : a ∈ bs.map Bd.x) : b ∈ adjOf (bs.map Bd.x) us a ↔ Edge bs a b := by
  obtain ⟨d, hd⟩ := topOf ha
  obtain ⟨h1, h2⟩ := rowOf_mem hd
  rw [edge_of hn hd]
  unfold adjOf
  rw [List.mem_filter, ← h2, hu d h1]
  simp
theorem reach_led {bs : List Bd} {us : Str → List Str} (hn : (bs.map Bd.x).Nodup) (hu : UsOk bs us) {a b : Str} (ha : a ∈ bs.map Bd.x) (h : Reach (adjOf (bs.map Bd.x) us) a b) : a = b ∨ Led bs a b := by
  induction h with
  | refl => exact .inl rfl
  | more _ e ih =>
    rcases ih with rfl | ih
    · exact .inr (.one ((edge_adj hn hu ha).mp e))
    · exact .inr (ih.more ((edge_adj hn hu ih.top).mp e))
theorem led_reach {bs : List Bd} {us : Str → List Str} (hn : (bs.map Bd.x).Nodup) (hu : UsOk bs us) {a b : Str} (ha : a ∈ bs.map Bd.x) (h : Led bs a b) : Reach (adjOf (bs.map Bd.x) us) a b := by
  induction h with
  | one e => exact .more .refl ((edge_adj hn hu ha).mpr e)
  | more h e ih => exact ih.more ((edge_adj hn hu h.top).mpr e)
theorem other_mem {g : List Str} (hn : g.Nodup) (hl : 1 < g.length) (x : Str) : ∃ y ∈ g, y ≠ x := by
  match g, hn, hl with
  | a :: b :: r, hn, _ =>
    by_cases h : a = x
    · refine ⟨b, by simp, fun e => ?_⟩
      simp at hn
      exact hn.1.1 (h.trans e.symm)
    · exact ⟨a, by simp, h⟩
theorem turns_iff {bs : List Bd} {us : Str → List Str} {G : List (List Str)} (hn : (bs.map Bd.x).Nodup) (hu : UsOk bs us) (hG : Good (bs.map Bd.x) (adjOf (bs.map Bd.x) us) G) (x : Str) :
    (∃ g ∈ G, x ∈ g ∧ Turns us g) ↔ x ∈ bs.map Bd.x ∧ Led bs x x := by
  constructor
  · rintro ⟨g, hg, hx, ht⟩
    obtain ⟨h1, h2, h3⟩ := hG.1 g hg
    have hxs := (h3 x hx).1
    refine ⟨hxs, ?_⟩
    by_cases hl : 1 < g.length
    · obtain ⟨y, hy, hne⟩ := other_mem h1 hl x
      obtain ⟨r1, r2⟩ := ((h3 x hx).2 y).mp hy
      have q1 := (reach_led hn hu hxs r1).resolve_left (Ne.symm hne)
      have q2 := (reach_led hn hu (h3 y hy).1 r2).resolve_left hne
      exact q1.trans q2
    · rcases ht with ht | ⟨y, hy, hyy⟩
      · exact absurd ht hl
      · match g, hx, hy, hl with
        | [z], hx, hy, _ =>
          simp at hx hy
          subst hy; subst hx
          refine .one ((edge_adj hn hu hxs).mp ?_)
          unfold adjOf
          rw [List.mem_filter]
          exact ⟨hyy, by simpa using hxs⟩
        | _ :: _ :: _, _, _, hl => simp at hl
  · rintro ⟨hx, hl⟩
    obtain ⟨g, hg, hxg⟩ := hG.2 x hx
    obtain ⟨h1, h2, h3⟩ := hG.1 g hg
    refine ⟨g, hg, hxg, ?_⟩
    obtain ⟨c, e, h⟩ := hl.head
    by_cases hcx : c = x
    · subst hcx
      by_cases hl1 : 1 < g.length
      · exact .inl hl1
      · refine .inr ⟨c, ?_, ?_⟩
        · match g, hxg, hl1 with
          | [z], hxg, _ => simp at hxg; subst hxg; rfl
          | _ :: _ :: _, _, hl1 => simp at hl1
        · have := (edge_adj hn hu hx).mpr e
          exact (List.mem_filter.mp this).1
    · have h := h.resolve_left hcx
      have hcg : c ∈ g := ((h3 x hxg).2 c).mpr ⟨led_reach hn hu hx (.one e), led_reach hn hu (Led.one e).top h⟩
      left
      match g, hxg, hcg with
      | [z], hxg, hcg => simp at hxg hcg; exact absurd (hcg.trans hxg.symm) hcx
      | _ :: _ :: _, _, _ => simp
section
variable {w : World} {h₀ : Heap} {n : Nat} {f : Fs} {ρ : Loc} {mem : Mem} {Q : Value → Mem → Prop}
theorem recursive_ok {bl : Addr} {bs : List Bd} (hb : BindsAt mem bl bs) (hl : bs.length ≤ 10) (hs : ∀ b ∈ bs, b.e.size ≤ 60) (hn : (bs.map Bd.x).Nodup)
    (h : ∀ r ks m', mem r = none → Grow mem m' → m' r = some (.dict (dmap ks fun _ => .bool true)) → ks.Nodup → (∀ x, x ∈ ks ↔ x ∈ bs.map Bd.x ∧ Led bs x x) → Q (.ref r) m') : CodeCal (cx w h₀) (n + 6) 391 [.ref bl] mem Q := by
  refine code_fn ["binds"] lk_recursive_names cd_recursive_names rfl (vals1 fun _ => by kernel_rfl) (by kernel_rfl) (by kernel_rfl) ?_
  generalize hf : (⟨(topDef 20).2.2, true⟩ : Fs) = f
  have nl0 : isL f "binds" := by rw [← hf]; kernel_rfl
  have nl1 : isL f "uses" := by rw [← hf]; kernel_rfl
  have nl2 : isL f "name" := by rw [← hf]; kernel_rfl
  have nl3 : isL f "expr" := by rw [← hf]; kernel_rfl
  have nl4 : isL f "found" := by rw [← hf]; kernel_rfl
  have nl5 : isL f "group" := by rw [← hf]; kernel_rfl
  have nl6 : isG f "sorted" := by rw [← hf]; kernel_rfl
  have nl7 : isG f "used_names" := by rw [← hf]; kernel_rfl
  have nl8 : isG f "strong_groups" := by rw [← hf]; kernel_rfl
  have nl9 : isG f "len" := by rw [← hf]; kernel_rfl
  clear hf
  (walk_at "GO")
  refine ev_dict fun ud hud => ?_
  (walk_at "GO")
  refine St.weaken [("uses", .ref ud), ("binds", .ref bl)] (by walk_at "WEAK") ?_
  refine st_for ?_ (by intro _ _; rfl)
  obtain ⟨ts, x1, x2, x3⟩ := hb.at
  refine ev_local rfl (by assumption) ⟨_, _, .inl ⟨bl, rfl, .inl (Grow.upd hud _ _ x1), rfl⟩, fun i ρ₁ m => ρ₁ = ([("uses", .ref ud), ("binds", .ref bl)] : Loc) ∧ i ≤ bs.length ∧ Grow mem m ∧ ∃ kvs us, m ud = some (.dict kvs) ∧ kvs.length ≤ i ∧ ∀ b ∈ bs.take i, (∃ l, kvs.lookup b.x = some (.ref l) ∧ m l = some (.list (sL (us b.x)))) ∧ (∀ y, y ∈ us b.x ↔ y ∈ b.e.names) ∧ (us b.x).length ≤ 1000, ⟨rfl, Nat.zero_le _, Grow.upd hud, [], fun _ => [], upd_same, Nat.le_refl _, fun b hb => by cases hb⟩, ?_, ?_, ?_⟩
  · rintro i ρ₁ m ⟨rfl, hi, y1, _⟩
    exact .inl (y1 _ _ x1)
  · rintro i x ρ₁ m hx' ⟨rfl, hi, y1, kvs, us, y2, y3, y4⟩
    obtain ⟨b, t, hbi, rfl, ht, _⟩ := x3 i x hx'
    have hi' : i < bs.length := (List.getElem?_eq_some_iff.mp hbi).1
    have hbm := List.mem_of_getElem? hbi
    have he : ExAt m b.a b.e := (hb.2 b hbm).grow y1
    have hbs := hs b hbm
    refine as_tuple (y1 _ _ ht) rfl ?_ rfl
    (walk_at "GO")
    refine ev_call (ev_builtin gn_sorted bb_sorted (by assumption) ⟨callee_builtin, ?_⟩ (by decide) (by decide)) rfl
    (walk_at "GO")
    refine ev_call (ev_global g_used_names (by assumption) ⟨callee_K ke_used_names, ?_⟩) rfl
    (walk_at "GO")
    refine (used_names_ok (n := n + 2) he (by omega) fun r m1 nvs r1 r2 r3 r4 r5 r6 => ?_).cal
    (walk_at "GO")
    refine cal_sortedD r3 (by omega) fun sl ys s1 s2 s3 => ?_
    (walk_at "GO")
    have z1 : upd m1 sl (.list (sL ys)) ud = some (.dict kvs) := Grow.upd s1 _ _ (r2 _ _ y2)
    refine seti_dict z1 (by omega) ?_
    have hne : sl ≠ ud := by rintro rfl; rw [r2 _ _ y2] at s1; cases s1
    have hlen : (put kvs b.x (.ref sl)).length ≤ kvs.length + 1 := stored_length_le ..
    refine sts_nil ⟨_, (by walk_at "WEAK"), rfl, hi', ((y1.trans r2).trans (Grow.upd s1)).set hud, _, setF us b.x ys, upd_same, by omega, fun b' hb' => ?_⟩
    rw [lookup_put]
    by_cases hx : b'.x = b.x
    · rw [if_pos hx]
      simp only [setF, if_pos hx]
      have hbb : b' = b := top_unique hn (List.mem_of_mem_take hb') hbm hx
      subst hbb
      exact ⟨⟨sl, rfl, by rw [upd_ne hne, upd_same]⟩, fun y => by rw [s2.mem_iff]; exact r5 y, by rw [s2.length_eq, List.length_map]; omega⟩
    · rw [if_neg hx]
      simp only [setF, if_neg hx]
      rw [List.take_add_one, hbi] at hb'
      have hb3 : b' ∈ bs.take i := by
        rcases List.mem_append.mp hb' with q | q
        · exact q
        · simp at q; rw [q] at hx; exact absurd rfl hx
      obtain ⟨⟨l, q1, q2⟩, q3, q4⟩ := y4 b' hb3
      have : l ≠ ud := by rintro rfl; rw [y2] at q2; cases q2
      exact ⟨⟨l, q1, by rw [upd_ne this]; exact Grow.upd s1 _ _ (r2 _ _ q2)⟩, q3, q4⟩
  rintro ρ₁ m1 ⟨rfl, _, g1, kvs, us, k1, k2, k3⟩
  rw [x2, List.take_length] at k3
  have hus : UsOk bs us := fun b hb y => (k3 b hb).2.1 y
  (walk_at "GO")
  refine ev_dict fun fd hfd => ?_
  (walk_at "GO")
  have hfd0 : mem fd = none := Grow.none g1 hfd
  refine St.weaken [("found", .ref fd), ("uses", .ref ud), ("binds", .ref bl)] (by walk_at "WEAK") ?_
  refine st_for ?_ (by intro _ _; rfl)
  refine ev_call (ev_global g_strong_groups (by assumption) ⟨callee_K ke_strong_groups, ?_⟩) rfl
  have g2 : Grow m1 (upd m1 fd (.dict [])) := Grow.upd hfd
  have f2 : upd m1 fd (.dict []) fd = some (.dict (dmap [] fun _ => .bool true)) := by rw [upd_same]; rfl
  generalize upd m1 fd (.dict []) = m2 at g2 f2 ⊢
  have G2 := g1.trans g2
  refine evs_cons (ev_comp [] (by kernel_rfl) (fun p hp => by cases hp) ?_) rfl
  refine ev_local rfl (by assumption) ⟨_, _, .inl ⟨bl, rfl, .inl (G2 _ _ x1), rfl⟩, fun i out D m => Grow m2 m ∧ m2 D = none ∧ i ≤ bs.length ∧ out = sL ((bs.take i).map Bd.x) ∧ m D = some (.list out), ?_, ?_, ?_, ?_⟩
  · intro D hD
    exact ⟨Grow.upd hD, hD, Nat.zero_le _, rfl, upd_same⟩
  · rintro i out D m ⟨y1, y2, y3, rfl, y5⟩
    exact ⟨.inl (y1 _ _ (G2 _ _ x1)), y5, by simp [sL]; omega⟩
  · rintro i x out D m hx' ⟨y1, y2, y3, rfl, y5⟩
    obtain ⟨b, t, hbi, rfl, ht, _⟩ := x3 i x hx'
    have hi' : i < bs.length := (List.getElem?_eq_some_iff.mp hbi).1
    refine as_tuple (y1 _ _ (G2 _ _ ht)) rfl ?_ rfl
    refine ass_cons (as_name (sto_local (comp_local (by kernel_rfl)) (ass_cons (as_name (sto_local (comp_local (by kernel_rfl)) (ass_nil ?_))) rfl))) rfl
    refine ifs_nil (iteT ?_)
    refine ev_local rfl (comp_local (by kernel_rfl)) ⟨y5, y1.set y2, y2, hi', ?_, upd_same⟩
    rw [List.take_add_one, hbi]; simp [sL]
  rintro D out m3 ⟨y1, y2, _, rfl, y5⟩
  rw [x2, List.take_length] at y5
  (walk_at "GO")
  refine (strong_ok (n := n) (xs := bs.map Bd.x) (us := us) (ukvs := kvs) (.inl y5) hn (by simp; omega) (y1 _ _ (g2 _ _ k1)) (fun x hx => ?_) fun r G m4 q1 q2 ⟨gs, q3, q4, q5⟩ q6 => ?_).cal
  · obtain ⟨b, hb, rfl⟩ := List.mem_map.mp hx
    obtain ⟨⟨l, z1, z2⟩, _, z4⟩ := k3 b hb
    exact ⟨l, z1, y1 _ _ (g2 _ _ z2), z4⟩
  have f4 := q2 _ _ (y1 _ _ f2)
  have G4 : Grow mem m4 := (G2.trans y1).trans q2
  have u4 : ∀ b ∈ bs, ∃ l, kvs.lookup b.x = some (.ref l) ∧ m4 l = some (.list (sL (us b.x))) := fun b hb => by
    obtain ⟨⟨l, z1, z2⟩, _⟩ := k3 b hb
    exact ⟨l, z1, q2 _ _ (y1 _ _ (g2 _ _ z2))⟩
  have k4 := q2 _ _ (y1 _ _ (g2 _ _ k1))
  clear y1 y2 y5 f2 g2 G2 q1 q2 D
  refine ⟨_, _, .inl ⟨r, rfl, .inl q3, rfl⟩, fun i ρ₁ m => ρ₁ = ([("found", .ref fd), ("uses", .ref ud), ("binds", .ref bl)] : Loc) ∧ i ≤ gs.length ∧ GrowX fd m4 m ∧ ∃ ks, m fd = some (.dict (dmap ks fun _ => .bool true)) ∧ ks.Nodup ∧ ∀ x, x ∈ ks ↔ ∃ g ∈ G.take i, x ∈ g ∧ Turns us g, ⟨rfl, Nat.zero_le _, GrowX.refl _ _, [], f4, .nil, fun x => by simp⟩, ?_, ?_, ?_⟩
  · rintro i ρ₁ m ⟨rfl, hi, y1, _⟩
    exact .inl (y1 _ _ (by rintro rfl; rw [f4] at q3; cases q3) q3)
  · rintro i x ρ₁ m hx' ⟨rfl, hi, y1, ks, y2, y3, y4⟩
    have hi' : i < gs.length := by have := (List.getElem?_eq_some_iff.mp hx').1; simpa [refs] using this
    rw [List.getElem?_map] at hx'
    obtain ⟨ga, hga, rfl⟩ := Option.map_eq_some_iff.mp hx'
    obtain ⟨g, hg⟩ : ∃ g, G[i]? = some g := ⟨_, List.getElem?_eq_getElem (by omega)⟩
    obtain ⟨hgn, hgne, hgx⟩ := q6.1 g (List.mem_of_getElem? hg)
    have hgl : g.length ≤ (bs.map Bd.x).length := nodup_le hgn fun x hx => (hgx x hx).1
    simp only [List.length_map] at hgl
    have hga4 := q5 i ga g hga hg
    have hgam : m ga = some (.list (sL g)) := y1 _ _ (by rintro rfl; rw [f4] at hga4; cases hga4) hga4
    obtain ⟨g0, gr, rfl⟩ := List.exists_cons_of_ne_nil hgne
    obtain ⟨b, hbm, hbx⟩ := List.mem_map.mp (hgx g0 (by simp)).1
    obtain ⟨l, l1, l2⟩ := u4 b hbm
    rw [hbx] at l1 l2
    have l2m : m l = some (.list (sL (us g0))) := y1 _ _ (by rintro rfl; rw [f4] at l2; cases l2) l2
    have k4m : m ud = some (.dict kvs) := y1 _ _ (by rintro rfl; rw [k1] at hfd; cases hfd) k4
    (walk_at "GON")
    have hT : (decide (1 < (g0 :: gr).length) || decide (g0 ∈ us g0)) = true ↔ Turns us (g0 :: gr) := by
      simp [Turns]
    refine st_if (tst_pure (decide (1 < (g0 :: gr).length) || decide (g0 ∈ us g0)) (fun Q' q => ?_) ?_)
    · (walk_at "GO")
      refine ev_call (ev_builtin gn_len bb_len (by assumption) ⟨callee_builtin, ?_⟩ (by decide) (by decide)) rfl
      (walk_at "GO")
      refine cal_len (.inl hgam) (by simp [sL] at hgl ⊢; omega) ?_
      (walk_at "GO")
      rw [show decide ((1 : Int) < ((sL (g0 :: gr)).length : Int)) = decide (1 < (g0 :: gr).length) from decide_eq_decide.mpr (by simp [sL]; omega)]
      by_cases h1 : 1 < (g0 :: gr).length
      · rw [decide_eq_true h1, Bool.true_or] at *
        exact iteT q
      · rw [decide_eq_false h1, Bool.false_or] at *
        (walk_at "GO")
        refine sub_list (v := .str g0 0) (.inl hgam) (by decide) (by decide) (by simp [sL]) ?_
        (walk_at "GO")
        refine sub_list (v := .str g0 0) (.inl hgam) (by decide) (by decide) (by simp [sL]) ?_
        refine sub_dict k4m l1 ?_
        refine cmp_inL (.inl l2m) ?_
        (walk_at "GO")
        by_cases h2 : g0 ∈ us g0
        · rw [decide_eq_true h2] at *; exact iteT q
        · rw [decide_eq_false h2] at *; exact iteF (tsts_or_nil q)
    · have hnext : ∀ ks' : List Str, (∀ x, x ∈ ks' ↔ x ∈ ks ∨ (x ∈ g0 :: gr ∧ Turns us (g0 :: gr))) → ∀ x, x ∈ ks' ↔ ∃ g ∈ G.take (i + 1), x ∈ g ∧ Turns us g := fun ks' hk x => by
        rw [hk, y4, List.take_add_one, hg]
        constructor
        · rintro (⟨g, z1, z2⟩ | z)
          · exact ⟨g, by simp [z1], z2⟩
          · exact ⟨g0 :: gr, by simp, z⟩
        · rintro ⟨g, z1, z2⟩
          rcases List.mem_append.mp z1 with z1 | z1
          · exact .inl ⟨g, z1, z2⟩
          · simp at z1; subst z1; exact .inr z2
      cases hc : (decide (1 < (g0 :: gr).length) || decide (g0 ∈ us g0)) with
      | false =>
        refine iteF (sts_nil (sts_nil ⟨_, (by walk_at "WEAK"), rfl, hi', y1, ks, y2, y3, hnext ks fun x => ?_⟩))
        have : ¬ Turns us (g0 :: gr) := fun q => by rw [hT.mpr q] at hc; cases hc
        simp [this]
      | true =>
        have hTt := hT.mp hc
        refine iteT (sts_cons (St.weaken [("group", .ref ga), ("found", .ref fd), ("uses", .ref ud), ("binds", .ref bl)] (by walk_at "WEAK") ?_))
        refine st_for ?_ (by intro _ _; rfl)
        refine ev_local rfl (by assumption) ⟨_, _, .inl ⟨ga, rfl, .inl hgam, rfl⟩, fun j ρ₁ m' => ρ₁ = ([("group", .ref ga), ("found", .ref fd), ("uses", .ref ud), ("binds", .ref bl)] : Loc) ∧ j ≤ (g0 :: gr).length ∧ GrowX fd m4 m' ∧ ∃ ks', m' fd = some (.dict (dmap ks' fun _ => .bool true)) ∧ ks'.Nodup ∧ ∀ x, x ∈ ks' ↔ x ∈ ks ∨ x ∈ (g0 :: gr).take j, ⟨rfl, Nat.zero_le _, y1, ks, y2, y3, fun x => by simp⟩, ?_, ?_, ?_⟩
        · rintro j ρ₁ m' ⟨rfl, hj, v1, _⟩
          exact .inl (v1 _ _ (by rintro rfl; rw [f4] at hga4; cases hga4) hga4)
        · rintro j x ρ₁ m' hx2 ⟨rfl, hj, v1, ks', v2, v3, v4⟩
          have hj' : j < (g0 :: gr).length := by have := (List.getElem?_eq_some_iff.mp hx2).1; simpa [sL] using this
          rw [sL, List.getElem?_map] at hx2
          obtain ⟨y, hy, rfl⟩ := Option.map_eq_some_iff.mp hx2
          have hkl : ks'.length ≤ bs.length := by
            have := nodup_le (m := bs.map Bd.x) v3 fun x hx => by
              rcases (v4 x).mp hx with q | q
              · obtain ⟨g, z1, z2, _⟩ := (y4 x).mp q
                exact ((q6.1 g (List.mem_of_mem_take z1)).2.2 x z2).1
              · exact (hgx x (List.mem_of_mem_take q)).1
            simpa using this
          (walk_at "GO")
          refine seti_dict v2 (by rw [dmap_len]; omega) ?_
          have hmem : ∀ x, x ∈ (g0 :: gr).take (j + 1) ↔ x ∈ (g0 :: gr).take j ∨ x = y := fun x => take_succ_mem hy
          have hg9 : ∀ o, GrowX fd m4 (upd m' fd o) := fun o b o' hb e => by rw [upd_ne hb]; exact v1 b o' hb e
          by_cases hyk : y ∈ ks'
          · refine sts_nil ⟨_, (by walk_at "WEAK"), rfl, hj', hg9 _, ks', ?_, v3, fun x => ?_⟩
            · rw [upd_same, dmap_set hyk]
              congr 2
              exact dmap_congr fun z _ => by simp [setF]
            · rw [hmem, v4]
              constructor
              · rintro (q | q)
                · exact .inl q
                · exact .inr (.inl q)
              · rintro (q | q | rfl)
                · exact .inl q
                · exact .inr q
                · exact (v4 x).mp hyk
          · refine sts_nil ⟨_, (by walk_at "WEAK"), rfl, hj', hg9 _, ks' ++ [y], ?_, ?_, fun x => ?_⟩
            · rw [upd_same, dmap_new hyk]
              congr 2
              exact dmap_congr fun z _ => by simp [setF]
            · rw [List.nodup_append]
              exact ⟨v3, by simp, fun a ha b hb e => by simp at hb; subst hb; subst e; exact hyk ha⟩
            · rw [hmem, List.mem_append, v4]
              simp only [List.mem_singleton]
              constructor
              · rintro ((q | q) | q)
                · exact .inl q
                · exact .inr (.inl q)
                · exact .inr (.inr q)
              · rintro (q | q | q)
                · exact .inl (.inl q)
                · exact .inl (.inr q)
                · exact .inr q
        · rintro ρ₁ m' ⟨rfl, _, v1, ks', v2, v3, v4⟩
          rw [show (sL (g0 :: gr)).length = (g0 :: gr).length from by simp [sL], List.take_length] at v4
          refine sts_nil (sts_nil ⟨[("found", .ref fd), ("uses", .ref ud), ("binds", .ref bl)], (by walk_at "WEAK"), rfl, hi', v1, ks', v2, v3, hnext ks' fun x => ?_⟩)
          rw [v4]; simp [hTt]
  · rintro ρ₁ m5 ⟨rfl, _, y1, ks, y2, y3, y4⟩
    rw [show (refs gs).length = G.length from by simp [refs, q4], List.take_length] at y4
    (walk_at "GO")
    refine h fd ks m5 hfd0 (fun b o e => y1 b o (by rintro rfl; rw [hfd0] at e; cases e) (G4 b o e)) y2 y3 fun x => ?_
    rw [y4]
    exact turns_iff hn hus q6 x
end
end Mine
end
section
-- F27
set_option maxRecDepth 100000
set_option maxHeartbeats 400000
set_option autoImplicit false
set_option linter.unusedVariables false
set_option linter.unusedSimpArgs false
namespace Mine
open PySem PySem.W PySem.Calls PyProof.Rows PySem.Spec
noncomputable def leS (a b : Str) : Prop := ¬ (b.cps.toList < a.cps.toList)
theorem leS_trans {a b d : Str} (h : leS a b) (k : leS b d) : leS a d := by
  unfold leS at *
  exact List.not_lt.mpr (List.le_trans (List.not_lt.mp h) (List.not_lt.mp k))
theorem leS_anti {a b : Str} (h : leS a b) (k : leS b a) : a = b := by
  unfold leS at *
  have : a.cps.toList = b.cps.toList := List.le_antisymm (List.not_lt.mp h) (List.not_lt.mp k)
  cases a; cases b
  simp only [Str.mk.injEq]
  exact Array.ext' this
theorem rising_pair : ∀ {l : List Str} {p : Str}, risingS p l = true → (p :: l).Pairwise leS
  | [], p, _ => by simp
  | x :: r, p, h => by
    have h' : (!ltCps x.cps.toList p.cps.toList && risingS x r) = true := h
    rw [Bool.and_eq_true, ltCps_eq] at h'
    have h1 : leS p x := by simpa [leS] using h'.1
    have h2 := rising_pair h'.2
    refine List.pairwise_cons.mpr ⟨fun y hy => ?_, h2⟩
    rcases List.mem_cons.mp hy with rfl | hy
    · exact h1
    · exact leS_trans h1 ((List.pairwise_cons.mp h2).1 y hy)
theorem sorted_pair {l : List Str} (h : sortedS l = true) : l.Pairwise leS := by
  cases l with
  | nil => exact .nil
  | cons x r => exact rising_pair h
theorem sorted_unique : ∀ {l m : List Str}, l.Perm m → l.Pairwise leS → m.Pairwise leS → l = m
  | [], m, hp, _, _ => hp.nil_eq
  | a :: l, m, hp, h1, h2 => by
    cases m with
    | nil => exact absurd hp.symm.nil_eq (by simp)
    | cons b m =>
      have hab : a = b := by
        rcases List.mem_cons.mp (hp.mem_iff.mp (List.mem_cons_self ..)) with e | e
        · exact e
        · rcases List.mem_cons.mp (hp.mem_iff.mpr (List.mem_cons_self ..)) with e' | e'
          · exact e'.symm
          · exact leS_anti ((List.pairwise_cons.mp h1).1 b e') ((List.pairwise_cons.mp h2).1 a e)
      subst hab
      rw [sorted_unique (List.perm_cons a |>.mp hp) (List.pairwise_cons.mp h1).2 (List.pairwise_cons.mp h2).2]
theorem perm_of_mem : ∀ {l m : List Str}, l.Nodup → m.Nodup → (∀ x, x ∈ l ↔ x ∈ m) → l.Perm m := fun h1 h2 h => (List.perm_ext_iff_of_nodup h1 h2).mpr h
/-- two sorted lists of the same texts are the same -/
theorem sorted_same {l m l' m' : List Str} (h1 : l'.Perm l) (s1 : sortedS l' = true) (h2 : m'.Perm m) (s2 : sortedS m' = true) (n1 : l.Nodup) (n2 : m.Nodup) (h : ∀ x, x ∈ l ↔ x ∈ m) : l' = m' :=
  sorted_unique (h1.trans ((perm_of_mem n1 n2 h).trans h2.symm)) (sorted_pair s1) (sorted_pair s2)
/-- the names of the tops -/
noncomputable def tName (i : Nat) : Str := Str.ofString "t" ++ Str.ofString (toString (i : Int))
noncomputable def tNames (k : Nat) : List Str := (List.range k).map tName
theorem tNames_nodup {k : Nat} (h : k ≤ 6) : (tNames k).Nodup := by
  match k, h with
  | 0, _ => decide +kernel
  | 1, _ => decide +kernel
  | 2, _ => decide +kernel
  | 3, _ => decide +kernel
  | 4, _ => decide +kernel
  | 5, _ => decide +kernel
  | 6, _ => decide +kernel
  | n + 7, h => omega
theorem tNames_x {k : Nat} (h : k ≤ 6) : ("x" : Str) ∉ tNames k := by
  match k, h with
  | 0, _ => decide +kernel
  | 1, _ => decide +kernel
  | 2, _ => decide +kernel
  | 3, _ => decide +kernel
  | 4, _ => decide +kernel
  | 5, _ => decide +kernel
  | 6, _ => decide +kernel
  | n + 7, h => omega
theorem tName_len {i : Nat} (h : i < 6) : (Str.ofString "t").length + (Str.ofString (toString (i : Int))).length ≤ 16777216 := by
  match i, h with
  | 0, _ => decide +kernel
  | 1, _ => decide +kernel
  | 2, _ => decide +kernel
  | 3, _ => decide +kernel
  | 4, _ => decide +kernel
  | 5, _ => decide +kernel
  | n + 6, h => omega
theorem small_log {i : Nat} (h : i < 6) : ((i : Int).natAbs).log2 < 1920 := by
  match i, h with
  | 0, _ => decide +kernel
  | 1, _ => decide +kernel
  | 2, _ => decide +kernel
  | 3, _ => decide +kernel
  | 4, _ => decide +kernel
  | 5, _ => decide +kernel
  | n + 6, h => omega
end Mine
end
section
-- F28
set_option maxRecDepth 100000
set_option maxHeartbeats 400000
set_option autoImplicit false
set_option linter.unusedVariables false
set_option linter.unusedSimpArgs false
namespace Mine
open PySem PySem.W PySem.Calls PyProof.Rows
noncomputable def hide (m : Mem) (D : Addr) : Mem := fun b => if b = D then none else m b
theorem hide_same {m : Mem} {D : Addr} : hide m D D = none := if_pos rfl
theorem hide_ne {m : Mem} {D b : Addr} (h : b ≠ D) : hide m D b = m b := if_neg h
theorem hide_le {m : Mem} {D : Addr} : Grow (hide m D) m := fun b o e => by
  by_cases h : b = D
  · rw [h, hide_same] at e; cases e
  · rwa [hide_ne h] at e
section
variable {c : Cx} {n : Nat} {α : Type} {mem : Mem}
/-- a list that the work does not see stays as it is -/
theorem T.frame {t : Sem α} {Q : α → Mem → Prop} {D : Addr} {vs : List Value} (hD : mem D = some (.list vs)) (h : T c n t (hide mem D) (fun v m' => m' D = none → Q v (upd m' D (.list vs)))) : T c n t mem Q := fun A s r R => by
  have hown : ∀ d a, mem d = some (.own a) → d ≠ D := fun d a e q => by rw [q, hD] at e; cases e
  have R' : Rep c (hide mem D) s.heap := ⟨R.base, R.stay, fun a o e => (R.at_ a o (hide_le a o e)).stays (fun _ q => q) fun d hd => ⟨by rw [hide_ne (hown d a hd)]; exact hd, fun _ q => q⟩, fun a o e => R.new a o (hide_le a o e)⟩
  have hDi : Is c mem s.heap D (.list vs) := R.at_ D _ hD
  obtain ⟨us, k, eD, eu⟩ := hDi
  refine wpAny_mono (h A s r R') (fun v s' ⟨m', N, q⟩ => ?_) fun _ _ f => f
  have hm' : m' D = none := N.kp.off eD hide_same
  refine ⟨upd m' D (.list vs), ⟨⟨N.rep.base, N.rep.stay, fun a o e => ?_, fun a o e => ?_⟩, ⟨fun a o e q1 => ?_, fun a q1 q2 => ?_⟩, N.shape⟩, q hm'⟩
  · by_cases h1 : a = D
    · subst h1
      rw [upd_same] at e; cases e
      exact ⟨us, k, N.kp.keep _ _ eD hide_same, eu⟩
    · rw [upd_ne h1] at e
      exact (N.rep.at_ a o e).stays (fun _ q => q) fun d hd => ⟨by rw [upd_ne (by rintro rfl; rw [hm'] at hd; cases hd)]; exact hd, fun _ q => q⟩
  · by_cases h1 : a = D
    · subst h1
      rw [upd_same] at e; cases e
      exact R.new _ _ hD
    · rw [upd_ne h1] at e
      exact N.rep.new a o e
  · have h1 : a ≠ D := by rintro rfl; rw [hD] at q1; cases q1
    exact N.kp.keep a o e (by rw [hide_ne h1]; exact q1)
  · have h1 : a ≠ D := by rintro rfl; rw [hD] at q1; cases q1
    rw [upd_ne h1] at q2
    exact N.kp.fresh a (by rw [hide_ne h1]; exact q1) q2
theorem Cal.frame {fv : Value} {as : List Value} {Q : Value → Mem → Prop} {D : Addr} {vs : List Value} (hD : mem D = some (.list vs)) (h : Cal c n fv as (hide mem D) (fun v m' => m' D = none → Q v (upd m' D (.list vs)))) : Cal c n fv as mem Q :=
  fun f' vs' h1 h2 => T.frame hD (h f' vs' h1 h2)
end
end Mine
end
section
-- F29
set_option maxRecDepth 100000
set_option maxHeartbeats 400000
set_option autoImplicit false
set_option linter.unusedVariables false
set_option linter.unusedSimpArgs false
namespace Mine
open PySem PySem.W PySem.Calls PyProof.Rows
section
variable {w : World} {h₀ : Heap} {n : Nat} {mem : Mem} {Q : Value → Mem → Prop}
noncomputable abbrev lawF : Fs := ⟨(topDef 34).2.2, true⟩
theorem sts_as {c : Cx} {f : Fs} {ρ : Loc} {N : Loc → Mem → Prop} {R : Value → Mem → Prop} {l l' : List Stmt} (e : l' = l) (h : Sts c n f ρ l' mem N R) : Sts c n f ρ l mem N R := e ▸ h
/-- what the draws leave -/
structure Drawn (m : Mem) (sl tl bl : Addr) (k : Nat) (bs : List Bd) : Prop where
  src : SrcAt m sl
  k3 : k ≤ 6
  tops : m tl = some (.list (sL (tNames k)))
  binds : BindsAt m bl bs
  xs : bs.map Bd.x = tNames k
  size : ∀ b ∈ bs, b.e.size ≤ 60
  params : ∀ b ∈ bs, b.e.params.length ≤ 2
theorem law_one {l : Addr} {ns : List Int} (hs : LstAt mem l (iL ns)) (hl : ns.length ≤ 1000)
    (h : ∀ sl tl bl k bs m', Drawn m' sl tl bl k bs → Sts (cx w h₀) (n + 299) lawF [("binds", .ref bl), ("tops", .ref tl), ("source", .ref sl)] ((topDef 34).2.1.drop 3) m' (fun _ m => Q .none m) Q) : CodeCal (cx w h₀) (n + 300) 486 [.ref l] mem Q := by
  refine code_fc ["script"] lk_law cd_law rfl (vals1 fun _ => by kernel_rfl) (by kernel_rfl) (by kernel_rfl) ?_
  have nl0 : isL (⟨(topDef 34).2.2, true⟩ : Fs) "script" := by kernel_rfl
  have nl1 : isL (⟨(topDef 34).2.2, true⟩ : Fs) "turning" := by kernel_rfl
  have nl2 : isL (⟨(topDef 34).2.2, true⟩ : Fs) "cells" := by kernel_rfl
  have nl3 : isL (⟨(topDef 34).2.2, true⟩ : Fs) "most" := by kernel_rfl
  have nl4 : isL (⟨(topDef 34).2.2, true⟩ : Fs) "fresh" := by kernel_rfl
  have nl5 : isL (⟨(topDef 34).2.2, true⟩ : Fs) "functions" := by kernel_rfl
  have nl6 : isL (⟨(topDef 34).2.2, true⟩ : Fs) "far" := by kernel_rfl
  have nl7 : isL (⟨(topDef 34).2.2, true⟩ : Fs) "node" := by kernel_rfl
  have nl8 : isL (⟨(topDef 34).2.2, true⟩ : Fs) "name" := by kernel_rfl
  have nl9 : isL (⟨(topDef 34).2.2, true⟩ : Fs) "value" := by kernel_rfl
  have nl10 : isL (⟨(topDef 34).2.2, true⟩ : Fs) "is_plain_top" := by kernel_rfl
  have nl11 : isL (⟨(topDef 34).2.2, true⟩ : Fs) "many" := by kernel_rfl
  have nl12 : isL (⟨(topDef 34).2.2, true⟩ : Fs) "asked" := by kernel_rfl
  have nl13 : isL (⟨(topDef 34).2.2, true⟩ : Fs) "later" := by kernel_rfl
  have nl14 : isL (⟨(topDef 34).2.2, true⟩ : Fs) "is_let" := by kernel_rfl
  have nl15 : isG (⟨(topDef 34).2.2, true⟩ : Fs) "_law_pool" := by kernel_rfl
  have nl16 : isG (⟨(topDef 34).2.2, true⟩ : Fs) "range" := by kernel_rfl
  have nl17 : isG (⟨(topDef 34).2.2, true⟩ : Fs) "_law_take" := by kernel_rfl
  have nl18 : isG (⟨(topDef 34).2.2, true⟩ : Fs) "sorted" := by kernel_rfl
  have nl19 : isG (⟨(topDef 34).2.2, true⟩ : Fs) "recursive_names" := by kernel_rfl
  have nl20 : isG (⟨(topDef 34).2.2, true⟩ : Fs) "arities_of" := by kernel_rfl
  have nl21 : isG (⟨(topDef 34).2.2, true⟩ : Fs) "dict" := by kernel_rfl
  have nl22 : isG (⟨(topDef 34).2.2, true⟩ : Fs) "cells_of" := by kernel_rfl
  have nl23 : isG (⟨(topDef 34).2.2, true⟩ : Fs) "Fresh" := by kernel_rfl
  have nl24 : isG (⟨(topDef 34).2.2, true⟩ : Fs) "TopFunctions" := by kernel_rfl
  have nl25 : isG (⟨(topDef 34).2.2, true⟩ : Fs) "App" := by kernel_rfl
  have nl26 : isG (⟨(topDef 34).2.2, true⟩ : Fs) "Var" := by kernel_rfl
  have nl27 : isG (⟨(topDef 34).2.2, true⟩ : Fs) "Lit" := by kernel_rfl
  have nl28 : isG (⟨(topDef 34).2.2, true⟩ : Fs) "Con" := by kernel_rfl
  have nl29 : isG (⟨(topDef 34).2.2, true⟩ : Fs) "isinstance" := by kernel_rfl
  have nl30 : isG (⟨(topDef 34).2.2, true⟩ : Fs) "Lam" := by kernel_rfl
  have nl31 : isG (⟨(topDef 34).2.2, true⟩ : Fs) "_law_many" := by kernel_rfl
  have nl32 : isG (⟨(topDef 34).2.2, true⟩ : Fs) "len" := by kernel_rfl
  have nl33 : isG (⟨(topDef 34).2.2, true⟩ : Fs) "size_of" := by kernel_rfl
  have nl34 : isG (⟨(topDef 34).2.2, true⟩ : Fs) "min" := by kernel_rfl
  have nl35 : isC (⟨(topDef 34).2.2, true⟩ : Fs) "source" := by kernel_rfl
  have nl36 : isC (⟨(topDef 34).2.2, true⟩ : Fs) "tops" := by kernel_rfl
  have nl37 : isC (⟨(topDef 34).2.2, true⟩ : Fs) "binds" := by kernel_rfl
  have nl38 : isC (⟨(topDef 34).2.2, true⟩ : Fs) "told" := by kernel_rfl
  (walk_at "GO")
  refine ev_call (ev_global g__law_pool (by assumption) ⟨callee_K ke__law_pool, ?_⟩) rfl
  (walk_at "GO")
  refine (pool_ok (n := n + 297) hs hl fun sl m1 hsl g1 s1 => ?_).cal
  (walk_at "GO")
  refine st_assignC ?_ (by kernel_rfl) (by rfl) (by rfl)
  refine ev_comp [] (by kernel_rfl) (fun p hp => by cases hp) ?_
  refine ev_call (ev_builtin gn_range bb_range (by assumption) ⟨callee_type, ?_⟩ (by decide) (by decide)) rfl
  (walk_at "GO")
  refine ev_call (ev_global g__law_take (by assumption) ⟨callee_K ke__law_take, ?_⟩) rfl
  (walk_at "GO")
  refine (take_ok (n := n + 297) s1 (by decide) (by decide) fun d m2 g2 s2 d0 d1 => ?_).cal
  (walk_at "GO")
  refine cal_range1 fun rg hrg => ?_
  have s3 : SrcAt (upd m2 rg (.rng 0 (3 + d))) sl := s2.grow (Grow.upd hrg)
  have r3 : upd m2 rg (.rng 0 (3 + d)) rg = some (.rng 0 (3 + d)) := upd_same
  generalize upd m2 rg (.rng 0 (3 + d)) = m3 at s3 r3 ⊢
  obtain ⟨k, hk⟩ : ∃ k : Nat, 3 + d = (k : Int) := ⟨(3 + d).toNat, by omega⟩
  rw [hk] at r3
  have hk6 : k ≤ 6 := by omega
  refine ⟨rngVals 0 k, .rng 0 k, .inr ⟨rg, 0, k, rfl, r3, by omega, by omega, by omega, by omega, rfl, rfl⟩, fun i out D m => Grow m3 m ∧ m3 D = none ∧ m D = some (.list out) ∧ i ≤ k ∧ out = sL (tNames i), ?_, ?_, ?_, ?_⟩
  · intro D hD
    exact ⟨Grow.upd hD, hD, upd_same, Nat.zero_le _, rfl⟩
  · rintro i out D m ⟨y1, y2, y3, y4, rfl⟩
    exact ⟨rfl, y3, by simp [sL, tNames]; omega⟩
  · rintro i x out D m hx' ⟨y1, y2, y3, y4, rfl⟩
    obtain ⟨rfl, hi⟩ := rng_get hx'
    have hi' : i < k := by simpa using hi
    rw [Int.zero_add]
    refine as_name (sto_local (comp_local (by kernel_rfl)) (ifs_nil (iteT ?_)))
    refine ev_binop (ev_str (ev_call (ev_builtin gn_str bb_str (by kernel_rfl) ⟨callee_type, ?_⟩ (by decide) (by decide)) rfl))
    refine evs_cons (ev_local rfl (comp_local (by kernel_rfl)) (evs_nil ?_)) rfl
    refine cal_strInt (small_log (by omega)) ?_
    refine bin_addS (tName_len (by omega)) ?_
    refine ⟨y3, y1.set y2, y2, upd_same, hi', ?_⟩
    simp [tNames, List.range_succ, sL, tName]
  rintro tl out m4 ⟨y1, y2, y3, _, rfl⟩
  have hkk : (rngVals 0 (k : Int)).length = k := by simp [rngVals]
  rw [hkk] at y3
  have s4 : SrcAt m4 sl := s3.grow y1
  have t4 : m4 tl = some (.list (sL (tNames k))) := y3
  clear y1 y2 y3 s3 r3 s2 g2 hrg m3 s1 g1
  (walk_at "GO")
  refine st_assignC ?_ (by kernel_rfl) (by rfl) (by rfl)
  refine ev_comp [("source", .ref sl), ("tops", .ref tl)] (by kernel_rfl) (List.forall_mem_cons.mpr ⟨⟨rfl, by kernel_rfl⟩, List.forall_mem_cons.mpr ⟨⟨rfl, by kernel_rfl⟩, List.forall_mem_nil _⟩⟩) ?_
  have htn : tl ≠ sl := s4.ne t4 fun p q => sL_ne p q
  have hlen : (tNames k).length = k := by simp [tNames]
  refine ev_cell rfl (by with_reducible assumption) ⟨_, _, .inl ⟨tl, rfl, .inl t4, rfl⟩, fun i out D m => m D = some (.list out) ∧ m4 D = none ∧ i ≤ k ∧ out.length = i ∧ GrowX sl m4 (hide m D) ∧ SrcAt (hide m D) sl ∧ ∃ (bs : List Bd) (ts : List Addr), out = refs ts ∧ bs.map Bd.x = (tNames k).take i ∧ (∀ (j : Nat) (b : Bd), bs[j]? = some b → ∃ t, ts[j]? = some t ∧ hide m D t = some (.tup [.str b.x 0, .ref b.a])) ∧ ∀ b ∈ bs, ExAt (hide m D) b.a b.e ∧ b.e.size ≤ 60 ∧ b.e.params.length ≤ 2, ?_, ?_, ?_, ?_⟩
  · intro D hD
    have hh : hide (upd m4 D (.list [])) D = m4 := by
      funext b
      by_cases h : b = D
      · rw [h, hide_same, hD]
      · rw [hide_ne h, upd_ne h]
    rw [hh]
    exact ⟨upd_same, hD, Nat.zero_le _, rfl, GrowX.refl _ _, s4, [], [], rfl, rfl, (fun j b e => by cases e), (fun b hb => by cases hb)⟩
  · rintro i out D m ⟨y1, y2, y3, y4, y5, _⟩
    exact ⟨.inl (hide_le _ _ (y5 _ _ htn t4)), y1, by omega⟩
  · rintro i x out D m hx' ⟨y1, y2, y3, y4, y5, y6, bs, ts, rfl, y7, y8, y9⟩
    have hi' : i < k := by have := (List.getElem?_eq_some_iff.mp hx').1; simpa [sL, hlen] using this
    rw [sL, List.getElem?_map] at hx'
    obtain ⟨z, hz, rfl⟩ := Option.map_eq_some_iff.mp hx'
    have hDs : D ≠ sl := by rintro rfl; obtain ⟨_, _, q, _⟩ := s4; rw [y2] at q; cases q
    refine as_name (sto_local (comp_local (by kernel_rfl)) (ifs_nil (iteT ?_)))
    refine ev_tuple (evs_cons (ev_local rfl (comp_local (by kernel_rfl)) ?_) rfl)
    refine evs_cons (ev_call (ev_global g__law_top (by kernel_rfl) ⟨callee_K ke__law_top, ?_⟩) rfl) rfl
    refine evs_cons (ev_cell rfl (by kernel_rfl) (evs_cons (ev_cell rfl (by kernel_rfl) (evs_nil ?_)) rfl)) rfl
    refine Cal.frame y1 ((top_ok (n := n + 293) y6 (.inl (y5 _ _ htn t4)) (by omega) (by omega) fun r e m5 g5 s5 he hz1 hz2 hD5 => ?_).cal)
    refine evs_nil ⟨by simp, fun t ht => ?_⟩
    have htD : t ≠ D := by rintro rfl; rw [upd_same] at ht; cases ht
    have ht5 : m5 t = none := by rw [upd_ne htD] at ht; exact ht
    have eD : upd (upd m5 D (.list (refs ts))) t (.tup [.str z 0, .ref r]) D = some (.list (refs ts)) := by rw [upd_ne (Ne.symm htD), upd_same]
    have hh : hide (upd (upd (upd m5 D (.list (refs ts))) t (.tup [.str z 0, .ref r])) D (.list (refs ts ++ [.ref t]))) D = upd m5 t (.tup [.str z 0, .ref r]) := by
      funext b
      by_cases h : b = D
      · rw [h, hide_same, upd_ne (Ne.symm htD), hD5]
      · rw [hide_ne h, upd_ne h]
        by_cases h2 : b = t
        · rw [h2, upd_same, upd_same]
        · rw [upd_ne h2, upd_ne h2, upd_ne h]
    have g6 : Grow m5 (upd m5 t (.tup [.str z 0, .ref r])) := Grow.upd ht5
    refine ⟨eD, upd_same, y2, hi', by simp [refs] at y4 ⊢; omega, ?_⟩
    rw [hh]
    have htsl : ts.length = i := by simpa [refs] using y4
    have hbl : bs.length = i := by
      have := congrArg List.length y7
      simp [hlen] at this; omega
    refine ⟨(y5.trans g5).trans g6.x, s5.grow g6, bs ++ [⟨z, r, e⟩], ts ++ [t], by simp [refs], ?_, fun j b e1 => ?_, fun b hb => ?_⟩
    · rw [List.map_append, y7, List.take_add_one, hz]; rfl
    · by_cases hj : j < bs.length
      · rw [List.getElem?_append_left hj] at e1
        obtain ⟨t', q1, q2⟩ := y8 j b e1
        have : t' ≠ sl := y6.ne q2 fun p q e => by cases e
        exact ⟨t', by rw [List.getElem?_append_left (by omega)]; exact q1, g6 _ _ (g5 _ _ this q2)⟩
      · have hj' : j = bs.length := by
          have := (List.getElem?_eq_some_iff.mp e1).1
          simp at this; omega
        subst hj'
        simp at e1
        subst e1
        exact ⟨t, by rw [hbl, ← htsl]; simp, upd_same⟩
    · rcases List.mem_append.mp hb with hb | hb
      · obtain ⟨q1, q2, q3⟩ := y9 b hb
        exact ⟨(q1.growX y6 g5).grow g6, q2, q3⟩
      · rcases List.mem_singleton.mp hb with rfl
        exact ⟨he.grow g6, hz1, hz2⟩
  rintro bl out m5 ⟨y1, y2, _, y4, y5, y6, bs, ts, rfl, y7, y8, y9⟩
  rw [show (sL (tNames k)).length = k from by simp [sL, hlen]] at y4 y7
  rw [List.take_of_length_le (by omega)] at y7
  have hbl : bs.length = k := by
    have := congrArg List.length y7
    simp [hlen] at this; omega
  refine as_name (sto_cell (by with_reducible assumption) rfl ?_)
  refine sts_as (l' := (topDef 34).2.1.drop 3) (by kernel_rfl) (Sts.weaken [("binds", .ref bl), ("tops", .ref tl), ("source", .ref sl)] (by walk_at "WEAK") (h sl tl bl k bs m5 ⟨y6.grow hide_le, hk6, hide_le _ _ (y5 _ _ htn t4), ⟨⟨ts, y1, ?_, fun i x v e => ?_⟩, fun b hb => (y9 b hb).1.grow hide_le⟩, y7, fun b hb => (y9 b hb).2.1, fun b hb => (y9 b hb).2.2⟩))
  · simp [refs] at y4 ⊢; omega
  · rw [List.getElem?_map] at e
    obtain ⟨b, hb, e2⟩ := Option.map_eq_some_iff.mp e
    cases e2
    obtain ⟨t, q1, q2⟩ := y8 i b hb
    exact ⟨t, q1, hide_le _ _ q2⟩
end
end Mine
end
section
-- F30
set_option maxRecDepth 100000
set_option maxHeartbeats 400000
set_option autoImplicit false
set_option linter.unusedVariables false
set_option linter.unusedSimpArgs false
namespace Mine
open PySem PySem.W PySem.Calls PyProof.Rows
theorem Drawn.grow {m m' : Mem} {sl tl bl : Addr} {k : Nat} {bs : List Bd} (D : Drawn m sl tl bl k bs) (g : Grow m m') : Drawn m' sl tl bl k bs :=
  ⟨D.src.grow g, D.k3, g _ _ D.tops, D.binds.grow g, D.xs, D.size, D.params⟩
theorem Drawn.nodup {m : Mem} {sl tl bl : Addr} {k : Nat} {bs : List Bd} (D : Drawn m sl tl bl k bs) : (bs.map Bd.x).Nodup := by rw [D.xs]; exact tNames_nodup D.k3
theorem Drawn.len {m : Mem} {sl tl bl : Addr} {k : Nat} {bs : List Bd} (D : Drawn m sl tl bl k bs) : bs.length ≤ 6 := by
  have := congrArg List.length D.xs
  simp [tNames] at this
  have := D.k3; omega
section
variable {w : World} {h₀ : Heap} {n : Nat} {mem : Mem} {Q : Value → Mem → Prop}
theorem law_two {sl tl bl : Addr} {k : Nat} {bs : List Bd} (D : Drawn mem sl tl bl k bs)
    (h : ∀ tn turn m', Drawn m' sl tl bl k bs → m' tn = some (.list (sL turn)) → turn.Nodup → (∀ x, x ∈ turn ↔ x ∈ bs.map Bd.x ∧ Led bs x x) → Sts (cx w h₀) (n + 299) lawF [("turning", .ref tn), ("binds", .ref bl), ("tops", .ref tl), ("source", .ref sl)] ((topDef 34).2.1.drop 5) m' (fun _ m => Q .none m) Q) :
    Sts (cx w h₀) (n + 299) lawF [("binds", .ref bl), ("tops", .ref tl), ("source", .ref sl)] ((topDef 34).2.1.drop 3) mem (fun _ m => Q .none m) Q := by
  have nl0 : isL (⟨(topDef 34).2.2, true⟩ : Fs) "script" := by kernel_rfl
  have nl1 : isL (⟨(topDef 34).2.2, true⟩ : Fs) "turning" := by kernel_rfl
  have nl2 : isL (⟨(topDef 34).2.2, true⟩ : Fs) "cells" := by kernel_rfl
  have nl3 : isL (⟨(topDef 34).2.2, true⟩ : Fs) "most" := by kernel_rfl
  have nl4 : isL (⟨(topDef 34).2.2, true⟩ : Fs) "fresh" := by kernel_rfl
  have nl5 : isL (⟨(topDef 34).2.2, true⟩ : Fs) "functions" := by kernel_rfl
  have nl6 : isL (⟨(topDef 34).2.2, true⟩ : Fs) "far" := by kernel_rfl
  have nl7 : isL (⟨(topDef 34).2.2, true⟩ : Fs) "node" := by kernel_rfl
  have nl8 : isL (⟨(topDef 34).2.2, true⟩ : Fs) "name" := by kernel_rfl
  have nl9 : isL (⟨(topDef 34).2.2, true⟩ : Fs) "value" := by kernel_rfl
  have nl10 : isL (⟨(topDef 34).2.2, true⟩ : Fs) "is_plain_top" := by kernel_rfl
  have nl11 : isL (⟨(topDef 34).2.2, true⟩ : Fs) "many" := by kernel_rfl
  have nl12 : isL (⟨(topDef 34).2.2, true⟩ : Fs) "asked" := by kernel_rfl
  have nl13 : isL (⟨(topDef 34).2.2, true⟩ : Fs) "later" := by kernel_rfl
  have nl14 : isL (⟨(topDef 34).2.2, true⟩ : Fs) "is_let" := by kernel_rfl
  have nl15 : isG (⟨(topDef 34).2.2, true⟩ : Fs) "_law_pool" := by kernel_rfl
  have nl16 : isG (⟨(topDef 34).2.2, true⟩ : Fs) "range" := by kernel_rfl
  have nl17 : isG (⟨(topDef 34).2.2, true⟩ : Fs) "_law_take" := by kernel_rfl
  have nl18 : isG (⟨(topDef 34).2.2, true⟩ : Fs) "sorted" := by kernel_rfl
  have nl19 : isG (⟨(topDef 34).2.2, true⟩ : Fs) "recursive_names" := by kernel_rfl
  have nl20 : isG (⟨(topDef 34).2.2, true⟩ : Fs) "arities_of" := by kernel_rfl
  have nl21 : isG (⟨(topDef 34).2.2, true⟩ : Fs) "dict" := by kernel_rfl
  have nl22 : isG (⟨(topDef 34).2.2, true⟩ : Fs) "cells_of" := by kernel_rfl
  have nl23 : isG (⟨(topDef 34).2.2, true⟩ : Fs) "Fresh" := by kernel_rfl
  have nl24 : isG (⟨(topDef 34).2.2, true⟩ : Fs) "TopFunctions" := by kernel_rfl
  have nl25 : isG (⟨(topDef 34).2.2, true⟩ : Fs) "App" := by kernel_rfl
  have nl26 : isG (⟨(topDef 34).2.2, true⟩ : Fs) "Var" := by kernel_rfl
  have nl27 : isG (⟨(topDef 34).2.2, true⟩ : Fs) "Lit" := by kernel_rfl
  have nl28 : isG (⟨(topDef 34).2.2, true⟩ : Fs) "Con" := by kernel_rfl
  have nl29 : isG (⟨(topDef 34).2.2, true⟩ : Fs) "isinstance" := by kernel_rfl
  have nl30 : isG (⟨(topDef 34).2.2, true⟩ : Fs) "Lam" := by kernel_rfl
  have nl31 : isG (⟨(topDef 34).2.2, true⟩ : Fs) "_law_many" := by kernel_rfl
  have nl32 : isG (⟨(topDef 34).2.2, true⟩ : Fs) "len" := by kernel_rfl
  have nl33 : isG (⟨(topDef 34).2.2, true⟩ : Fs) "size_of" := by kernel_rfl
  have nl34 : isG (⟨(topDef 34).2.2, true⟩ : Fs) "min" := by kernel_rfl
  have nl35 : isC (⟨(topDef 34).2.2, true⟩ : Fs) "source" := by kernel_rfl
  have nl36 : isC (⟨(topDef 34).2.2, true⟩ : Fs) "tops" := by kernel_rfl
  have nl37 : isC (⟨(topDef 34).2.2, true⟩ : Fs) "binds" := by kernel_rfl
  have nl38 : isC (⟨(topDef 34).2.2, true⟩ : Fs) "told" := by kernel_rfl
  have hlen : (tNames k).length = k := by simp [tNames]
  have hk3 := D.k3
  refine sts_cons ?_
  refine st_comp [("binds", .ref bl)] (by kernel_rfl) (by kernel_rfl) (List.forall_mem_cons.mpr ⟨⟨rfl, by kernel_rfl⟩, List.forall_mem_nil _⟩) ?_
  refine ev_cell rfl (by with_reducible assumption) ⟨_, _, .inl ⟨tl, rfl, .inl D.tops, rfl⟩, fun i out d m => Grow mem m ∧ mem d = none ∧ m d = some (.list out) ∧ ∃ xs : List Str, out = sL xs ∧ xs.Sublist ((tNames k).take i) ∧ ∀ x, x ∈ xs ↔ x ∈ (tNames k).take i ∧ Led bs x x, ?_, ?_, ?_, ?_⟩
  · intro d hd
    exact ⟨Grow.upd hd, hd, upd_same, [], rfl, by simp, fun x => by simp⟩
  · rintro i out d m ⟨y1, y2, y3, xs, rfl, y4, y5⟩
    refine ⟨.inl (y1 _ _ D.tops), y3, ?_⟩
    have := y4.length_le
    simp [sL] at this ⊢; omega
  · rintro i x out d m hx' ⟨y1, y2, y3, xs, rfl, y4, y5⟩
    have hi' : i < k := by have := (List.getElem?_eq_some_iff.mp hx').1; simpa [sL, hlen] using this
    rw [sL, List.getElem?_map] at hx'
    obtain ⟨z, hz, rfl⟩ := Option.map_eq_some_iff.mp hx'
    refine as_name (sto_local (comp_local (by kernel_rfl)) (ifs_one (tst_cmp ?_ (by with_unfolding_all rfl))))
    refine ev_local rfl (comp_local (by kernel_rfl)) ?_
    refine ev_call (ev_global g__law_led (by kernel_rfl) ⟨callee_K ke__law_led, ?_⟩) rfl
    refine evs_cons (ev_cell rfl (by kernel_rfl) (evs_cons (ev_local rfl (comp_local (by kernel_rfl)) (evs_nil ?_)) rfl)) rfl
    have hzx : z ∈ bs.map Bd.x := by rw [D.xs]; exact List.mem_of_getElem? hz
    refine (led_ok (n := n + 49) (D.binds.grow y1) (by have := D.len; omega) D.size D.nodup hzx fun r m1 ls r1 g1 r2 r3 r4 => ?_).cal
    refine cmp_inL (.inl r2) (tru_bool ?_)
    have hmem : ∀ x, x ∈ (tNames k).take (i + 1) ↔ x ∈ (tNames k).take i ∨ x = z := fun x => take_succ_mem hz
    have hz0 : (tNames k).take (i + 1) = (tNames k).take i ++ [z] := by rw [List.take_add_one, hz]; rfl
    by_cases hzl : z ∈ ls
    · rw [decide_eq_true hzl]
      refine iteT ?_
      refine ev_local rfl (comp_local (by kernel_rfl)) ⟨g1 _ _ y3, (y1.trans g1).set y2, y2, upd_same, xs ++ [z], by simp [sL], ?_, fun x => ?_⟩
      · rw [hz0]; exact y4.append (List.Sublist.refl _)
      · rw [hmem, List.mem_append, y5, List.mem_singleton]
        constructor
        · rintro (⟨q1, q2⟩ | rfl)
          · exact ⟨.inl q1, q2⟩
          · exact ⟨.inr rfl, (r4 x).mp hzl⟩
        · rintro ⟨q1 | rfl, q2⟩
          · exact .inl ⟨q1, q2⟩
          · exact .inr rfl
    · rw [decide_eq_false hzl]
      refine iteF ⟨y1.trans g1, y2, g1 _ _ y3, xs, rfl, ?_, fun x => ?_⟩
      · rw [hz0]; exact y4.trans (List.sublist_append_left _ _)
      · rw [hmem, y5]
        constructor
        · rintro ⟨q1, q2⟩; exact ⟨.inl q1, q2⟩
        · rintro ⟨q1 | rfl, q2⟩
          · exact ⟨q1, q2⟩
          · exact absurd ((r4 x).mpr q2) hzl
  rintro tn out m1 ⟨g1, _, y3, turn, rfl, y4, y5⟩
  rw [show (sL (tNames k)).length = k from by simp [sL, hlen], List.take_of_length_le (by omega)] at y4 y5
  have hnt : turn.Nodup := y4.nodup (tNames_nodup hk3)
  have ht : ∀ x, x ∈ turn ↔ x ∈ bs.map Bd.x ∧ Led bs x x := fun x => by rw [D.xs]; exact y5 x
  have D1 := D.grow g1
  refine sto_local (by with_reducible assumption) ?_
  refine sts_cons (st_if ?_)
  (walk_at "GO")
  refine ev_call (ev_builtin gn_sorted bb_sorted (by assumption) ⟨callee_builtin, ?_⟩ (by decide) (by decide)) rfl
  (walk_at "GO")
  refine ev_call (ev_global g_recursive_names (by assumption) ⟨callee_K ke_recursive_names, ?_⟩) rfl
  (walk_at "GO")
  refine (recursive_ok (n := n + 293) D1.binds (by have := D.len; omega) D.size D.nodup fun r ks m2 r1 g2 r2 r3 r4 => ?_).cal
  (walk_at "GO")
  have hks : ks.length ≤ 6 := Nat.le_trans (nodup_le r3 fun x hx => ((r4 x).mp hx).1) (by have := D.len; simpa using this)
  refine cal_sortedD r2 (by rw [dmap_len]; omega) fun s1 ys1 s2 s3 s4 => ?_
  have s3' : ys1.Perm ks := by simpa [dmap, Function.comp_def] using s3
  have g3 : Grow m2 (upd m2 s1 (.list (sL ys1))) := Grow.upd s2
  have e3 : upd m2 s1 (.list (sL ys1)) s1 = some (.list (sL ys1)) := upd_same
  generalize upd m2 s1 (.list (sL ys1)) = m3 at g3 e3 ⊢
  refine ev_call (ev_builtin gn_sorted bb_sorted (by assumption) ⟨callee_builtin, ?_⟩ (by decide) (by decide)) rfl
  (walk_at "GO")
  have htl : turn.length ≤ 6 := by have := y4.length_le; omega
  refine cal_sortedS (.inl (g3 _ _ (g2 _ _ y3))) (by omega) fun s5 ys2 s6 s7 s8 => ?_
  have hsame : ys1 = ys2 := sorted_same s3' s4 s7 s8 r3 hnt fun x => by rw [r4, ht]
  subst hsame
  refine cmp_neSame (.inl (Grow.upd s6 _ _ e3)) (.inl upd_same) ?_
  (walk_at "GO")
  refine sts_nil ?_
  have gg := (g2.trans g3).trans (Grow.upd (o := .list (sL ys1)) s6)
  refine sts_as (l' := (topDef 34).2.1.drop 5) (by kernel_rfl) (Sts.weaken [("turning", .ref tn), ("binds", .ref bl), ("tops", .ref tl), ("source", .ref sl)] (by walk_at "WEAK") (h tn turn _ (D1.grow gg) (gg _ _ y3) hnt ht))
end
end Mine
end
section
-- F31
set_option maxRecDepth 100000
set_option maxHeartbeats 400000
set_option autoImplicit false
set_option linter.unusedVariables false
set_option linter.unusedSimpArgs false
namespace Mine
open PySem PySem.W PySem.Calls PyProof.Rows
section
variable {w : World} {h₀ : Heap} {n : Nat} {mem : Mem} {Q : Value → Mem → Prop}
theorem law_three {sl tl bl tn : Addr} {k : Nat} {bs : List Bd} (D : Drawn mem sl tl bl k bs)
    (h : ∀ m' cn td cs, Grow mem m' → cs = (cellsL bs).map Bd.x → m' cn = some (.list (sL cs)) → m' td = some (.dict ((cellsL bs).map Bd.pair)) →
      Sts (cx w h₀) (n + 299) lawF [("told", .ref td), ("cells", .ref cn), ("turning", .ref tn), ("binds", .ref bl), ("tops", .ref tl), ("source", .ref sl)] ((topDef 34).2.1.drop 8) m' (fun _ m => Q .none m) Q) :
    Sts (cx w h₀) (n + 299) lawF [("turning", .ref tn), ("binds", .ref bl), ("tops", .ref tl), ("source", .ref sl)] ((topDef 34).2.1.drop 5) mem (fun _ m => Q .none m) Q := by
  have nl0 : isL (⟨(topDef 34).2.2, true⟩ : Fs) "script" := by kernel_rfl
  have nl1 : isL (⟨(topDef 34).2.2, true⟩ : Fs) "turning" := by kernel_rfl
  have nl2 : isL (⟨(topDef 34).2.2, true⟩ : Fs) "cells" := by kernel_rfl
  have nl3 : isL (⟨(topDef 34).2.2, true⟩ : Fs) "most" := by kernel_rfl
  have nl4 : isL (⟨(topDef 34).2.2, true⟩ : Fs) "fresh" := by kernel_rfl
  have nl5 : isL (⟨(topDef 34).2.2, true⟩ : Fs) "functions" := by kernel_rfl
  have nl6 : isL (⟨(topDef 34).2.2, true⟩ : Fs) "far" := by kernel_rfl
  have nl7 : isL (⟨(topDef 34).2.2, true⟩ : Fs) "node" := by kernel_rfl
  have nl8 : isL (⟨(topDef 34).2.2, true⟩ : Fs) "name" := by kernel_rfl
  have nl9 : isL (⟨(topDef 34).2.2, true⟩ : Fs) "value" := by kernel_rfl
  have nl10 : isL (⟨(topDef 34).2.2, true⟩ : Fs) "is_plain_top" := by kernel_rfl
  have nl11 : isL (⟨(topDef 34).2.2, true⟩ : Fs) "many" := by kernel_rfl
  have nl12 : isL (⟨(topDef 34).2.2, true⟩ : Fs) "asked" := by kernel_rfl
  have nl13 : isL (⟨(topDef 34).2.2, true⟩ : Fs) "later" := by kernel_rfl
  have nl14 : isL (⟨(topDef 34).2.2, true⟩ : Fs) "is_let" := by kernel_rfl
  have nl15 : isG (⟨(topDef 34).2.2, true⟩ : Fs) "_law_pool" := by kernel_rfl
  have nl16 : isG (⟨(topDef 34).2.2, true⟩ : Fs) "range" := by kernel_rfl
  have nl17 : isG (⟨(topDef 34).2.2, true⟩ : Fs) "_law_take" := by kernel_rfl
  have nl18 : isG (⟨(topDef 34).2.2, true⟩ : Fs) "sorted" := by kernel_rfl
  have nl19 : isG (⟨(topDef 34).2.2, true⟩ : Fs) "recursive_names" := by kernel_rfl
  have nl20 : isG (⟨(topDef 34).2.2, true⟩ : Fs) "arities_of" := by kernel_rfl
  have nl21 : isG (⟨(topDef 34).2.2, true⟩ : Fs) "dict" := by kernel_rfl
  have nl22 : isG (⟨(topDef 34).2.2, true⟩ : Fs) "cells_of" := by kernel_rfl
  have nl23 : isG (⟨(topDef 34).2.2, true⟩ : Fs) "Fresh" := by kernel_rfl
  have nl24 : isG (⟨(topDef 34).2.2, true⟩ : Fs) "TopFunctions" := by kernel_rfl
  have nl25 : isG (⟨(topDef 34).2.2, true⟩ : Fs) "App" := by kernel_rfl
  have nl26 : isG (⟨(topDef 34).2.2, true⟩ : Fs) "Var" := by kernel_rfl
  have nl27 : isG (⟨(topDef 34).2.2, true⟩ : Fs) "Lit" := by kernel_rfl
  have nl28 : isG (⟨(topDef 34).2.2, true⟩ : Fs) "Con" := by kernel_rfl
  have nl29 : isG (⟨(topDef 34).2.2, true⟩ : Fs) "isinstance" := by kernel_rfl
  have nl30 : isG (⟨(topDef 34).2.2, true⟩ : Fs) "Lam" := by kernel_rfl
  have nl31 : isG (⟨(topDef 34).2.2, true⟩ : Fs) "_law_many" := by kernel_rfl
  have nl32 : isG (⟨(topDef 34).2.2, true⟩ : Fs) "len" := by kernel_rfl
  have nl33 : isG (⟨(topDef 34).2.2, true⟩ : Fs) "size_of" := by kernel_rfl
  have nl34 : isG (⟨(topDef 34).2.2, true⟩ : Fs) "min" := by kernel_rfl
  have nl35 : isC (⟨(topDef 34).2.2, true⟩ : Fs) "source" := by kernel_rfl
  have nl36 : isC (⟨(topDef 34).2.2, true⟩ : Fs) "tops" := by kernel_rfl
  have nl37 : isC (⟨(topDef 34).2.2, true⟩ : Fs) "binds" := by kernel_rfl
  have nl38 : isC (⟨(topDef 34).2.2, true⟩ : Fs) "told" := by kernel_rfl
  have hbl := D.len
  have hsz := D.size
  have hpar := D.params
  refine sts_cons (st_if ?_)
  (walk_at "GO")
  refine ev_call (ev_global g_arities_of (by assumption) ⟨callee_K ke_arities_of, ?_⟩) rfl
  (walk_at "GO")
  refine (arities_of_ok (n := n + 297) D.binds (by omega) (fun b hb => by have := hpar b hb; omega) fun r1 m1 q1 g1 e1 => ?_).cal
  (walk_at "GO")
  refine ev_call (ev_builtin gn_dict bb_dict (by assumption) ⟨callee_type, ?_⟩ (by decide) (by decide)) rfl
  refine evs_cons (ev_arits (y := "value") (by kernel_rfl) (comp_local (by kernel_rfl)) (comp_local (by kernel_rfl)) (by kernel_rfl) (by kernel_rfl) (by kernel_rfl) (by decide) (by decide) (by intro _ _; rfl) ?_) rfl
  refine ev_cell rfl (by with_reducible assumption) ⟨bl, bs, rfl, D.binds.grow g1, by omega, fun b hb => by have := hpar b hb; omega, fun L m2 q2 g2 e2 => ?_⟩
  (walk_at "GO")
  refine dict_pairs e2 (by simp only [arits, List.length_map]; exact Nat.le_trans (List.length_filter_le _ _) (by omega)) fun r3 q3 => ?_
  refine cmp_neSameD (Grow.upd q3 _ _ (g2 _ _ e1)) upd_same (fun p hp => mem_dictOf (P := fun v => ∃ i, v = .int i 0) (fun p hp => by
    obtain ⟨b, _, rfl⟩ := List.mem_map.mp hp
    exact ⟨_, rfl⟩) p hp) ?_
  (walk_at "GO")
  refine sts_nil ?_
  have g3 : Grow mem (upd m2 r3 (.dict (dictOfPairs (arits bs)))) := (g1.trans g2).trans (Grow.upd q3)
  generalize upd m2 r3 (.dict (dictOfPairs (arits bs))) = m3 at g3 ⊢
  clear e1 e2 g1 g2 q1 q2 q3
  have D3 := D.grow g3
  refine sts_cons ?_
  refine st_comp [] (by kernel_rfl) (by kernel_rfl) (fun p hp => by cases hp) ?_
  obtain ⟨ts, x1, x2, x3⟩ := D3.binds.at
  refine ev_cell rfl (by with_reducible assumption) ⟨_, _, .inl ⟨bl, rfl, .inl x1, rfl⟩, fun i out d m => Grow m3 m ∧ m3 d = none ∧ i ≤ bs.length ∧ m d = some (.list out) ∧ out = sL ((cellsL (bs.take i)).map Bd.x), ?_, ?_, ?_, ?_⟩
  · intro d hd
    exact ⟨Grow.upd hd, hd, Nat.zero_le _, upd_same, rfl⟩
  · rintro i out d m ⟨y1, y2, y3, y4, rfl⟩
    refine ⟨.inl (y1 _ _ x1), y4, ?_⟩
    have := List.length_filter_le (fun b : Bd => b.e.cell) (bs.take i)
    simp [sL, cellsL] at this ⊢; omega
  · rintro i x out d m hx' ⟨y1, y2, y3, y4, rfl⟩
    obtain ⟨b, t, hbi, rfl, ht, he⟩ := x3 i x hx'
    have hi' : i < bs.length := (List.getElem?_eq_some_iff.mp hbi).1
    have hbm := List.mem_of_getElem? hbi
    have hbs := hsz b hbm
    obtain ⟨kk, cs, ps, e1, hx, hps⟩ := he.node
    have hx2 := hx.grow y1
    obtain ⟨fs, q1, q2, q3⟩ := hx2
    have hke : b.e.kd = kk := by rw [e1]; rfl
    have hkid : b.e.kids = ps := by rw [e1]; rfl
    have hsz2 : 1 + sizes ps ≤ 60 := by rw [e1] at hbs; simpa only [Ex.size] using hbs
    have hpl := length_sizes ps
    have hpl2 := hps.length
    have hft := filter_take (fun b : Bd => b.e.cell) hbi
    have hcell : b.e.cell = (kk.isCon && ps.all fun c => c.kd.isVar) := by simp [Ex.cell, hke, hkid]
    refine as_tuple (y1 _ _ ht) rfl ?_ rfl
    refine ass_cons (as_name (sto_local (comp_local (by kernel_rfl)) (ass_cons (as_name (sto_local (comp_local (by kernel_rfl)) (ass_nil ?_))) rfl))) rfl
    refine ifs_one (tst_bool (tsts_and (tst_val ?_ (by intro _ _; rfl))))
    refine ev_call (ev_builtin gn_isinstance bb_isinstance (by kernel_rfl) ⟨callee_builtin, ?_⟩ (by decide) (by decide)) rfl
    refine evs_cons (ev_local rfl (comp_local (by kernel_rfl)) (evs_cons (ev_global g_Con (by kernel_rfl) (evs_nil ?_)) rfl)) rfl
    refine cal_isinst (ok_k kk) q1 (ik_Con kk) (tru_bool ?_)
    have skip : b.e.cell = false → ∀ m', Grow m m' → Grow m3 m' ∧ m3 d = none ∧ i + 1 ≤ bs.length ∧ m' d = some (.list (sL ((cellsL (bs.take i)).map Bd.x))) ∧ sL ((cellsL (bs.take i)).map Bd.x) = sL ((cellsL (bs.take (i + 1))).map Bd.x) := fun hc m' g => by
      refine ⟨y1.trans g, y2, hi', g _ _ y4, ?_⟩
      unfold cellsL; rw [hft, hc]; simp
    cases hk : kk.isCon with
    | false =>
      refine iteF (iteF ?_)
      exact skip (by rw [hcell, hk]; rfl) m (Grow.refl _)
    | true =>
      refine iteT ?_
      have hkc : kk = .con := by cases kk <;> first | rfl | (cases hk; done)
      subst hkc
      obtain ⟨l, u1, u2⟩ := q3
      refine tsts_and (tst_cmp ?_ (by with_unfolding_all rfl))
      refine ev_comp [] (by kernel_rfl) (fun p hp => by cases hp) ?_
      refine ev_attr (ev_local rfl (comp_local (by kernel_rfl)) (geta_inst ok_Con q1 u1 (fun i q => by cases q) na_Con_args ?_)) rfl
      refine ⟨_, _, .inl ⟨l, rfl, .inl u2, rfl⟩, fun j out D' m' => Grow m m' ∧ m D' = none ∧ j ≤ cs.length ∧ m' D' = some (.list out) ∧ out.length ≤ j ∧ (out.isEmpty = (ps.take j).all fun c => c.kd.isVar), ?_, ?_, ?_, ?_⟩
      · intro D' hD'
        exact ⟨Grow.upd hD', hD', Nat.zero_le _, upd_same, Nat.le_refl _, by simp⟩
      · rintro j out D' m' ⟨v1, v2, v3, v4, v5, v6⟩
        exact ⟨.inl (v1 _ _ u2), v4, by omega⟩
      · rintro j x out D' m' hx3 ⟨v1, v2, v3, v4, v5, v6⟩
        rw [List.getElem?_map] at hx3
        obtain ⟨ca, hca, rfl⟩ := Option.map_eq_some_iff.mp hx3
        have hj' : j < cs.length := (List.getElem?_eq_some_iff.mp hca).1
        obtain ⟨ce, hce, hcx⟩ := hps.at hca
        obtain ⟨k2, cs2, ps2, rfl, hn2, _⟩ := hcx.node
        obtain ⟨fs2, p1, p2, p3⟩ := hn2.grow (y1.trans v1)
        refine as_name (sto_local (comp_local (by kernel_rfl)) (ifs_one (tst_not (tst_val ?_ (by intro _ _; rfl)))))
        refine ev_call (ev_builtin gn_isinstance bb_isinstance (by kernel_rfl) ⟨callee_builtin, ?_⟩ (by decide) (by decide)) rfl
        refine evs_cons (ev_local rfl (comp_local (by kernel_rfl)) (evs_cons (ev_global g_Var (by kernel_rfl) (evs_nil ?_)) rfl)) rfl
        refine cal_isinst (ok_k k2) p1 (ik_Var k2) (tru_bool ?_)
        cases hv : k2.isVar with
        | true =>
          refine iteF ⟨v1, v2, hj', v4, by omega, ?_⟩
          rw [v6, List.take_add_one, hce, List.all_append]
          simp [Ex.kd, hv]
        | false =>
          refine iteT (ev_local rfl (comp_local (by kernel_rfl)) ⟨v4, v1.set v2, v2, hj', upd_same, by simp; omega, ?_⟩)
          rw [List.take_add_one, hce, List.all_append]
          simp [Ex.kd, hv]
      rintro D' out m' ⟨v1, v2, _, v4, v5, v6⟩
      rw [show (refs cs).length = ps.length from by simp [refs, hpl2], List.take_length] at v6
      refine ev_list (evs_nil ⟨by simp, fun el hel => ?_⟩)
      refine cmp_eqNil (.inl (Grow.upd hel _ _ v4)) (.inl upd_same) (tru_bool ?_)
      have gg : Grow m (upd m' el (.list [])) := v1.trans (Grow.upd hel)
      generalize upd m' el (.list []) = m4 at gg ⊢
      rw [v6]
      cases hall : ps.all fun c => c.kd.isVar with
      | false => exact iteF (iteF (skip (by rw [hcell, hall, hk]; rfl) m4 gg))
      | true =>
        refine iteT (tsts_and_nil (iteT ?_))
        refine ev_local rfl (comp_local (by kernel_rfl)) ⟨gg _ _ y4, (y1.trans gg).set y2, y2, hi', upd_same, ?_⟩
        unfold cellsL
        rw [hft, hcell, hall, hk]; simp [sL]
  rintro cn out m4 ⟨y1, y2, _, y4, rfl⟩
  rw [x2, List.take_length] at y4
  refine sto_local (by with_reducible assumption) ?_
  (walk_at "GO")
  refine ev_call (ev_global g_cells_of (by assumption) ⟨callee_K ke_cells_of, ?_⟩) rfl
  (walk_at "GO")
  refine (cells_of_ok (n := n + 297) (D3.binds.grow y1) (by omega) (fun b hb => by have := hsz b hb; omega) D.nodup fun td m5 q5 g5 e5 => ?_).cal
  refine as_name (sto_cell (by with_reducible assumption) rfl ?_)
  exact sts_as (l' := (topDef 34).2.1.drop 8) (by kernel_rfl) (Sts.weaken [("told", .ref td), ("cells", .ref cn), ("turning", .ref tn), ("binds", .ref bl), ("tops", .ref tl), ("source", .ref sl)] (by walk_at "WEAK") (h m5 cn td _ ((g3.trans y1).trans g5) rfl (g5 _ _ y4) e5))
end
end Mine
end
section
-- F32
set_option maxRecDepth 100000
set_option maxHeartbeats 400000
set_option autoImplicit false
set_option linter.unusedVariables false
set_option linter.unusedSimpArgs false
namespace Mine
open PySem PySem.W PySem.Calls PyProof.Rows
theorem Drawn.growX {m m' : Mem} {sl tl bl : Addr} {k : Nat} {bs : List Bd} (D : Drawn m sl tl bl k bs) (g : GrowX sl m m') (s : SrcAt m' sl) : Drawn m' sl tl bl k bs := by
  refine ⟨s, D.k3, g _ _ (D.src.ne D.tops fun p q => sL_ne p q) D.tops, ⟨?_, fun b hb => (D.binds.2 b hb).growX D.src g⟩, D.xs, D.size, D.params⟩
  obtain ⟨ts, h1, h2, h3⟩ := D.binds.1
  refine ⟨ts, g _ _ (D.src.ne h1 fun p q => refs_ne p q) h1, h2, fun i x v e => ?_⟩
  obtain ⟨t, e1, e2⟩ := h3 i x v e
  exact ⟨t, e1, g _ _ (D.src.ne e2 fun p q e => by cases e) e2⟩
section
variable {w : World} {h₀ : Heap} {n : Nat} {mem : Mem} {Q : Value → Mem → Prop}
theorem law_four {sl tl bl tn cn td : Addr} {k : Nat} {bs : List Bd} {turn cs : List Str} (D : Drawn mem sl tl bl k bs) (htn : mem tn = some (.list (sL turn))) (ht : ∀ x, x ∈ turn ↔ x ∈ bs.map Bd.x ∧ Led bs x x)
    (hcs : cs = (cellsL bs).map Bd.x) (hcn : mem cn = some (.list (sL cs))) (htd : mem td = some (.dict ((cellsL bs).map Bd.pair)))
    (h : ∀ (M : Nat) (own : Str → Bool) fr fs fa d m', Drawn m' sl tl bl k bs → m' tn = some (.list (sL turn)) → M ≤ 1000 → (∀ x, own x = true ↔ x ∈ turn) → m' fs = some (.inst 425 [("rows", .ref d)]) → m' d = some (.dict ((rowsL own M bs).map Bd.pair)) → ExAt m' fa (.node .app [eVar "t0", eLit]) →
      Sts (cx w h₀) (n + 299) lawF [("far", .ref fa), ("functions", .ref fs), ("fresh", .ref fr), ("most", .int M 0), ("turning", .ref tn), ("binds", .ref bl), ("tops", .ref tl), ("source", .ref sl)] ((topDef 34).2.1.drop 12) m' (fun _ m => Q .none m) Q) :
    Sts (cx w h₀) (n + 299) lawF [("told", .ref td), ("cells", .ref cn), ("turning", .ref tn), ("binds", .ref bl), ("tops", .ref tl), ("source", .ref sl)] ((topDef 34).2.1.drop 8) mem (fun _ m => Q .none m) Q := by
  have nl0 : isL (⟨(topDef 34).2.2, true⟩ : Fs) "script" := by kernel_rfl
  have nl1 : isL (⟨(topDef 34).2.2, true⟩ : Fs) "turning" := by kernel_rfl
  have nl2 : isL (⟨(topDef 34).2.2, true⟩ : Fs) "cells" := by kernel_rfl
  have nl3 : isL (⟨(topDef 34).2.2, true⟩ : Fs) "most" := by kernel_rfl
  have nl4 : isL (⟨(topDef 34).2.2, true⟩ : Fs) "fresh" := by kernel_rfl
  have nl5 : isL (⟨(topDef 34).2.2, true⟩ : Fs) "functions" := by kernel_rfl
  have nl6 : isL (⟨(topDef 34).2.2, true⟩ : Fs) "far" := by kernel_rfl
  have nl7 : isL (⟨(topDef 34).2.2, true⟩ : Fs) "node" := by kernel_rfl
  have nl8 : isL (⟨(topDef 34).2.2, true⟩ : Fs) "name" := by kernel_rfl
  have nl9 : isL (⟨(topDef 34).2.2, true⟩ : Fs) "value" := by kernel_rfl
  have nl10 : isL (⟨(topDef 34).2.2, true⟩ : Fs) "is_plain_top" := by kernel_rfl
  have nl11 : isL (⟨(topDef 34).2.2, true⟩ : Fs) "many" := by kernel_rfl
  have nl12 : isL (⟨(topDef 34).2.2, true⟩ : Fs) "asked" := by kernel_rfl
  have nl13 : isL (⟨(topDef 34).2.2, true⟩ : Fs) "later" := by kernel_rfl
  have nl14 : isL (⟨(topDef 34).2.2, true⟩ : Fs) "is_let" := by kernel_rfl
  have nl15 : isG (⟨(topDef 34).2.2, true⟩ : Fs) "_law_pool" := by kernel_rfl
  have nl16 : isG (⟨(topDef 34).2.2, true⟩ : Fs) "range" := by kernel_rfl
  have nl17 : isG (⟨(topDef 34).2.2, true⟩ : Fs) "_law_take" := by kernel_rfl
  have nl18 : isG (⟨(topDef 34).2.2, true⟩ : Fs) "sorted" := by kernel_rfl
  have nl19 : isG (⟨(topDef 34).2.2, true⟩ : Fs) "recursive_names" := by kernel_rfl
  have nl20 : isG (⟨(topDef 34).2.2, true⟩ : Fs) "arities_of" := by kernel_rfl
  have nl21 : isG (⟨(topDef 34).2.2, true⟩ : Fs) "dict" := by kernel_rfl
  have nl22 : isG (⟨(topDef 34).2.2, true⟩ : Fs) "cells_of" := by kernel_rfl
  have nl23 : isG (⟨(topDef 34).2.2, true⟩ : Fs) "Fresh" := by kernel_rfl
  have nl24 : isG (⟨(topDef 34).2.2, true⟩ : Fs) "TopFunctions" := by kernel_rfl
  have nl25 : isG (⟨(topDef 34).2.2, true⟩ : Fs) "App" := by kernel_rfl
  have nl26 : isG (⟨(topDef 34).2.2, true⟩ : Fs) "Var" := by kernel_rfl
  have nl27 : isG (⟨(topDef 34).2.2, true⟩ : Fs) "Lit" := by kernel_rfl
  have nl28 : isG (⟨(topDef 34).2.2, true⟩ : Fs) "Con" := by kernel_rfl
  have nl29 : isG (⟨(topDef 34).2.2, true⟩ : Fs) "isinstance" := by kernel_rfl
  have nl30 : isG (⟨(topDef 34).2.2, true⟩ : Fs) "Lam" := by kernel_rfl
  have nl31 : isG (⟨(topDef 34).2.2, true⟩ : Fs) "_law_many" := by kernel_rfl
  have nl32 : isG (⟨(topDef 34).2.2, true⟩ : Fs) "len" := by kernel_rfl
  have nl33 : isG (⟨(topDef 34).2.2, true⟩ : Fs) "size_of" := by kernel_rfl
  have nl34 : isG (⟨(topDef 34).2.2, true⟩ : Fs) "min" := by kernel_rfl
  have nl35 : isC (⟨(topDef 34).2.2, true⟩ : Fs) "source" := by kernel_rfl
  have nl36 : isC (⟨(topDef 34).2.2, true⟩ : Fs) "tops" := by kernel_rfl
  have nl37 : isC (⟨(topDef 34).2.2, true⟩ : Fs) "binds" := by kernel_rfl
  have nl38 : isC (⟨(topDef 34).2.2, true⟩ : Fs) "told" := by kernel_rfl
  have hbl := D.len
  have hsz := D.size
  have hpar := D.params
  have hnd := D.nodup
  have hcl : (cellsL bs).length ≤ 6 := Nat.le_trans (List.length_filter_le _ _) hbl
  have hcn1 : cs.Nodup := by
    rw [hcs]
    exact (((List.filter_sublist (l := bs)).map Bd.x)).nodup hnd
  have hcsl : cs.length ≤ 6 := by rw [hcs]; simpa using hcl
  refine sts_cons (st_if ?_)
  (walk_at "GO")
  refine ev_call (ev_builtin gn_sorted bb_sorted (by assumption) ⟨callee_builtin, ?_⟩ (by decide) (by decide)) rfl
  (walk_at "GO")
  refine cal_sortedD htd (by simpa using (by omega)) fun s1 ys1 s2 s3 s4 => ?_
  rw [keys_pair, ← hcs] at s3
  have g1 : Grow mem (upd mem s1 (.list (sL ys1))) := Grow.upd s2
  have e1 : upd mem s1 (.list (sL ys1)) s1 = some (.list (sL ys1)) := upd_same
  generalize upd mem s1 (.list (sL ys1)) = m1 at g1 e1 ⊢
  refine ev_call (ev_builtin gn_sorted bb_sorted (by assumption) ⟨callee_builtin, ?_⟩ (by decide) (by decide)) rfl
  (walk_at "GO")
  refine cal_sortedS (.inl (g1 _ _ hcn)) (by omega) fun s5 ys2 s6 s7 s8 => ?_
  have hsame : ys1 = ys2 := sorted_same s3 s4 s7 s8 hcn1 hcn1 fun x => Iff.rfl
  subst hsame
  refine cmp_neSame (.inl (Grow.upd s6 _ _ e1)) (.inl upd_same) ?_
  have g2 : Grow mem (upd m1 s5 (.list (sL ys1))) := g1.trans (Grow.upd s6)
  generalize upd m1 s5 (.list (sL ys1)) = m2 at g2 ⊢
  (walk_at "GO")
  refine ev_comp [("told", .ref td), ("binds", .ref bl)] (by kernel_rfl) (List.forall_mem_cons.mpr ⟨⟨rfl, by kernel_rfl⟩, List.forall_mem_cons.mpr ⟨⟨rfl, by kernel_rfl⟩, List.forall_mem_nil _⟩⟩) ?_
  refine ev_local rfl (by with_reducible assumption) ⟨_, _, .inl ⟨cn, rfl, .inl (g2 _ _ hcn), rfl⟩, fun i out d m => Grow m2 m ∧ m2 d = none ∧ m d = some (.list []) ∧ out = [], ?_, ?_, ?_, ?_⟩
  · intro d hd
    exact ⟨Grow.upd hd, hd, upd_same, rfl⟩
  · rintro i out d m ⟨y1, y2, y3, rfl⟩
    exact ⟨.inl (y1 _ _ (g2 _ _ hcn)), y3, by simp⟩
  · rintro i x out d m hx' ⟨y1, y2, y3, rfl⟩
    rw [sL, List.getElem?_map] at hx'
    obtain ⟨z, hz, rfl⟩ := Option.map_eq_some_iff.mp hx'
    have hzc : z ∈ (cellsL bs).map Bd.x := by rw [← hcs]; exact List.mem_of_getElem? hz
    obtain ⟨b1, hb1⟩ := topOf hzc
    obtain ⟨hb2, hb3⟩ := rowOf_mem hb1
    have hb4 : b1 ∈ bs := (List.mem_filter.mp hb2).1
    obtain ⟨b5, hb5⟩ := topOf (bs := bs) (x := z) (by rw [← hb3]; exact List.mem_map_of_mem hb4)
    obtain ⟨hb6, hb7⟩ := rowOf_mem hb5
    have : b5 = b1 := top_unique hnd hb6 hb4 (by rw [hb7, hb3])
    subst this
    refine as_name (sto_local (comp_local (by kernel_rfl)) (ifs_one (tst_cmp ?_ (by with_unfolding_all rfl))))
    refine ev_sub (ev_cell rfl (by kernel_rfl) (ev_local rfl (comp_local (by kernel_rfl)) ?_))
    refine sub_dict (y1 _ _ (g2 _ _ htd)) (v := .ref b5.a) (by rw [rowOf_lookup, hb1]; rfl) ?_
    refine ev_sub (ev_call (ev_builtin gn_dict bb_dict (by kernel_rfl) ⟨callee_type, ?_⟩ (by decide) (by decide)) rfl)
    refine evs_cons (ev_cell rfl (by kernel_rfl) (evs_nil ?_)) rfl
    refine dict_binds (D.binds.grow (g2.trans y1)) (by omega) hnd fun dl hdl => ?_
    refine ev_local rfl (comp_local (by kernel_rfl)) ?_
    refine sub_dict upd_same (v := .ref b5.a) (by rw [rowOf_lookup, hb5]; rfl) ?_
    refine cmp_isntSame (tru_bool (iteF ⟨y1.trans (Grow.upd hdl), y2, Grow.upd hdl _ _ y3, rfl⟩))
  rintro d out m3 ⟨y1, _, y3, rfl⟩
  (walk_at "GO")
  refine ev_list (evs_nil ⟨by simp, fun el hel => ?_⟩)
  refine cmp_neNil (.inl (Grow.upd hel _ _ y3)) (.inl upd_same) ?_
  have g4 : Grow mem (upd m3 el (.list [])) := (g2.trans y1).trans (Grow.upd hel)
  generalize upd m3 el (.list []) = m4 at g4 ⊢
  refine tru_bool (iteF (tsts_or_nil (iteF (sts_nil ?_))))
  clear y1 y3 g2 g1 e1 s2 s6 hel
  have D4 := D.grow g4
  refine sts_cons (st_swapped (xs := ["most", "fresh"]) (by kernel_rfl) ?_)
  refine evs_cons ?_ rfl
  (walk_at "GO")
  refine ev_call (ev_global g__law_take (by assumption) ⟨callee_K ke__law_take, ?_⟩) rfl
  (walk_at "GO")
  refine (take_ok (n := n + 297) D4.src (by decide) (by decide) fun dg m5 g5 s5 d0 d1 => ?_).cal
  have D5 := D4.growX g5 s5
  have htn5 : m5 tn = some (.list (sL turn)) := g5 _ _ (D4.src.ne (g4 _ _ htn) fun p q => sL_ne p q) (g4 _ _ htn)
  (walk_at "GO")
  refine ev_call (ev_global g_Fresh (by assumption) ⟨callee_K ke_Fresh, ?_⟩) rfl
  (walk_at "GO")
  refine (new_Fresh (n := n + 296) (.inl D5.tops) (by simp [tNames]; have := D.k3; omega) fun fr m6 q6 g6 => ?_)
  refine evs_nil ⟨rfl, by simp, fun tp htp => ?_⟩
  have g7 : Grow m5 (upd m6 tp (.tup [.int (3 + dg) 0, .ref fr])) := g6.trans (Grow.upd htp)
  generalize upd m6 tp (.tup [.int (3 + dg) 0, .ref fr]) = m7 at g7 ⊢
  obtain ⟨M, hM⟩ : ∃ M : Nat, 3 + dg = (M : Int) := ⟨(3 + dg).toNat, by omega⟩
  have hM1 : M ≤ 1000 := by omega
  rw [hM]
  refine sto_local (by with_reducible assumption) (sto_local (by with_reducible assumption) ?_)
  have D7 := D5.grow g7
  have htn7 := g7 _ _ htn5
  clear D5 htn5 g7 g6 q6 htp g5 s5 D4
  refine sts_cons ?_
  (walk_at "GO")
  refine ev_call (ev_global g_TopFunctions (by assumption) ⟨callee_K ke_TopFunctions, ?_⟩) rfl
  (walk_at "GO")
  refine ev_call (ev_global g_recursive_names (by assumption) ⟨callee_K ke_recursive_names, ?_⟩) rfl
  (walk_at "GO")
  refine (recursive_ok (n := n + 293) D7.binds (by omega) hsz hnd fun r ks m8 r1 g8 r2 r3 r4 => ?_).cal
  (walk_at "GO")
  have D8 := D7.grow g8
  have hown : ∀ x, ((dmap ks fun _ => Value.bool true).lookup x).isSome = true ↔ x ∈ turn := fun x => by
    rw [dmap_look, ht, ← r4]
    by_cases hx : x ∈ ks <;> simp [hx]
  refine (new_Top (n := n + 294) D8.binds r2 (by omega) (fun b hb => by have := hsz b hb; omega) hnd fun fs d m9 q9 g9 e9 e10 => ?_)
  (walk_at "GO")
  refine ev_call (ev_global g_App (by assumption) ⟨callee_K ke_App, ?_⟩) rfl
  (walk_at "GO")
  refine ev_call (ev_global g_Var (by assumption) ⟨callee_K ke_Var, ?_⟩) rfl
  (walk_at "GO")
  refine new_Var fun a1 m10 n10 g10 e11 => ?_
  (walk_at "GO")
  refine ev_list ?_
  (walk_at "GO")
  refine ev_call (ev_global g_Lit (by assumption) ⟨callee_K ke_Lit, ?_⟩) rfl
  (walk_at "GO")
  refine new_Lit fun a2 m11 n11 g11 e12 => ?_
  (walk_at "GO")
  refine ⟨by simp, fun l1 n12 => ?_⟩
  (walk_at "GO")
  refine new_App fun fa m12 n13 g12 e13 => ?_
  have G := ((g10.trans g11).trans (Grow.upd n12)).trans g12
  refine as_name (sto_local (by with_reducible assumption) ?_)
  refine sts_as (l' := (topDef 34).2.1.drop 12) (by kernel_rfl) (Sts.weaken [("far", .ref fa), ("functions", .ref fs), ("fresh", .ref fr), ("most", .int M 0), ("turning", .ref tn), ("binds", .ref bl), ("tops", .ref tl), ("source", .ref sl)] (by walk_at "WEAK") (h M (fun x => ((dmap ks fun _ => Value.bool true).lookup x).isSome) fr fs fa d m12 ((D8.grow g9).grow G) (G _ _ (g9 _ _ (g8 _ _ htn7))) hM1 hown (G _ _ e9) (G _ _ e10) ?_))
  exact at_App (r := [a2]) e13 (g12 _ _ upd_same) ((at_Var e11).grow ((g11.trans (Grow.upd n12)).trans g12)) (.cons ((at_Lit e12).grow ((Grow.upd n12).trans g12)) .nil)
end
end Mine
end
section
-- F33
set_option maxRecDepth 100000
set_option maxHeartbeats 400000
set_option autoImplicit false
set_option linter.unusedVariables false
set_option linter.unusedSimpArgs false
namespace Mine
open PySem PySem.W PySem.Calls PyProof.Rows
/-- the functions stand, with their rows -/
structure Fun (m : Mem) (sl tl bl tn fs d : Addr) (k M : Nat) (bs : List Bd) (turn : List Str) (own : Str → Bool) : Prop where
  D : Drawn m sl tl bl k bs
  tt : m tn = some (.list (sL turn))
  Mle : M ≤ 1000
  ow : ∀ x, own x = true ↔ x ∈ turn
  ff : m fs = some (.inst 425 [("rows", .ref d)])
  dd : m d = some (.dict ((rowsL own M bs).map Bd.pair))
theorem Fun.grow {m m' : Mem} {sl tl bl tn fs d : Addr} {k M : Nat} {bs : List Bd} {turn : List Str} {own : Str → Bool} (F : Fun m sl tl bl tn fs d k M bs turn own) (g : Grow m m') : Fun m' sl tl bl tn fs d k M bs turn own :=
  ⟨F.D.grow g, g _ _ F.tt, F.Mle, F.ow, g _ _ F.ff, g _ _ F.dd⟩
theorem Fun.rows {m : Mem} {sl tl bl tn fs d : Addr} {k M : Nat} {bs : List Bd} {turn : List Str} {own : Str → Bool} (F : Fun m sl tl bl tn fs d k M bs turn own) : ∀ b ∈ rowsL own M bs, ExAt m b.a b.e ∧ b.e.size ≤ 1000 ∧ b.e.params.length ≤ 1000 := fun b hb => by
  have hb := (List.mem_filter.mp hb).1
  have h1 := F.D.size b hb
  have h2 := F.D.params b hb
  exact ⟨F.D.binds.2 b hb, by omega, by omega⟩
theorem rowOf_none {bs : List Bd} {x : Str} (h : x ∉ bs.map Bd.x) : rowOf bs x = none := by
  cases e : rowOf bs x with
  | none => rfl
  | some b =>
    obtain ⟨h1, h2⟩ := rowOf_mem e
    exact absurd (h2 ▸ List.mem_map_of_mem h1) h
theorem rows_x {m : Mem} {sl tl bl : Addr} {k M : Nat} {bs : List Bd} {own : Str → Bool} (D : Drawn m sl tl bl k bs) : rowOf (rowsL own M bs) "x" = none := rowOf_none fun q => by
  obtain ⟨b, hb, e⟩ := List.mem_map.mp q
  have : ("x" : Str) ∈ bs.map Bd.x := e ▸ List.mem_map_of_mem (List.mem_filter.mp hb).1
  rw [D.xs] at this
  exact tNames_x D.k3 this
section
variable {w : World} {h₀ : Heap} {n : Nat} {mem : Mem} {Q : Value → Mem → Prop}
theorem law_five {sl tl bl tn fs fr fa d : Addr} {k M : Nat} {bs : List Bd} {turn : List Str} {own : Str → Bool} (F : Fun mem sl tl bl tn fs d k M bs turn own) (hfa : ExAt mem fa (.node .app [eVar "t0", eLit]))
    (h : ∀ m', Fun m' sl tl bl tn fs d k M bs turn own →
      Sts (cx w h₀) (n + 299) lawF [("functions", .ref fs), ("fresh", .ref fr), ("most", .int M 0), ("turning", .ref tn), ("binds", .ref bl), ("tops", .ref tl), ("source", .ref sl)] ((topDef 34).2.1.drop 13) m' (fun _ m => Q .none m) Q) :
    Sts (cx w h₀) (n + 299) lawF [("far", .ref fa), ("functions", .ref fs), ("fresh", .ref fr), ("most", .int M 0), ("turning", .ref tn), ("binds", .ref bl), ("tops", .ref tl), ("source", .ref sl)] ((topDef 34).2.1.drop 12) mem (fun _ m => Q .none m) Q := by
  have nl0 : isL (⟨(topDef 34).2.2, true⟩ : Fs) "script" := by kernel_rfl
  have nl1 : isL (⟨(topDef 34).2.2, true⟩ : Fs) "turning" := by kernel_rfl
  have nl2 : isL (⟨(topDef 34).2.2, true⟩ : Fs) "cells" := by kernel_rfl
  have nl3 : isL (⟨(topDef 34).2.2, true⟩ : Fs) "most" := by kernel_rfl
  have nl4 : isL (⟨(topDef 34).2.2, true⟩ : Fs) "fresh" := by kernel_rfl
  have nl5 : isL (⟨(topDef 34).2.2, true⟩ : Fs) "functions" := by kernel_rfl
  have nl6 : isL (⟨(topDef 34).2.2, true⟩ : Fs) "far" := by kernel_rfl
  have nl7 : isL (⟨(topDef 34).2.2, true⟩ : Fs) "node" := by kernel_rfl
  have nl8 : isL (⟨(topDef 34).2.2, true⟩ : Fs) "name" := by kernel_rfl
  have nl9 : isL (⟨(topDef 34).2.2, true⟩ : Fs) "value" := by kernel_rfl
  have nl10 : isL (⟨(topDef 34).2.2, true⟩ : Fs) "is_plain_top" := by kernel_rfl
  have nl11 : isL (⟨(topDef 34).2.2, true⟩ : Fs) "many" := by kernel_rfl
  have nl12 : isL (⟨(topDef 34).2.2, true⟩ : Fs) "asked" := by kernel_rfl
  have nl13 : isL (⟨(topDef 34).2.2, true⟩ : Fs) "later" := by kernel_rfl
  have nl14 : isL (⟨(topDef 34).2.2, true⟩ : Fs) "is_let" := by kernel_rfl
  have nl15 : isG (⟨(topDef 34).2.2, true⟩ : Fs) "_law_pool" := by kernel_rfl
  have nl16 : isG (⟨(topDef 34).2.2, true⟩ : Fs) "range" := by kernel_rfl
  have nl17 : isG (⟨(topDef 34).2.2, true⟩ : Fs) "_law_take" := by kernel_rfl
  have nl18 : isG (⟨(topDef 34).2.2, true⟩ : Fs) "sorted" := by kernel_rfl
  have nl19 : isG (⟨(topDef 34).2.2, true⟩ : Fs) "recursive_names" := by kernel_rfl
  have nl20 : isG (⟨(topDef 34).2.2, true⟩ : Fs) "arities_of" := by kernel_rfl
  have nl21 : isG (⟨(topDef 34).2.2, true⟩ : Fs) "dict" := by kernel_rfl
  have nl22 : isG (⟨(topDef 34).2.2, true⟩ : Fs) "cells_of" := by kernel_rfl
  have nl23 : isG (⟨(topDef 34).2.2, true⟩ : Fs) "Fresh" := by kernel_rfl
  have nl24 : isG (⟨(topDef 34).2.2, true⟩ : Fs) "TopFunctions" := by kernel_rfl
  have nl25 : isG (⟨(topDef 34).2.2, true⟩ : Fs) "App" := by kernel_rfl
  have nl26 : isG (⟨(topDef 34).2.2, true⟩ : Fs) "Var" := by kernel_rfl
  have nl27 : isG (⟨(topDef 34).2.2, true⟩ : Fs) "Lit" := by kernel_rfl
  have nl28 : isG (⟨(topDef 34).2.2, true⟩ : Fs) "Con" := by kernel_rfl
  have nl29 : isG (⟨(topDef 34).2.2, true⟩ : Fs) "isinstance" := by kernel_rfl
  have nl30 : isG (⟨(topDef 34).2.2, true⟩ : Fs) "Lam" := by kernel_rfl
  have nl31 : isG (⟨(topDef 34).2.2, true⟩ : Fs) "_law_many" := by kernel_rfl
  have nl32 : isG (⟨(topDef 34).2.2, true⟩ : Fs) "len" := by kernel_rfl
  have nl33 : isG (⟨(topDef 34).2.2, true⟩ : Fs) "size_of" := by kernel_rfl
  have nl34 : isG (⟨(topDef 34).2.2, true⟩ : Fs) "min" := by kernel_rfl
  have nl35 : isC (⟨(topDef 34).2.2, true⟩ : Fs) "source" := by kernel_rfl
  have nl36 : isC (⟨(topDef 34).2.2, true⟩ : Fs) "tops" := by kernel_rfl
  have nl37 : isC (⟨(topDef 34).2.2, true⟩ : Fs) "binds" := by kernel_rfl
  have nl38 : isC (⟨(topDef 34).2.2, true⟩ : Fs) "told" := by kernel_rfl
  refine sts_cons (st_for ?_ (by intro _ _; rfl))
  refine ev_list ?_
  (walk_at "GO")
  refine ev_call (ev_global g_Var (by assumption) ⟨callee_K ke_Var, ?_⟩) rfl
  (walk_at "GO")
  refine new_Var fun a1 m1 n1 g1 e1 => ?_
  (walk_at "GO")
  refine ev_call (ev_global g_Lit (by assumption) ⟨callee_K ke_Lit, ?_⟩) rfl
  (walk_at "GO")
  refine new_Lit fun a2 m2 n2 g2 e2 => ?_
  (walk_at "GO")
  refine ev_call (ev_global g_App (by assumption) ⟨callee_K ke_App, ?_⟩) rfl
  (walk_at "GO")
  refine ev_call (ev_global g_Var (by assumption) ⟨callee_K ke_Var, ?_⟩) rfl
  (walk_at "GO")
  refine new_Var fun a3 m3 n3 g3 e3 => ?_
  (walk_at "GO")
  refine ev_list ?_
  (walk_at "GO")
  refine ev_call (ev_global g_Var (by assumption) ⟨callee_K ke_Var, ?_⟩) rfl
  (walk_at "GO")
  refine new_Var fun a4 m4 n4 g4 e4 => ?_
  (walk_at "GO")
  refine ⟨by simp, fun l5 n5 => ?_⟩
  (walk_at "GO")
  refine new_App fun a6 m6 n6 g6 e6 => ?_
  (walk_at "GO")
  refine ev_call (ev_global g_App (by assumption) ⟨callee_K ke_App, ?_⟩) rfl
  (walk_at "GO")
  refine ev_list ?_
  (walk_at "GO")
  refine ev_call (ev_global g_Var (by assumption) ⟨callee_K ke_Var, ?_⟩) rfl
  (walk_at "GO")
  refine new_Var fun a7 m7 n7 g7 e7 => ?_
  (walk_at "GO")
  refine ⟨by simp, fun l8 n8 => ?_⟩
  (walk_at "GO")
  refine new_App fun a9 m9 n9 g9 e9 => ?_
  (walk_at "GO")
  refine ev_call (ev_global g_Con (by assumption) ⟨callee_K ke_Con, ?_⟩) rfl
  (walk_at "GO")
  refine ev_list ?_
  (walk_at "GO")
  refine ev_call (ev_global g_Var (by assumption) ⟨callee_K ke_Var, ?_⟩) rfl
  (walk_at "GO")
  refine new_Var fun a10 m10 n10 g10 e10 => ?_
  (walk_at "GO")
  refine ⟨by simp, fun l11 n11 => ?_⟩
  (walk_at "GO")
  refine new_Con fun a12 m12 n12 g12 e12 => ?_
  (walk_at "GO")
  refine ⟨by simp, fun L nL => ?_⟩
  have G6 : Grow mem m6 := ((((g1.trans g2).trans g3).trans g4).trans (Grow.upd n5)).trans g6
  have G9 : Grow m6 m9 := (g7.trans (Grow.upd n8)).trans g9
  have G12 : Grow m9 m12 := (g10.trans (Grow.upd n11)).trans g12
  have GL : Grow m12 (upd m12 L (.list [.ref a1, .ref a2, .ref a6, .ref a9, .ref a12])) := Grow.upd nL
  have eL : upd m12 L (.list [.ref a1, .ref a2, .ref a6, .ref a9, .ref a12]) L = some (.list [.ref a1, .ref a2, .ref a6, .ref a9, .ref a12]) := upd_same
  have x1 : Grow m1 m12 := ((((g2.trans g3).trans g4).trans (Grow.upd n5)).trans g6).trans (G9.trans G12)
  have x2 : Grow m2 m12 := (((g3.trans g4).trans (Grow.upd n5)).trans g6).trans (G9.trans G12)
  have x3 : Grow m3 m12 := ((g4.trans (Grow.upd n5)).trans g6).trans (G9.trans G12)
  have f1 : ExNode m12 a1 (.var "x") [] := ⟨_, x1 _ _ e1, rfl, rfl, rfl⟩
  have f2 : ExNode m12 a2 .lit [] := ⟨_, x2 _ _ e2, rfl, rfl⟩
  have f3 : ExNode m12 a3 (.var "x") [] := ⟨_, x3 _ _ e3, rfl, rfl, rfl⟩
  have f5 : m12 l5 = some (.list (refs [a4])) := (G9.trans G12) _ _ (g6 _ _ upd_same)
  have f6 : m12 a6 = some (.inst 148 [("args", .ref l5), ("fun", .ref a3)]) := (G9.trans G12) _ _ e6
  have f8 : m12 l8 = some (.list (refs [a7])) := G12 _ _ (g9 _ _ upd_same)
  have f9 : m12 a9 = some (.inst 148 [("args", .ref l8), ("fun", .ref fa)]) := G12 _ _ e9
  have f11 : m12 l11 = some (.list (refs [a10, fa])) := g12 _ _ upd_same
  have f12 : ExNode m12 a12 .con [a10, fa] := ⟨_, e12, rfl, l11, rfl, f11⟩
  have GM : Grow mem m12 := (G6.trans G9).trans G12
  have ffa : ∃ cs, ExNode m12 fa .app cs := by
    obtain ⟨k2, cs2, ps2, q, hn2, _⟩ := (hfa.grow GM).node
    cases q
    exact ⟨_, hn2⟩
  generalize upd m12 L (.list [.ref a1, .ref a2, .ref a6, .ref a9, .ref a12]) = m13 at GL eL ⊢
  clear e1 e2 e3 e4 e6 e7 e9 e10 e12 n1 n2 n3 n4 n5 n6 n7 n8 n9 n10 n11 n12 nL x1 x2 x3 G6 G9 G12 g1 g2 g3 g4 g6 g7 g9 g10 g12
  have F12 := F.grow GM
  -- each of them stays
  have hfix : ∀ a, Value.ref a ∈ [Value.ref a1, .ref a2, .ref a6, .ref a9, .ref a12] → ∀ m (Q' : Value → Mem → Prop), Grow m12 m → (∀ m', Grow m m' → Q' (.ref a) m') → CodeCal (cx w h₀) (n + 299) 422 [.ref fs, .ref a, .ref fr] m Q' := fun a ha m Q' g hq => by
    have Fm := F12.grow g
    have hx := rows_x (own := own) (M := M) F12.D
    simp only [List.mem_cons, Value.ref.injEq, List.not_mem_nil, or_false] at ha
    rcases ha with rfl | rfl | rfl | rfl | rfl
    · refine instead_var (n := n + 296) Fm.ff Fm.dd (fun b hb => ⟨(Fm.rows b hb).1, (Fm.rows b hb).2.1⟩) (f1.grow g) fun m' g' => ?_
      rw [show insteadVar (rowsL own M bs) "x" a = a from by unfold insteadVar; rw [hx]]
      exact hq m' g'
    · exact instead_other (n := n + 296) (f2.grow g) rfl rfl (hq m (Grow.refl _))
    · refine instead_app (n := n + 296) (cs := [a4]) Fm.ff Fm.dd Fm.rows (g _ _ f6) rfl rfl (g _ _ f5) (by simp) (f3.grow g) (fun _ => hq m (Grow.refl _)) fun b hb => ?_
      unfold insteadApp at hb
      simp only [hx] at hb
      cases hb
    · obtain ⟨cs, hcs⟩ := ffa
      refine instead_app (n := n + 296) (cs := [a7]) Fm.ff Fm.dd Fm.rows (g _ _ f9) rfl rfl (g _ _ f8) (by simp) (hcs.grow g) (fun _ => hq m (Grow.refl _)) fun b hb => ?_
      cases hb
    · exact instead_other (n := n + 296) (f12.grow g) rfl rfl (hq m (Grow.refl _))
  refine ⟨_, _, .inl ⟨L, rfl, .inl eL, rfl⟩, fun i ρ₁ m => (∀ p ∈ ([("functions", .ref fs), ("fresh", .ref fr), ("most", .int M 0), ("turning", .ref tn), ("binds", .ref bl), ("tops", .ref tl), ("source", .ref sl)] : Loc), ρ₁.lookup p.1 = some p.2) ∧ Grow m13 m, ⟨(by walk_at "WEAK"), Grow.refl _⟩, ?_, ?_, ?_⟩
  · rintro i ρ₁ m ⟨_, y1⟩
    exact .inl (y1 _ _ eL)
  · rintro i x ρ₁ m hx' ⟨hρ, y1⟩
    have hxm := List.mem_of_getElem? hx'
    obtain ⟨a, rfl⟩ : ∃ a, x = .ref a := by
      simp only [List.mem_cons, List.not_mem_nil, or_false] at hxm
      rcases hxm with rfl | rfl | rfl | rfl | rfl <;> exact ⟨_, rfl⟩
    refine as_name (sto_local (by with_reducible assumption) ?_)
    refine Sts.weaken [("node", .ref a), ("functions", .ref fs), ("fresh", .ref fr), ("most", .int M 0), ("turning", .ref tn), ("binds", .ref bl), ("tops", .ref tl), ("source", .ref sl)] ?_ ?_
    · refine List.forall_mem_cons.mpr ⟨by simp, fun p hp => ?_⟩
      have hne : p.1 ≠ "node" := by
        revert p
        repeat' (first | refine List.forall_mem_cons.mpr ⟨by dsimp only; decide, ?_⟩ | exact List.forall_mem_nil _)
      rw [lookup_cons_ne hne]
      exact hρ p hp
    refine sts_cons (st_if ?_)
    (walk_at "GO")
    refine ev_meth (ev_local rfl (by with_reducible assumption) ⟨_, meth_own ok_TopFunctions (y1 _ _ (GL _ _ F12.ff)) fi_TopFunctions_instead_of ty_TopFunctions_instead_of (by rfl), rfl, callee_K ke_TopFunctions_instead_of, ?_⟩) rfl rfl rfl (by decide)
    (walk_at "GO")
    refine (hfix a hxm m _ (GL.trans y1) fun m' g' => ?_).cal
    (walk_at "GO")
    refine cmp_isntSame ?_
    (walk_at "GO")
    exact sts_nil (sts_nil ⟨[("functions", .ref fs), ("fresh", .ref fr), ("most", .int M 0), ("turning", .ref tn), ("binds", .ref bl), ("tops", .ref tl), ("source", .ref sl)], (by walk_at "WEAK"), (by walk_at "WEAK"), y1.trans g'⟩)
  · rintro ρ₁ m ⟨hρ, y1⟩
    exact sts_as (l' := (topDef 34).2.1.drop 13) (by kernel_rfl) (Sts.weaken _ hρ (h m (F12.grow (GL.trans y1))))
end
end Mine
end
section
-- F34
set_option maxRecDepth 100000
set_option maxHeartbeats 400000
set_option autoImplicit false
set_option linter.unusedVariables false
set_option linter.unusedSimpArgs false
namespace Mine
open PySem PySem.W PySem.Calls PyProof.Rows
theorem rowOf_rows {bs : List Bd} {own : Str → Bool} {M : Nat} {b : Bd} (hn : (bs.map Bd.x).Nodup) (hb : b ∈ bs) : rowOf (rowsL own M bs) b.x = if rowOk own M b then some b else none := by
  cases hr : rowOk own M b with
  | true =>
    have hm : b ∈ rowsL own M bs := List.mem_filter.mpr ⟨hb, hr⟩
    obtain ⟨d, hd⟩ := topOf (List.mem_map_of_mem (f := Bd.x) hm)
    obtain ⟨h1, h2⟩ := rowOf_mem hd
    rw [hd, top_unique hn (List.mem_filter.mp h1).1 hb h2]; rfl
  | false =>
    rw [rowOf_none fun q => ?_]
    · rfl
    · obtain ⟨d, h1, h2⟩ := List.mem_map.mp q
      have := top_unique hn (List.mem_filter.mp h1).1 hb h2
      subst this
      have := (List.mem_filter.mp h1).2
      rw [hr] at this; cases this
theorem atom_lam {e : Ex} (h : e.kd.isLam = true) : e.atom = false := by
  unfold Ex.atom
  cases hk : e.kd <;> rw [hk] at h <;> first | rfl | cases h
/-- stands for its name -/
noncomputable def plainB (own : Str → Bool) (b : Bd) : Bool := !own b.x && b.e.atom
/-- stands in a call -/
noncomputable def letB (own : Str → Bool) (M n : Nat) (b : Bd) : Bool := b.e.kd.isLam && (!own b.x && (decide (b.e.size ≤ M) && decide (b.e.params.length ≤ n)))
theorem insteadVar_eq {bs : List Bd} {own : Str → Bool} {M : Nat} {b : Bd} {a : Addr} (hn : (bs.map Bd.x).Nodup) (hb : b ∈ bs) : insteadVar (rowsL own M bs) b.x a = if plainB own b then b.a else a := by
  unfold insteadVar
  rw [rowOf_rows hn hb]
  cases ho : own b.x <;> cases ha : b.e.atom <;> cases hl : b.e.kd.isLam <;> by_cases hs : b.e.size ≤ M <;> simp [rowOk, plainB, ho, ha, hl, hs]
theorem insteadApp_eq {bs : List Bd} {own : Str → Bool} {M n : Nat} {b : Bd} (hn : (bs.map Bd.x).Nodup) (hb : b ∈ bs) : insteadApp (rowsL own M bs) (.var b.x) n = if letB own M n b then some b else none := by
  unfold insteadApp
  simp only [rowOf_rows hn hb]
  cases hl : b.e.kd.isLam with
  | false => cases hr : rowOk own M b <;> simp [letB, hl]
  | true =>
    have ha := atom_lam hl
    cases ho : own b.x <;> by_cases hs : b.e.size ≤ M <;> by_cases hp : b.e.params.length ≤ n <;> simp [rowOk, letB, ho, ha, hl, hs, hp]
section
variable {w : World} {h₀ : Heap} {n : Nat} {mem : Mem} {Q : Value → Mem → Prop}
theorem law_six {sl tl bl tn fs fr d : Addr} {k M : Nat} {bs : List Bd} {turn : List Str} {own : Str → Bool} (F : Fun mem sl tl bl tn fs d k M bs turn own)
    (h : ∀ m', Q (.bool true) m') :
    Sts (cx w h₀) (n + 299) lawF [("functions", .ref fs), ("fresh", .ref fr), ("most", .int M 0), ("turning", .ref tn), ("binds", .ref bl), ("tops", .ref tl), ("source", .ref sl)] ((topDef 34).2.1.drop 13) mem (fun _ m => Q .none m) Q := by
  have nl0 : isL (⟨(topDef 34).2.2, true⟩ : Fs) "script" := by kernel_rfl
  have nl1 : isL (⟨(topDef 34).2.2, true⟩ : Fs) "turning" := by kernel_rfl
  have nl2 : isL (⟨(topDef 34).2.2, true⟩ : Fs) "cells" := by kernel_rfl
  have nl3 : isL (⟨(topDef 34).2.2, true⟩ : Fs) "most" := by kernel_rfl
  have nl4 : isL (⟨(topDef 34).2.2, true⟩ : Fs) "fresh" := by kernel_rfl
  have nl5 : isL (⟨(topDef 34).2.2, true⟩ : Fs) "functions" := by kernel_rfl
  have nl6 : isL (⟨(topDef 34).2.2, true⟩ : Fs) "far" := by kernel_rfl
  have nl7 : isL (⟨(topDef 34).2.2, true⟩ : Fs) "node" := by kernel_rfl
  have nl8 : isL (⟨(topDef 34).2.2, true⟩ : Fs) "name" := by kernel_rfl
  have nl9 : isL (⟨(topDef 34).2.2, true⟩ : Fs) "value" := by kernel_rfl
  have nl10 : isL (⟨(topDef 34).2.2, true⟩ : Fs) "is_plain_top" := by kernel_rfl
  have nl11 : isL (⟨(topDef 34).2.2, true⟩ : Fs) "many" := by kernel_rfl
  have nl12 : isL (⟨(topDef 34).2.2, true⟩ : Fs) "asked" := by kernel_rfl
  have nl13 : isL (⟨(topDef 34).2.2, true⟩ : Fs) "later" := by kernel_rfl
  have nl14 : isL (⟨(topDef 34).2.2, true⟩ : Fs) "is_let" := by kernel_rfl
  have nl15 : isG (⟨(topDef 34).2.2, true⟩ : Fs) "_law_pool" := by kernel_rfl
  have nl16 : isG (⟨(topDef 34).2.2, true⟩ : Fs) "range" := by kernel_rfl
  have nl17 : isG (⟨(topDef 34).2.2, true⟩ : Fs) "_law_take" := by kernel_rfl
  have nl18 : isG (⟨(topDef 34).2.2, true⟩ : Fs) "sorted" := by kernel_rfl
  have nl19 : isG (⟨(topDef 34).2.2, true⟩ : Fs) "recursive_names" := by kernel_rfl
  have nl20 : isG (⟨(topDef 34).2.2, true⟩ : Fs) "arities_of" := by kernel_rfl
  have nl21 : isG (⟨(topDef 34).2.2, true⟩ : Fs) "dict" := by kernel_rfl
  have nl22 : isG (⟨(topDef 34).2.2, true⟩ : Fs) "cells_of" := by kernel_rfl
  have nl23 : isG (⟨(topDef 34).2.2, true⟩ : Fs) "Fresh" := by kernel_rfl
  have nl24 : isG (⟨(topDef 34).2.2, true⟩ : Fs) "TopFunctions" := by kernel_rfl
  have nl25 : isG (⟨(topDef 34).2.2, true⟩ : Fs) "App" := by kernel_rfl
  have nl26 : isG (⟨(topDef 34).2.2, true⟩ : Fs) "Var" := by kernel_rfl
  have nl27 : isG (⟨(topDef 34).2.2, true⟩ : Fs) "Lit" := by kernel_rfl
  have nl28 : isG (⟨(topDef 34).2.2, true⟩ : Fs) "Con" := by kernel_rfl
  have nl29 : isG (⟨(topDef 34).2.2, true⟩ : Fs) "isinstance" := by kernel_rfl
  have nl30 : isG (⟨(topDef 34).2.2, true⟩ : Fs) "Lam" := by kernel_rfl
  have nl31 : isG (⟨(topDef 34).2.2, true⟩ : Fs) "_law_many" := by kernel_rfl
  have nl32 : isG (⟨(topDef 34).2.2, true⟩ : Fs) "len" := by kernel_rfl
  have nl33 : isG (⟨(topDef 34).2.2, true⟩ : Fs) "size_of" := by kernel_rfl
  have nl34 : isG (⟨(topDef 34).2.2, true⟩ : Fs) "min" := by kernel_rfl
  have nl35 : isC (⟨(topDef 34).2.2, true⟩ : Fs) "source" := by kernel_rfl
  have nl36 : isC (⟨(topDef 34).2.2, true⟩ : Fs) "tops" := by kernel_rfl
  have nl37 : isC (⟨(topDef 34).2.2, true⟩ : Fs) "binds" := by kernel_rfl
  have nl38 : isC (⟨(topDef 34).2.2, true⟩ : Fs) "told" := by kernel_rfl
  have hnd := F.D.nodup
  have hbl := F.D.len
  have hown := F.ow
  have hM := F.Mle
  obtain ⟨ts, x1, x2, x3⟩ := F.D.binds.at
  refine sts_cons (st_for ?_ (by intro _ _; rfl))
  refine ev_cell rfl (by with_reducible assumption) ?_
  refine ⟨_, _, .inl ⟨bl, rfl, .inl x1, rfl⟩, fun i ρ₁ m => (∀ p ∈ ([("functions", .ref fs), ("fresh", .ref fr), ("most", .int M 0), ("turning", .ref tn), ("binds", .ref bl)] : Loc), ρ₁.lookup p.1 = some p.2) ∧ Grow mem m, ⟨(by walk_at "WEAK"), Grow.refl _⟩, ?_, ?_, ?_⟩
  · rintro i ρ₁ m ⟨_, y1⟩
    exact .inl (y1 _ _ x1)
  rotate_left
  · rintro ρ₁ m ⟨hρ, y1⟩
    (walk_at "GO")
    exact h m
  rintro i x ρ₁ m hx' ⟨hρ, y1⟩
  obtain ⟨b, t, hbi, rfl, ht, _⟩ := x3 i x hx'
  have hbm := List.mem_of_getElem? hbi
  have hsz := F.D.size b hbm
  have hpar := F.D.params b hbm
  have F1 := F.grow y1
  have he := F1.D.binds.2 b hbm
  obtain ⟨kk, cs, ps, ek, hx, hps⟩ := he.node
  have hke : b.e.kd = kk := by rw [ek]; rfl
  have hkid : b.e.kids = ps := by rw [ek]; rfl
  have hpl2 := hps.length
  refine as_tuple (y1 _ _ ht) rfl ?_ rfl
  refine ass_cons (as_name (sto_local (by with_reducible assumption) (ass_cons (as_name (sto_local (by with_reducible assumption) (ass_nil ?_))) rfl))) rfl
  refine Sts.weaken [("value", .ref b.a), ("name", .str b.x 0), ("functions", .ref fs), ("fresh", .ref fr), ("most", .int M 0), ("turning", .ref tn), ("binds", .ref bl)] ?_ ?_
  · refine List.forall_mem_cons.mpr ⟨by simp, List.forall_mem_cons.mpr ⟨by rw [lookup_cons_ne (by dsimp only; decide)]; simp, fun p hp => ?_⟩⟩
    have hne : p.1 ≠ "name" ∧ p.1 ≠ "value" := by
      revert p
      repeat' (first | refine List.forall_mem_cons.mpr ⟨by dsimp only; decide, ?_⟩ | exact List.forall_mem_nil _)
    rw [lookup_cons_ne hne.2, lookup_cons_ne hne.1]
    exact hρ p hp
  refine sts_cons (st_assign ?_ rfl rfl rfl)
  -- is_plain_top
  refine Ev.mono (Q := fun v m' => v = .bool (plainB own b) ∧ Grow m m') ?_ ?_
  · have hmt : decide (b.x ∉ turn) = !own b.x := by
      cases ho : own b.x with
      | true => exact decide_eq_false (fun q => q ((hown b.x).mp ho))
      | false => exact decide_eq_true (fun q => by rw [(hown b.x).mpr q] at ho; cases ho)
    refine ev_and2 ?_
    (walk_at "GO")
    refine cmp_notInL (.inl F1.tt) ?_
    rw [hmt]
    refine tru_bool ?_
    cases ho : own b.x with
    | true => exact iteF ⟨by simp [plainB, ho], Grow.refl _⟩
    | false =>
      refine iteT ?_
      refine ev_or2 ?_
      refine ev_call (ev_builtin gn_isinstance bb_isinstance (by assumption) ⟨callee_builtin, ?_⟩ (by decide) (by decide)) rfl
      (walk_at "GO")
      refine ev_tuple ?_
      (walk_at "GO")
      refine ev_global g_Lit (by with_reducible assumption) ?_
      (walk_at "GO")
      refine ev_global g_Var (by with_reducible assumption) ?_
      (walk_at "GO")
      refine ⟨by simp, fun tp htp => ?_⟩
      (walk_at "GO")
      have g1 := Grow.upd (o := .tup [er (.ref 108), er (.ref 66)]) htp
      obtain ⟨fl, q1, q2, q3⟩ := hx.grow g1
      refine cal_isinstT (ok_k kk) q1 upd_same (ik_LV kk) ?_
      generalize upd m tp (.tup [er (.ref 108), er (.ref 66)]) = m1 at g1 q1 q2 q3 ⊢
      refine tru_bool ?_
      cases hvl : kk.isVar || kk.isLit with
      | true => exact iteT ⟨by simp [plainB, ho, Ex.atom, hke, hvl], g1⟩
      | false =>
        refine iteF ?_
        refine ev_and2 ?_
        refine ev_call (ev_builtin gn_isinstance bb_isinstance (by assumption) ⟨callee_builtin, ?_⟩ (by decide) (by decide)) rfl
        (walk_at "GO")
        refine ev_global g_Con (by with_reducible assumption) ?_
        (walk_at "GO")
        refine cal_isinst (ok_k kk) q1 (ik_Con kk) ?_
        refine tru_bool ?_
        cases hc : kk.isCon with
        | false => exact iteF ⟨by simp [plainB, ho, Ex.atom, hke, hvl, hc], g1⟩
        | true =>
          refine iteT ?_
          have hkc : kk = .con := by cases kk <;> first | rfl | (cases hc; done)
          subst hkc
          obtain ⟨l, u1, u2⟩ := q3
          (walk_at "GO")
          refine geta_inst ok_Con q1 u1 (fun i q => by cases q) na_Con_args ?_
          refine ev_list (evs_nil ⟨by simp, fun el hel => ?_⟩)
          refine cmp_eqNil (.inl (Grow.upd hel _ _ u2)) (.inl upd_same) ?_
          refine ⟨?_, g1.trans (Grow.upd hel)⟩
          have : (refs cs).isEmpty = ps.isEmpty := by cases cs <;> cases ps <;> simp [refs] at hpl2 ⊢
          simp [plainB, ho, Ex.atom, hke, hkid, Kd.isCon, Kd.isVar, Kd.isLit, this]
  rintro v m1 ⟨rfl, g1⟩
  (walk_at "GO")
  refine ev_call (ev_global g_Var (by assumption) ⟨callee_K ke_Var, ?_⟩) rfl
  (walk_at "GO")
  refine new_Var fun nd m2 n2 g2 e2 => ?_
  (walk_at "GON")
  refine St.mid (fun m' => Grow m2 m') ?_ fun m3 g3 => ?_
  · refine st_if ?_
    (walk_at "GO")
    have F2 := F1.grow (g1.trans g2)
    refine ev_meth (ev_local rfl (by with_reducible assumption) ⟨_, meth_own ok_TopFunctions F2.ff fi_TopFunctions_instead_of ty_TopFunctions_instead_of (by rfl), rfl, callee_K ke_TopFunctions_instead_of, ?_⟩) rfl rfl rfl (by decide)
    (walk_at "GO")
    refine (instead_var (n := n + 296) (x := b.x) F2.ff F2.dd (fun b hb => ⟨(F2.rows b hb).1, (F2.rows b hb).2.1⟩) ⟨_, e2, rfl, rfl, rfl⟩ fun m3 g3 => ?_).cal
    rw [insteadVar_eq hnd hbm]
    (walk_at "GO")
    refine ev_ifexp ?_
    (walk_at "GO")
    cases hpb : plainB own b with
    | true =>
      refine iteT ?_
      (walk_at "GO")
      rw [if_pos rfl]
      refine cmp_isntSame ?_
      (walk_at "GO")
      exact sts_nil ⟨rfl, g3⟩
    | false =>
      refine iteF ?_
      (walk_at "GO")
      rw [if_neg (by decide)]
      refine cmp_isntSame ?_
      (walk_at "GO")
      exact sts_nil ⟨rfl, g3⟩
  refine sts_cons (St.weaken [("value", .ref b.a), ("name", .str b.x 0), ("functions", .ref fs), ("fresh", .ref fr), ("most", .int M 0), ("turning", .ref tn), ("binds", .ref bl)] (by walk_at "WEAK") ?_)
  have F3 := F1.grow ((g1.trans g2).trans g3)
  refine st_for ?_ (by intro _ _; rfl)
  refine ev_call (ev_builtin gn_range bb_range (by assumption) ⟨callee_type, ?_⟩ (by decide) (by decide)) rfl
  (walk_at "GO")
  refine cal_range2 fun rg hrg => ?_
  have g4 : Grow m3 (upd m3 rg (.rng 1 4)) := Grow.upd hrg
  have e4 : upd m3 rg (.rng 1 4) rg = some (.rng 1 4) := upd_same
  generalize upd m3 rg (.rng 1 4) = m4 at g4 e4 ⊢
  have G4 : Grow mem m4 := (((y1.trans g1).trans g2).trans g3).trans g4
  have hx4 := hx.grow (((g1.trans g2).trans g3).trans g4)
  have he4 := he.grow (((g1.trans g2).trans g3).trans g4)
  refine ⟨rngVals 1 4, .rng 1 4, .inr ⟨rg, 1, 4, rfl, e4, by decide, by decide, by decide, by decide, rfl, rfl⟩, fun i ρ₁ m => ρ₁ = ([("value", .ref b.a), ("name", .str b.x 0), ("functions", .ref fs), ("fresh", .ref fr), ("most", .int M 0), ("turning", .ref tn), ("binds", .ref bl)] : Loc) ∧ Grow m4 m, ⟨rfl, Grow.refl _⟩, ?_, ?_, ?_⟩
  · rintro i ρ₁ m ⟨rfl, y1⟩
    exact rfl
  rotate_left
  · rintro ρ₁ m ⟨rfl, y1⟩
    exact sts_nil ⟨[("functions", .ref fs), ("fresh", .ref fr), ("most", .int M 0), ("turning", .ref tn), ("binds", .ref bl)], (by walk_at "WEAK"), (by walk_at "WEAK"), G4.trans y1⟩
  rintro j x ρ₁ m5 hx2 ⟨rfl, y5⟩
  obtain ⟨rfl, hj⟩ := rng_get hx2
  have hj3 : j < 3 := by simpa using hj
  obtain ⟨N, hN⟩ : ∃ N : Nat, 1 + (j : Int) = (N : Int) := ⟨1 + j, by omega⟩
  rw [hN]
  have hN4 : N ≤ 4 := by omega
  refine as_name (sto_local (by with_reducible assumption) ?_)
  refine sts_cons ?_
  (walk_at "GO")
  refine ev_call (ev_global g_App (by assumption) ⟨callee_K ke_App, ?_⟩) rfl
  (walk_at "GO")
  refine ev_call (ev_global g_Var (by assumption) ⟨callee_K ke_Var, ?_⟩) rfl
  (walk_at "GO")
  refine new_Var fun a1 m6 n6 g6 e6 => ?_
  refine evs_cons ?_ rfl
  refine ev_comp [] (by kernel_rfl) (fun p hp => by cases hp) ?_
  refine ev_call (ev_builtin gn_range bb_range (by assumption) ⟨callee_type, ?_⟩ (by decide) (by decide)) rfl
  (walk_at "GO")
  refine cal_range1 fun r2 hr2 => ?_
  have g7 : Grow m6 (upd m6 r2 (.rng 0 N)) := Grow.upd hr2
  have e7 : upd m6 r2 (.rng 0 N) r2 = some (.rng 0 N) := upd_same
  generalize upd m6 r2 (.rng 0 N) = m7 at g7 e7 ⊢
  refine ⟨rngVals 0 N, .rng 0 N, .inr ⟨r2, 0, N, rfl, e7, by omega, by omega, by omega, by omega, rfl, rfl⟩, fun i out D m => Grow m7 m ∧ m7 D = none ∧ m D = some (.list out) ∧ i ≤ N ∧ ∃ as : List Addr, out = refs as ∧ as.length = i, ?_, ?_, ?_, ?_⟩
  · intro D hD
    exact ⟨Grow.upd hD, hD, upd_same, Nat.zero_le _, [], rfl, rfl⟩
  · rintro i out D m ⟨v1, v2, v3, v4, as, rfl, v5⟩
    exact ⟨rfl, v3, by simp [refs]; omega⟩
  · rintro i x out D m hx3 ⟨v1, v2, v3, v4, as, rfl, v5⟩
    obtain ⟨rfl, hi⟩ := rng_get hx3
    have hi' : i < N := by simpa using hi
    refine as_name (sto_local (comp_local (by kernel_rfl)) (ifs_nil (iteT ?_)))
    refine ev_call (ev_global g_Lit (by kernel_rfl) ⟨callee_K ke_Lit, ?_⟩) rfl
    refine evs_cons (ev_str (evs_cons (ev_local rfl (comp_local (by kernel_rfl)) (evs_nil ?_)) rfl)) rfl
    refine new_Lit fun a2 m8 n8 g8 e8 => ?_
    exact ⟨g8 _ _ v3, (v1.trans g8).set v2, v2, upd_same, hi', as ++ [a2], by simp [refs], by simp [v5]⟩
  rintro l out m8 ⟨v1, v2, v3, v4, as, rfl, v5⟩
  have hNN : (rngVals 0 (N : Int)).length = N := by simp [rngVals]
  rw [hNN] at v5
  (walk_at "GO")
  refine new_App fun aa m9 n9 g9 e9 => ?_
  (walk_at "GO")
  have G9 : Grow m4 m9 := (((y5.trans g6).trans g7).trans v1).trans g9
  have F9 := F3.grow (g4.trans G9)
  have hl9 := g9 _ _ v3
  refine ev_meth (ev_local rfl (by with_reducible assumption) ⟨_, meth_own ok_TopFunctions F9.ff fi_TopFunctions_instead_of ty_TopFunctions_instead_of (by rfl), rfl, callee_K ke_TopFunctions_instead_of, ?_⟩) rfl rfl rfl (by decide)
  (walk_at "GO")
  have hxa : ExNode m9 a1 (.var b.x) [] := ⟨_, ((g7.trans v1).trans g9) _ _ e6, rfl, rfl, rfl⟩
  -- what is handed back
  refine Cal.mono (Q := fun v m' => Grow m9 m' ∧ ∃ la, v = .ref la ∧ ((letB own M N b = true ∧ m' la = some (.inst 148 [("args", .ref l), ("fun", .ref b.a)])) ∨ (letB own M N b = false ∧ la = aa))) ?_ ?_
  · have hlet := insteadApp_eq (own := own) (M := M) (n := N) hnd hbm
    refine (instead_app (n := n + 296) (cs := as) F9.ff F9.dd F9.rows e9 rfl rfl hl9 (by omega) hxa (fun hq => ?_) fun b' hq r m' r1 r2 r3 => ?_).cal
    · rw [v5, hlet] at hq
      refine ⟨Grow.refl _, aa, rfl, .inr ⟨?_, rfl⟩⟩
      cases hb : letB own M N b with
      | true => rw [hb] at hq; cases hq
      | false => rfl
    · rw [v5, hlet] at hq
      cases hb : letB own M N b with
      | true =>
        rw [hb, if_pos rfl] at hq; cases hq
        exact ⟨r2, r, rfl, .inl ⟨rfl, r3⟩⟩
      | false => rw [hb] at hq; cases hq
  rintro v m10 ⟨g10, la, rfl, hla⟩
  have F10 := F9.grow g10
  have G10 := G9.trans g10
  refine as_name (sto_local (by with_reducible assumption) ?_)
  refine sts_cons (st_assign ?_ rfl rfl rfl)
  -- is_let
  refine Ev.mono (Q := fun v m' => v = .bool (letB own M N b) ∧ Grow m10 m') ?_ ?_
  · obtain ⟨fl, q1, q2, q3⟩ := hx4.grow G10
    refine ev_boolCons ?_
    refine ev_call (ev_builtin gn_isinstance bb_isinstance (by assumption) ⟨callee_builtin, ?_⟩ (by decide) (by decide)) rfl
    (walk_at "GO")
    refine ev_global g_Lam (by with_reducible assumption) ?_
    (walk_at "GO")
    refine cal_isinst (ok_k kk) q1 (ik_Lam kk) ?_
    refine tru_bool ?_
    cases hlam : kk.isLam with
    | false => exact ⟨by simp [letB, hke, hlam], Grow.refl _⟩
    | true =>
      have hkl : ∃ xs, kk = .lam xs := by cases kk <;> first | exact ⟨_, rfl⟩ | (cases hlam; done)
      obtain ⟨xs, rfl⟩ := hkl
      obtain ⟨bb, pl, _, _, u5, u6⟩ := q3
      have hpp : b.e.params = xs := by rw [ek]; rfl
      show Ev _ _ _ _ (.BoolOp .And _ _) _ _
      refine ev_boolCons ?_
      (walk_at "GO")
      refine cmp_notInL (.inl F10.tt) ?_
      have hmt : decide (b.x ∉ turn) = !own b.x := by
        cases ho : own b.x with
        | true => exact decide_eq_false (fun q => q ((hown b.x).mp ho))
        | false => exact decide_eq_true (fun q => by rw [(hown b.x).mpr q] at ho; cases ho)
      rw [hmt]
      refine tru_bool ?_
      cases ho : own b.x with
      | true => exact ⟨by simp [letB, ho], Grow.refl _⟩
      | false =>
        show Ev _ _ _ _ (.BoolOp .And _ _) _ _
        refine ev_and2 ?_
        (walk_at "GO")
        refine ev_call (ev_global g__law_many (by assumption) ⟨callee_K ke__law_many, ?_⟩) rfl
        (walk_at "GO")
        refine (many_ok 60 (n := n + 57) (he4.grow G10) hsz (by decide) fun m11 g11 => ?_).cal
        (walk_at "GO")
        have hdm : decide ((b.e.size : Int) ≤ (M : Int)) = decide (b.e.size ≤ M) := decide_eq_decide.mpr (by omega)
        rw [hdm]
        cases hs : decide (b.e.size ≤ M) with
        | false => exact iteF ⟨by simp [letB, hs], g11⟩
        | true =>
          refine iteT ?_
          (walk_at "GO")
          refine ev_call (ev_builtin gn_len bb_len (by assumption) ⟨callee_builtin, ?_⟩ (by decide) (by decide)) rfl
          (walk_at "GO")
          refine geta_inst ok_Lam (g11 _ _ q1) u5 (fun i q => by cases q) na_Lam_params ?_
          refine evs_nil ?_
          refine cal_len (.inl (g11 _ _ u6)) (by have := hpar; rw [hpp] at this; simp [sL]; omega) ?_
          (walk_at "GO")
          refine ⟨?_, g11⟩
          have hdp : decide (((sL xs).length : Int) ≤ (N : Int)) = decide (b.e.params.length ≤ N) := decide_eq_decide.mpr (by rw [hpp]; simp [sL])
          rw [hdp]
          have hkel : b.e.kd.isLam = true := by rw [hke]; rfl
          simp [letB, hkel, ho, hs]
  rintro v m11 ⟨rfl, g11⟩
  refine as_name (sto_local (by with_reducible assumption) ?_)
  have e11 := g11 _ _ (g10 _ _ e9)
  refine sts_cons (St.mid (fun m' => Grow m11 m') ?_ fun m12 g12 => ?_)
  · refine st_if (tst_pure false (fun Q' q => ?_) (iteF (sts_nil ⟨rfl, Grow.refl _⟩)))
    rcases hla with ⟨hb, hr⟩ | ⟨hb, rfl⟩
    · rw [hb]
      have hr' := g11 _ _ hr
      (walk_at "GO")
      refine geta_inst ok_App hr' rfl (fun i q => by cases q) na_App_fun ?_
      (walk_at "GO")
      refine cmp_isntSame ?_
      (walk_at "GO")
      refine geta_inst ok_App hr' rfl (fun i q => by cases q) na_App_args ?_
      (walk_at "GO")
      refine geta_inst ok_App e11 rfl (fun i q => by cases q) na_App_args ?_
      refine cmp_isntSame ?_
      (walk_at "GO")
      rw [Bool.not_true]
      (walk_at "GO")
      exact q
    · rw [hb]
      (walk_at "GO")
      rw [Bool.not_false]
      (walk_at "GO")
      refine cmp_isntSame ?_
      (walk_at "GO")
      exact q
  have he12 := he4.grow (G10.trans (g11.trans g12))
  refine sts_cons (st_if ?_)
  (walk_at "GO")
  refine ev_call (ev_global g_size_of (by assumption) ⟨callee_K ke_size_of, ?_⟩) rfl
  (walk_at "GO")
  refine (size_of_ok (n := n + 296) (M := (M : Int)) he12 (by omega) (by omega) fun m13 g13 => ?_).cal
  (walk_at "GO")
  refine ev_call (ev_builtin gn_min bb_min (by assumption) ⟨callee_builtin, ?_⟩ (by decide) (by decide)) rfl
  (walk_at "GO")
  refine ev_call (ev_global g__law_many (by assumption) ⟨callee_K ke__law_many, ?_⟩) rfl
  (walk_at "GO")
  refine (many_ok 60 (n := n + 57) (he12.grow g13) hsz (by decide) fun m14 g14 => ?_).cal
  (walk_at "GO")
  refine cal_min ?_
  (walk_at "GO")
  rw [show (min (b.e.size : Int) ((M : Int) + 1) != min (b.e.size : Int) ((M : Int) + 1)) = false from by simp]
  (walk_at "GO")
  exact sts_nil (sts_nil ⟨_, (by walk_at "WEAK"), rfl, (((G10.trans g11).trans g12).trans g13).trans g14⟩)
end
end Mine
end
section
-- F35
set_option maxRecDepth 100000
set_option maxHeartbeats 400000
set_option autoImplicit false
set_option linter.unusedVariables false
set_option linter.unusedSimpArgs false
namespace Mine
open PySem PySem.W PySem.Calls PyProof.Rows
/-- the law answers True -/
theorem law_ok {w : World} {h₀ : Heap} {mem : Mem} {l : Addr} {ns : List Int} (hs : LstAt mem l (iL ns)) (hl : ns.length ≤ 1000) : Cal (cx w h₀) 300 (.ref 486) [.ref l] mem (fun v _ => v = .bool true) :=
  (law_one (n := 0) hs hl fun sl tl bl k bs m1 D1 => law_two D1 fun tn turn m2 D2 t2 nd ht => law_three D2 fun m3 cn td cs g3 hcs c3 d3 =>
    law_four (D2.grow g3) (g3 _ _ t2) ht hcs c3 d3 fun M own fr fs fa d m4 D4 t4 hM ho f4 d4 fa4 => law_five ⟨D4, t4, hM, ho, f4, d4⟩ fa4 fun m5 F5 => law_six F5 fun m' => rfl).cal
theorem ints_er {vs : List Value} {ns : List Int} (h : IntsAre vs ns) : vs.toArray.toList.map er = iL ns := by
  show vs.map er = iL ns
  induction h with
  | nil => rfl
  | cons n t _ ih => rw [List.map_cons, ih]; rfl
/-- what the memory knows at the call's start: the script -/
noncomputable def mem0 (l : Addr) (vs : List Value) : Mem := fun b => if b = l then some (.ro vs) else none
theorem rep0 {c : Cx} {h : Heap} {l : Addr} {us : Array Value} {vs : List Value} (B : Base c) (e : c.h₀ = h) (hl : h.IsList l us) (hv : us.toList.map er = vs) : Rep c (mem0 l vs) h where
  base := B
  stay := fun b o q => e ▸ q
  at_ := fun a o q => by
    unfold mem0 at q
    split at q
    · next h => cases q; subst h; exact ⟨us, hl, hv⟩
    · cases q
  new := fun a o q => by
    unfold mem0 at q
    split at q
    · next h => cases q; exact .inl ⟨vs, rfl⟩
    · cases q
theorem room0 : Room 300 callerA := ⟨rfl, by show 1 + claimMargin + 300 < 1000; decide, by show 4 + 8 * 300 < 9900; decide⟩
noncomputable abbrev YP (w : World) (h : Heap) : Prop := (K w.params).In h ∧ ∃ o, h.get? sysModules = some o
/-- the call of the law -/
theorem law_call {w : World} {s : Shared} {mg mb : Str → Option Value} (hg : s.heap.Ns mainGlobals mg) (hb : s.heap.Ns builtinsNs mb) (hbb : ∀ x : Str, x ≠ "__name__" → mb x = bootBuiltins x) (hlim : s.heap.NoLimit) (Y : YP w s.heap)
    {a l : Addr} (ha : mg "law" = some (.ref a)) {us : Array Value} {ns : List Int} (hl : s.heap.IsList l us) (hv : us.toList.map er = iL ns) (hn : ns.length ≤ 1000) {Q : Value → Shared → Prop} {E : Value → Shared → Prop}
    (hQ : ∀ s', (∀ b o, s.heap.get? b = some o → s'.heap.get? b = some o) → (∃ h tk, s' = { s with heap := h, toks := tk }) → Q (.bool true) s') :
    wpAny (model PySem.Challenge.pw_og0012_01 w) callerA (call (.ref a) [.ref l]) Q E s := by
  have B : Base (cx w s.heap) := ⟨Y.1, ⟨mg, hg⟩, ⟨mb, hb, hbb⟩, hlim, Y.2⟩
  have R := rep0 (c := cx w s.heap) B rfl hl hv
  have e : mg "law" = some (.ref 486) := mg_of Y.1 hg g_law
  rw [e] at ha; cases ha
  have h := law_ok (w := w) (h₀ := s.heap) (mem := mem0 l (iL ns)) (l := l) (ns := ns) (.inr (if_pos rfl)) hn
  refine wpAny_mono (h (.ref 486) [.ref l] rfl rfl callerA s room0 R) (fun v s' ⟨m', N, q⟩ => ?_) fun _ _ f => f.elim
  rw [er_bool q]
  exact hQ s' N.rep.stay N.shape
end Mine
end
section
-- F36
set_option Elab.async false
set_option maxRecDepth 100000
set_option maxHeartbeats 4000000
set_option autoImplicit false
set_option linter.unusedVariables false
set_option linter.unusedSimpArgs false
namespace Mine
open PySem PySem.W PySem.Calls PyProof.Rows
theorem said_tw : PySem.W.Fast.tw9446332074065402090 PySem.Challenge.rw_og0012_01 = true := by kernel_rfl
theorem said : PySem.Challenge.rw_og0012_01.wellSaid = true := (congrFun PySem.W.Fast.te9446332074065402090 _).trans said_tw
theorem ka_k (P : Params) : KA = (K P).map (·.1) := by kernel_rfl
theorem yp_of (w : World) (s : Shared) (e : (KA.map s.heap.get?, (s.heap.get? sysModules).isSome) = ((K w.params).map fun p => some p.2, true)) : YP w s.heap :=
  ⟨InK.of ka_k w s (congrArg Prod.fst e), Option.isSome_iff_exists.mp (congrArg Prod.snd e)⟩
theorem yp_keeps (w : World) (h h' : Heap) (x : YP w h) (k : ∀ b o, h.get? b = some o → h'.get? b = some o) : YP w h' := ⟨InK.keeps w h h' x.1 k, let ⟨o, e⟩ := x.2; ⟨o, k _ _ e⟩⟩
end Mine
open PySem PySem.W PySem.Calls PyProof.Rows Mine
theorem PySem.Challenge.cw_og0012_01_holds : PySem.Challenge.rw_og0012_01.Holds := by
  refine holds_law said fun said' => holds_open (q := q) (loose := loose) (Xt := myXt) (XP := XL q []) (YP := YP) left yp_of yp_keeps (fun s e => xl_of s (Bool.and_eq_true_iff.mp e).1) XL.keeps (by rfl) (by rfl) (by rfl) (fun s e => recFacts_nil rfl) (by rfl) said' (by decide +kernel) ⟨rfl, rfl, rfl, rfl, rfl, by decide +kernel⟩ ?hw ?hc
  case hw => w_witness2
  case hc =>
    intro w s₀ s₁ mg mb G Y fa o pm cd doc dV kV ho hd hcd hD hmg hg args vals as hpre hlay hrd hwl hlo
    have T := G.T
    have hm : mg "law" = some (.ref fa) := hmg
    clear hd hcd hD ho hmg
    wrow_args hpre hlay hrd hwl hlo
    rename_i ns _ _ _ _ _ _ _ l vs _ hL _ _ _ hI _ hn _
    refine law_call T.g T.b T.builtins T.nolimit Y hm hL (ns := ns) (ints_er hI) (by omega) fun s' keep e => ?_
    obtain ⟨h, tk, rfl⟩ := e
    exact ⟨.inl ⟨.bool true, .bool true, [], rfl, fun _ => rfl, .bool true, by wrow_post, fun _ => ⟨List.nodup_nil, fun _ h => nomatch h⟩⟩, .of_keep keep, rfl, .of_eq hg⟩
end
