import PyProof.Rows.All
import Wide.All
import Open.Line
import Wide.FinOn
import OpenK.KWalk
import OpenK.KCall
import OpenK.KCell
import OpenK.KGet
import OpenK.KOps
import OpenK.KList
import KE.IntBitsLaws
import Open.Boot
import Open.Tree
import PySem.Challenge.RW_nn0015_01
set_option compiler.extract_closed false
section
open PySem PySem.W PyProof.Rows PySem.Calls PyProof.V PySem.SeqAt
set_option Elab.async false
set_option linter.unusedVariables false
set_option maxRecDepth 100000
set_option maxHeartbeats 4000000
namespace Mine
/-- a def's code object -/
def cdK (n : Str) (t line argc r : Nat) (u v : Value) (x k : Nat) : Obj :=
  { cls := .type "code", data := .fields #[.str n t, .str n (t + 1), .str "/claim/cut.py" (t + 2), .int line 0, .int argc 0, .int 0 0, .int 0 0, .int 3 0, .ref r, .bool true, .int 181 0, .ref (r + 1), .none, u, v, .ref x, .int k 0, .int line 0, .str "/claim/cut.py" (k + 1)] }
/-- the object of the i-th statement of the text, a def -/
def fnK (i : Nat) (md : Value) (c : Addr) : Obj := match PySem.Challenge.pw_nn0015_01.main.body.drop i with
  | .FunctionDef name params body _ _ _ scope _ _ _ :: _ => { cls := .type "function", data := .func { name := name, qualname := name, params := params, body := .stmts body, scope := scope, globals := 3, closure := [], defaults := .none, kwdefaults := .none, pyModule := md, code := .ref c } }
  | _ => { cls := .none }
/-- what stands at the call -/
def hK (P : Params) : Frag := [
  (3, { cls := .type "dict", data := .dict #[
⟨PySem.PyData.keyHash P "__name__", .str "__name__" 165, .str "law_nn0015_01" 456⟩,
    ⟨PySem.PyData.keyHash P "__doc__", .str "__doc__" 166, .none⟩,
    ⟨PySem.PyData.keyHash P "__package__", .str "__package__" 167, .none⟩,
    ⟨PySem.PyData.keyHash P "__loader__", .str "__loader__" 168, .builtin "__main__.__loader__#opaque"⟩,
    ⟨PySem.PyData.keyHash P "__spec__", .str "__spec__" 169, .none⟩,
    ⟨PySem.PyData.keyHash P "__annotations__", .str "__annotations__" 170, .ref 6⟩,
    ⟨PySem.PyData.keyHash P "__builtins__", .str "__builtins__" 171, .ref 4⟩,
    ⟨PySem.PyData.keyHash P "__file__", .str "__file__" 173, .str "/claim/cut.py" 172⟩,
    ⟨PySem.PyData.keyHash P "__cached__", .str "__cached__" 174, .none⟩,
    ⟨PySem.PyData.keyHash P "GmpError", .str "GmpError" 208, .ref 24⟩,
    ⟨PySem.PyData.keyHash P "OutOfRange", .str "OutOfRange" 224, .ref 37⟩,
    ⟨PySem.PyData.keyHash P "normal", .str "normal" 232, .ref 46⟩,
    ⟨PySem.PyData.keyHash P "compare", .str "compare" 241, .ref 53⟩,
    ⟨PySem.PyData.keyHash P "add", .str "add" 254, .ref 60⟩,
    ⟨PySem.PyData.keyHash P "sub", .str "sub" 268, .ref 67⟩,
    ⟨PySem.PyData.keyHash P "shift_left", .str "shift_left" 283, .ref 74⟩,
    ⟨PySem.PyData.keyHash P "shift_right", .str "shift_right" 298, .ref 81⟩,
    ⟨PySem.PyData.keyHash P "bits", .str "bits" 306, .ref 88⟩,
    ⟨PySem.PyData.keyHash P "low", .str "low" 317, .ref 95⟩,
    ⟨PySem.PyData.keyHash P "ring_one", .str "ring_one" 327, .ref 102⟩,
    ⟨PySem.PyData.keyHash P "ring_add", .str "ring_add" 338, .ref 109⟩,
    ⟨PySem.PyData.keyHash P "ring_sub", .str "ring_sub" 348, .ref 116⟩,
    ⟨PySem.PyData.keyHash P "ring_neg", .str "ring_neg" 357, .ref 123⟩,
    ⟨PySem.PyData.keyHash P "ring_fold", .str "ring_fold" 369, .ref 130⟩,
    ⟨PySem.PyData.keyHash P "ring_shift", .str "ring_shift" 379, .ref 137⟩,
    ⟨PySem.PyData.keyHash P "ring_mul", .str "ring_mul" 390, .ref 144⟩,
    ⟨PySem.PyData.keyHash P "forward", .str "forward" 406, .ref 151⟩,
    ⟨PySem.PyData.keyHash P "backward", .str "backward" 412, .ref 156⟩,
    ⟨PySem.PyData.keyHash P "convolved", .str "convolved" 418, .ref 161⟩,
    ⟨PySem.PyData.keyHash P "weighted", .str "weighted" 424, .ref 166⟩,
    ⟨PySem.PyData.keyHash P "convolved_minus", .str "convolved_minus" 437, .ref 173⟩,
    ⟨PySem.PyData.keyHash P "mul_school", .str "mul_school" 455, .ref 180⟩,
    ⟨PySem.PyData.keyHash P "_law_deal", .str "_law_deal" 463, .ref 185⟩,
    ⟨PySem.PyData.keyHash P "_law_take", .str "_law_take" 471, .ref 192⟩,
    ⟨PySem.PyData.keyHash P "_law_great", .str "_law_great" 482, .ref 199⟩,
    ⟨PySem.PyData.keyHash P "_law_row", .str "_law_row" 491, .ref 206⟩,
    ⟨PySem.PyData.keyHash P "_law_value", .str "_law_value" 497, .ref 211⟩,
    ⟨PySem.PyData.keyHash P "_law_element", .str "_law_element" 506, .ref 218⟩,
    ⟨PySem.PyData.keyHash P "_law_same", .str "_law_same" 512, .ref 223⟩,
    ⟨PySem.PyData.keyHash P "_law_sums_right", .str "_law_sums_right" 531, .ref 230⟩,
    ⟨PySem.PyData.keyHash P "_law_turned", .str "_law_turned" 540, .ref 237⟩,
    ⟨PySem.PyData.keyHash P "_law_values_right", .str "_law_values_right" 546, .ref 242⟩,
    ⟨PySem.PyData.keyHash P "_law_round_right", .str "_law_round_right" 552, .ref 247⟩,
    ⟨PySem.PyData.keyHash P "law", .str "law" 558, .ref 252⟩] 44 }),
  (45, cdK "normal" 225 6 1 40 (.ref 42) (.ref 43) 44 230), (46, fnK 3 (.str "gmp.limbs" 187) 45),
  (52, cdK "compare" 233 11 2 47 (.ref 49) (.ref 50) 51 239), (53, fnK 4 (.str "gmp.limbs" 187) 52),
  (59, cdK "add" 242 18 3 54 (.ref 56) (.ref 57) 58 252), (60, fnK 5 (.str "gmp.limbs" 187) 59),
  (66, cdK "sub" 255 33 3 61 (.ref 63) (.ref 64) 65 266), (67, fnK 6 (.str "gmp.limbs" 187) 66),
  (73, cdK "shift_left" 269 42 3 68 (.ref 70) (.ref 71) 72 281), (74, fnK 7 (.str "gmp.limbs" 187) 73),
  (80, cdK "shift_right" 284 54 3 75 (.ref 77) (.ref 78) 79 296), (81, fnK 8 (.str "gmp.limbs" 187) 80),
  (87, cdK "bits" 299 61 2 82 (.ref 84) (.ref 85) 86 304), (88, fnK 9 (.str "gmp.limbs" 187) 87),
  (94, cdK "low" 307 63 3 89 (.ref 91) (.ref 92) 93 315), (95, fnK 10 (.str "gmp.limbs" 187) 94),
  (101, cdK "ring_one" 320 69 2 96 (.ref 98) (.ref 99) 100 325), (102, fnK 12 (.str "gmp.rings" 318) 101),
  (108, cdK "ring_add" 328 71 4 103 (.ref 105) (.ref 106) 107 336), (109, fnK 13 (.str "gmp.rings" 318) 108),
  (115, cdK "ring_sub" 339 74 4 110 (.ref 112) (.ref 113) 114 346), (116, fnK 14 (.str "gmp.rings" 318) 115),
  (122, cdK "ring_neg" 349 78 3 117 (.ref 119) (.ref 120) 121 355), (123, fnK 15 (.str "gmp.rings" 318) 122),
  (129, cdK "ring_fold" 358 80 3 124 (.ref 126) (.ref 127) 128 367), (130, fnK 16 (.str "gmp.rings" 318) 129),
  (136, cdK "ring_shift" 370 88 4 131 (.ref 133) (.ref 134) 135 377), (137, fnK 17 (.str "gmp.rings" 318) 136),
  (143, cdK "ring_mul" 380 93 5 138 (.ref 140) (.ref 141) 142 388), (144, fnK 18 (.str "gmp.rings" 318) 143),
  (150, cdK "forward" 391 95 3 145 (.ref 147) (.ref 148) 149 404), (151, fnK 19 (.str "gmp.rings" 318) 150),
  (155, cdK "backward" 407 105 3 152 .none .none 154 410), (156, fnK 20 (.str "gmp.rings" 318) 155),
  (160, cdK "convolved" 413 118 5 157 .none .none 159 416), (161, fnK 21 (.str "gmp.rings" 318) 160),
  (165, cdK "weighted" 419 121 4 162 .none .none 164 422), (166, fnK 22 (.str "gmp.rings" 318) 165),
  (172, cdK "convolved_minus" 425 123 5 167 (.ref 169) (.ref 170) 171 435), (173, fnK 23 (.str "gmp.rings" 318) 172),
  (179, cdK "mul_school" 440 128 3 174 (.ref 176) (.ref 177) 178 453), (180, fnK 25 (.str "gmp.school" 438) 179),
  (184, cdK "_law_deal" 458 139 1 181 .none .none 183 461), (185, fnK 27 (.str "law_nn0015_01" 456) 184),
  (191, cdK "_law_take" 464 145 2 186 (.ref 188) (.ref 189) 190 469), (192, fnK 28 (.str "law_nn0015_01" 456) 191),
  (198, cdK "_law_great" 472 151 2 193 (.ref 195) (.ref 196) 197 480), (199, fnK 29 (.str "law_nn0015_01" 456) 198),
  (205, cdK "_law_row" 483 158 2 200 (.ref 202) (.ref 203) 204 489), (206, fnK 30 (.str "law_nn0015_01" 456) 205),
  (210, cdK "_law_value" 492 164 2 207 .none .none 209 495), (211, fnK 31 (.str "law_nn0015_01" 456) 210),
  (217, cdK "_law_element" 498 171 2 212 (.ref 214) (.ref 215) 216 504), (218, fnK 32 (.str "law_nn0015_01" 456) 217),
  (222, cdK "_law_same" 507 174 3 219 .none .none 221 510), (223, fnK 33 (.str "law_nn0015_01" 456) 222),
  (229, cdK "_law_sums_right" 513 176 5 224 (.ref 226) (.ref 227) 228 529), (230, fnK 34 (.str "law_nn0015_01" 456) 229),
  (236, cdK "_law_turned" 532 184 2 231 (.ref 233) (.ref 234) 235 538), (237, fnK 35 (.str "law_nn0015_01" 456) 236),
  (241, cdK "_law_values_right" 541 189 3 238 .none .none 240 544), (242, fnK 36 (.str "law_nn0015_01" 456) 241),
  (246, cdK "_law_round_right" 547 197 4 243 .none .none 245 550), (247, fnK 37 (.str "law_nn0015_01" 456) 246),
  (251, cdK "law" 553 209 1 248 .none .none 250 556), (252, fnK 38 (.str "law_nn0015_01" 456) 251)]
def hKA : List Addr := [3, 45, 46, 52, 53, 59, 60, 66, 67, 73, 74, 80, 81, 87, 88, 94, 95, 101, 102, 108, 109, 115, 116, 122, 123, 129, 130, 136, 137, 143, 144, 150, 151, 155, 156, 160, 161, 165, 166, 172, 173, 179, 180, 184, 185, 191, 192, 198, 199, 205, 206, 210, 211, 217, 218, 222, 223, 229, 230, 236, 237, 241, 242, 246, 247, 251, 252]
theorem cell_stays {x : Str} (ns : List (Str × NameKind)) : ∀ (n : Nat) (acc : List (Str × Addr)), (ns.lookup x = some .cell → ((cellsFrom n ns acc).lookup x).isSome = true) ∧ ((acc.lookup x).isSome = true → ((cellsFrom n ns acc).lookup x).isSome = true) := by
  induction ns with
  | nil => intro n acc; exact ⟨nofun, id⟩
  | cons p r ih =>
    obtain ⟨y, k⟩ := p
    intro n acc
    have hl : ((y, k) :: r).lookup x = match x == y with | true => some k | false => r.lookup x := List.lookup_cons
    have ha : ∀ v, (((y, v) :: acc).lookup x) = match x == y with | true => some v | false => acc.lookup x := fun v => List.lookup_cons
    unfold cellsFrom
    rw [hl]
    cases hk : (k == NameKind.cell) <;> cases hy : (x == y)
    · exact ih n acc
    · exact ⟨fun e => (by cases e; cases hk), (ih n acc).2⟩
    · exact ⟨(ih _ _).1, fun e => (ih _ _).2 (by rw [ha, hy]; exact e)⟩
    · exact ⟨fun _ => (ih _ _).2 (by rw [ha, hy]; rfl), fun _ => (ih _ _).2 (by rw [ha, hy]; rfl)⟩
theorem kinds_of {ns : List (Str × NameKind)} {binds : List (Str × Value)} (e : (binds.all fun y => ns.lookup y.1 == some .local || ns.lookup y.1 == some .cell) = true) (n : Nat) :
    ∀ x ∈ binds, ns.lookup x.1 = some .local ∨ (ns.lookup x.1 = some .cell ∧ ((cellsFrom n ns []).lookup x.1).isSome = true) := by
  intro x hx
  have h := List.all_eq_true.mp e x hx
  simp only [Bool.or_eq_true, beq_iff_eq] at h
  exact h.imp id fun q => ⟨q, (cell_stays ns n []).1 q⟩
theorem rev_bounds (n : Nat) : sliceRange ((n : Int) - 1) (-1) (-1) = (List.range n).reverse := by
  unfold sliceRange
  rw [if_neg (by decide)]
  have e : (if (n : Int) - 1 > -1 then ((n : Int) - 1 - -1 - -1 - 1) / (- -1) else 0) = n := by
    rw [show (- -1 : Int) = 1 from rfl, Int.ediv_one]
    split <;> (first | lia | omega)
  dsimp only
  rw [e, Int.toNat_natCast]
  refine List.ext_getElem (by simp) fun i h1 h2 => ?_
  rw [List.length_reverse, List.length_range] at h2
  rw [List.getElem_map, List.getElem_reverse, List.getElem_range, List.getElem_range, List.length_range]
  (first | lia | omega)
theorem rev_pick (items : Array Value) : slicePick items none none (some (-1)) = items.toList.reverse.toArray := by
  have e : (List.range items.size).filterMap (items[·]?) = items.toList := by
    have : ∀ (l : List Value), (List.range l.length).filterMap (l[·]?) = l := by
      intro l
      induction l with
      | nil => rfl
      | cons a r ih => rw [List.length_cons, List.range_succ_eq_map, List.filterMap_cons]; simp only [List.getElem?_cons_zero, List.filterMap_map]; exact congrArg (a :: ·) ih
    have h := this items.toList
    simp only [Array.length_toList, Array.getElem?_toList] at h
    exact h
  show ((sliceRange ((items.size : Int) - 1) (-1) (-1)).filterMap (items[·]?)).toArray = _
  rw [rev_bounds, List.filterMap_reverse, e]
/-- two lists of ints, compared -/
theorem reads_ints {h : Heap} {a : Addr} {vs : List Value} {ns : List Int} (hl : h.IsList a vs.toArray) (hi : IntsAre vs ns) : Reads h (.ref a) (.list (ns.map PyData.int)) [a] := by
  have r : ReadsAll h vs (ns.map PyData.int) [] := by
    clear hl
    induction hi with
    | nil => exact .nil
    | cons k t _ ih =>
      have := ReadsAll.cons (Reads.int (h := h) k t) ih
      simpa using this
  obtain ⟨o, ho, hc, n, hd⟩ := hl
  exact Reads.list ho hc hd (by simpa using r)
theorem ints_shape (ns : List Int) : PyData.canLayAll0 (ns.map PyData.int) = true ∧ PyData.depthAll (ns.map PyData.int) ≤ 1 := by
  induction ns with
  | nil => exact ⟨by simp [PyData.canLayAll0], by simp [PyData.depthAll]⟩
  | cons n r ih => exact ⟨by simp [PyData.canLayAll0, PyData.canLay0, ih.1], by simp only [List.map_cons, PyData.depthAll, PyData.depth]; (first | lia | omega)⟩
theorem ints_shaped (ns : List Int) : shaped (.list (ns.map PyData.int)) = true := by
  have h := ints_shape ns
  unfold shaped
  rw [Bool.and_eq_true]
  exact ⟨by simp only [PyData.canLay0]; exact h.1, decide_eq_true (by simp only [PyData.depth]; (first | lia | omega))⟩
theorem ints_mix (ns ms : List Int) : noMixAll (ns.map PyData.int) (ms.map PyData.int) = true := by
  induction ns generalizing ms with
  | nil => cases ms <;> simp [noMixAll]
  | cons n r ih => cases ms <;> simp [noMixAll, noMix, ih]
theorem ints_same (ns ms : List Int) : PySem.Spec.sameAll (ns.map PyData.int) (ms.map PyData.int) = decide (ns = ms) := by
  induction ns generalizing ms with
  | nil => cases ms <;> simp [PySem.Spec.sameAll]
  | cons n r ih =>
    cases ms with
    | nil => simp [PySem.Spec.sameAll]
    | cons k q =>
      simp only [List.map_cons, PySem.Spec.sameAll, PySem.Spec.same, ih]
      by_cases h : n = k <;> simp [h]
section
variable {prog : Program} {w : World} {A : Around} {E : Value → Shared → Prop} {s : Shared} {a b : Addr} {vs us : List Value} {ns ms : List Int} {Q : Value → Shared → Prop}
theorem ints_eq (hl : s.heap.IsList a vs.toArray) (hi : IntsAre vs ns) (hl' : s.heap.IsList b us.toArray) (hi' : IntsAre us ms) (hu : A.units + 64 < cLine)
    (h : Q (.bool (decide (ns = ms))) s) : wpAny (model prog w) A (compareOp .Eq (.ref a) (.ref b)) Q E s :=
  eq_dataH_same (reads_ints hl hi) (reads_ints hl' hi') (ints_shaped ns) (ints_shaped ms) hu (by unfold noMix; exact ints_mix ns ms) (by unfold PySem.Spec.same; rw [ints_same]; exact h)
theorem ints_ne (hl : s.heap.IsList a vs.toArray) (hi : IntsAre vs ns) (hl' : s.heap.IsList b us.toArray) (hi' : IntsAre us ms) (hu : A.units + 64 < cLine)
    (h : Q (.bool (!decide (ns = ms))) s) : wpAny (model prog w) A (compareOp .NotEq (.ref a) (.ref b)) Q E s :=
  ne_dataH_same (reads_ints hl hi) (reads_ints hl' hi') (ints_shaped ns) (ints_shaped ms) hu (by unfold noMix; exact ints_mix ns ms) (by unfold PySem.Spec.same; rw [ints_same]; exact h)
end
end Mine
end
section
open PySem PySem.W PyProof.Rows PySem.Calls
set_option Elab.async false
set_option linter.unusedVariables false
set_option linter.unusedSimpArgs false
set_option linter.unusedSectionVars false
set_option maxRecDepth 100000
set_option maxHeartbeats 4000000
namespace Mine
/-- a word and what stands behind it -/
noncomputable def ke (P : Params) (x : Str) (t : Nat) (v : Value) := (⟨PyData.keyHash P x, .str x t, v⟩ : DictEntry)
/-- the i-th statement of the text, a def, before it is a function -/
noncomputable def fnL (i : Nat) : Obj := match PySem.Challenge.pw_nn0015_01.main.body.drop i with
  | .FunctionDef name params body _ _ _ scope _ _ _ :: _ => { cls := .none, data := .func { name := name, qualname := name, params := params, body := .stmts body, scope := scope, globals := 0, closure := [], defaults := .none, kwdefaults := .none } }
  | _ => { cls := .none }
noncomputable def ob43 : Obj := { cls := .type "tuple", data := .seq #[] }
noncomputable def ob44 : Obj := { cls := .none, data := .fields #[] }
noncomputable def ob45 : Obj := { cls := .type "code", data := .fields #[.str "<module>" 182, .str "<module>" 183, .str "/claim/cut.py" 184, .int 1 0, .int 0 0, .int 0 0, .int 0 0, .int 0 0, .ref 11, .bool false, .int 181 0, .ref 12, .none, .none, .none, .none, .int 185 0, .int 1 0, .str "/claim/cut.py" 186] }
noncomputable def ob46 : Obj := { cls := .type "frame", slots := #[some (.ref 13), some (.ref 3), some (.ref 3), none, some (.str "__main__" 164), none, some (.ref 0)] }
noncomputable def ob49 (P : Params) : Obj := { cls := .none, data := .dict #[ke P "type.__subclasses__.Exception.0" 205 (.int 24 0), ke P "type.__subclasses__.Exception.n" 206 (.int 1 0)] 2 }
noncomputable def ob50 (P : Params) : Obj := { cls := .type "dict", data := .dict #[ke P "__name__" 165 (.str "gmp.limbs" 187), ke P "__doc__" 166 (.none), ke P "__package__" 167 (.none), ke P "__loader__" 168 (.builtin "__main__.__loader__#opaque"), ke P "__spec__" 169 (.none), ke P "__annotations__" 170 (.ref 6), ke P "__builtins__" 171 (.ref 4), ke P "__file__" 173 (.str "/claim/cut.py" 172), ke P "__cached__" 174 (.none), ke P "GmpError" 208 (.ref 24)] 10 }
noncomputable def ob51 : Obj := { cls := .none, data := .fields #[.int 2 0, .int 0 0, .ref 20] }
noncomputable def ob52 : Obj := { cls := .type "tuple", data := .seq #[.type "Exception"] }
noncomputable def ob53 : Obj := { cls := .type "builtin_function_or_method", data := .fields #[.builtin "type.__prepare__", .type "type"] }
noncomputable def ob54 (P : Params) : Obj := { cls := .type "dict", data := .dict #[ke P "__module__" 196 (.str "gmp.limbs" 187), ke P "__qualname__" 198 (.str "GmpError" 197), ke P "__firstlineno__" 200 (.int 2 199), ke P "__static_attributes__" 201 (.ref 22)] 4 }
noncomputable def ob55 : Obj := { cls := .type "tuple", data := .seq #[] }
noncomputable def ob56 : Obj := { cls := .none, data := .fields #[] }
noncomputable def ob57 : Obj := { cls := .type "code", data := .fields #[.str "GmpError" 191, .str "GmpError" 192, .str "/claim/cut.py" 193, .int 2 0, .int 0 0, .int 0 0, .int 0 0, .int 0 0, .ref 18, .bool false, .int 181 0, .ref 19, .none, .none, .none, .none, .int 194 0, .int 2 0, .str "/claim/cut.py" 195] }
noncomputable def ob58 : Obj := { cls := .type "frame", slots := #[some (.ref 20), some (.ref 3), some (.ref 17), none, some (.str "gmp.limbs" 187), none, some (.ref 0)] }
noncomputable def ob59 : Obj := { cls := .type "tuple", data := .seq #[] }
noncomputable def ob60 (P : Params) : Obj := { cls := .type "dict", data := .dict #[ke P "__module__" 196 (.str "gmp.limbs" 187), ke P "__firstlineno__" 200 (.int 2 199), ke P "__static_attributes__" 201 (.ref 22), ke P "__weakref__" 203 (.ref 25), ke P "__doc__" 204 (.none)] 3 }
noncomputable def ob61 : Obj := { cls := .type "type", data := .cls { name := "GmpError", bases := [.type "Exception"], mro := [.ref 24, .type "Exception", .type "BaseException", .type "object"], ns := 23, qualname := "GmpError" }, slots := #[some (.ref 15), none, some (.str "GmpError" 189), some (.str "GmpError" 197), some (.builtin "Exception.__new__"), some (.bool true)] }
noncomputable def ob62 : Obj := { cls := .type "getset_descriptor", data := .fields #[.str "__weakref__" 202, .ref 24, .builtin "ExceptionGroup.__weakref__", .none] }
noncomputable def ob63 : Obj := { cls := .type "super", data := .fields #[.ref 24, .ref 24, .ref 24] }
noncomputable def ob64 : Obj := { cls := .type "builtin_function_or_method", data := .fields #[.builtin "object.__init_subclass__", .ref 24] }
noncomputable def ob65 (P : Params) : Obj := { cls := .type "dict", data := .dict #[ke P "__name__" 165 (.str "gmp.limbs" 187), ke P "__doc__" 166 (.none), ke P "__package__" 167 (.none), ke P "__loader__" 168 (.builtin "__main__.__loader__#opaque"), ke P "__spec__" 169 (.none), ke P "__annotations__" 170 (.ref 6), ke P "__builtins__" 171 (.ref 4), ke P "__file__" 173 (.str "/claim/cut.py" 172), ke P "__cached__" 174 (.none), ke P "GmpError" 208 (.ref 24), ke P "OutOfRange" 224 (.ref 37), ke P "normal" 232 (.ref 46), ke P "compare" 241 (.ref 53), ke P "add" 254 (.ref 60), ke P "sub" 268 (.ref 67), ke P "shift_left" 283 (.ref 74)] 16 }
noncomputable def ob66 : Obj := { cls := .none, data := .fields #[.int 2 0, .int 0 0, .ref 20, .int 4 0, .int 0 0, .ref 33, .int 6 0, .int 0 0, .ref 45, .int 11 0, .int 0 0, .ref 52, .int 18 0, .int 0 0, .ref 59, .int 33 0, .int 0 0, .ref 66, .int 42 0, .int 0 0, .ref 73] }
noncomputable def ob67 : Obj := { cls := .type "type", data := .cls { name := "GmpError", bases := [.type "Exception"], mro := [.ref 24, .type "Exception", .type "BaseException", .type "object"], ns := 23, qualname := "GmpError", subclasses := [.ref 37] }, slots := #[some (.ref 15), none, some (.str "GmpError" 189), some (.str "GmpError" 197), some (.builtin "Exception.__new__"), some (.bool true)] }
noncomputable def ob68 : Obj := { cls := .type "tuple", data := .seq #[.ref 24] }
noncomputable def ob69 : Obj := { cls := .type "builtin_function_or_method", data := .fields #[.builtin "type.__prepare__", .type "type"] }
noncomputable def ob70 (P : Params) : Obj := { cls := .type "dict", data := .dict #[ke P "__module__" 216 (.str "gmp.limbs" 187), ke P "__qualname__" 218 (.str "OutOfRange" 217), ke P "__firstlineno__" 220 (.int 4 219), ke P "__static_attributes__" 221 (.ref 35)] 4 }
noncomputable def ob71 : Obj := { cls := .type "tuple", data := .seq #[] }
noncomputable def ob72 : Obj := { cls := .none, data := .fields #[] }
noncomputable def ob73 : Obj := { cls := .type "code", data := .fields #[.str "OutOfRange" 211, .str "OutOfRange" 212, .str "/claim/cut.py" 213, .int 4 0, .int 0 0, .int 0 0, .int 0 0, .int 0 0, .ref 31, .bool false, .int 181 0, .ref 32, .none, .none, .none, .none, .int 214 0, .int 4 0, .str "/claim/cut.py" 215] }
noncomputable def ob74 : Obj := { cls := .type "frame", slots := #[some (.ref 33), some (.ref 3), some (.ref 30), none, some (.str "gmp.limbs" 187), none, some (.ref 0)] }
noncomputable def ob75 : Obj := { cls := .type "tuple", data := .seq #[] }
noncomputable def ob76 (P : Params) : Obj := { cls := .type "dict", data := .dict #[ke P "__module__" 216 (.str "gmp.limbs" 187), ke P "__firstlineno__" 220 (.int 4 219), ke P "__static_attributes__" 221 (.ref 35), ke P "__doc__" 222 (.none)] 2 }
noncomputable def ob77 : Obj := { cls := .type "type", data := .cls { name := "OutOfRange", bases := [.ref 24], mro := [.ref 37, .ref 24, .type "Exception", .type "BaseException", .type "object"], ns := 36, qualname := "OutOfRange" }, slots := #[some (.ref 28), none, some (.str "OutOfRange" 209), some (.str "OutOfRange" 217), some (.builtin "Exception.__new__"), some (.bool true)] }
noncomputable def ob78 : Obj := { cls := .type "super", data := .fields #[.ref 37, .ref 37, .ref 37] }
noncomputable def ob79 : Obj := { cls := .type "builtin_function_or_method", data := .fields #[.builtin "object.__init_subclass__", .ref 37] }
noncomputable def ob80 : Obj := { cls := .type "tuple", data := .seq #[] }
noncomputable def ob81 : Obj := { cls := .none, data := .fields #[] }
noncomputable def ob82 : Obj := { cls := .type "tuple", data := .seq #[.str "a" 228, .str "end" 229] }
noncomputable def ob83 : Obj := { cls := .type "tuple", data := .seq #[] }
noncomputable def ob84 : Obj := fnL 3
noncomputable def ob85 : Obj := cdK "normal" 225 6 1 40 (.ref 42) (.ref 43) 44 230
noncomputable def ob86 : Obj := fnK 3 (.str "gmp.limbs" 187) 45
noncomputable def ob87 : Obj := { cls := .type "tuple", data := .seq #[] }
noncomputable def ob88 : Obj := { cls := .none, data := .fields #[] }
noncomputable def ob89 : Obj := { cls := .type "tuple", data := .seq #[.str "a" 236, .str "b" 237, .str "at" 238] }
noncomputable def ob90 : Obj := { cls := .type "tuple", data := .seq #[] }
noncomputable def ob91 : Obj := fnL 4
noncomputable def ob92 : Obj := cdK "compare" 233 11 2 47 (.ref 49) (.ref 50) 51 239
noncomputable def ob93 : Obj := fnK 4 (.str "gmp.limbs" 187) 52
noncomputable def ob94 : Obj := { cls := .type "tuple", data := .seq #[] }
noncomputable def ob95 : Obj := { cls := .none, data := .fields #[] }
noncomputable def ob96 : Obj := { cls := .type "tuple", data := .seq #[.str "a" 245, .str "b" 246, .str "w" 247, .str "found" 248, .str "carry" 249, .str "mask" 250, .str "at" 251] }
noncomputable def ob97 : Obj := { cls := .type "tuple", data := .seq #[] }
noncomputable def ob98 : Obj := fnL 5
noncomputable def ob99 : Obj := cdK "add" 242 18 3 54 (.ref 56) (.ref 57) 58 252
noncomputable def ob100 : Obj := fnK 5 (.str "gmp.limbs" 187) 59
noncomputable def ob101 : Obj := { cls := .type "tuple", data := .seq #[] }
noncomputable def ob102 : Obj := { cls := .none, data := .fields #[] }
noncomputable def ob103 : Obj := { cls := .type "tuple", data := .seq #[.str "a" 258, .str "b" 259, .str "w" 260, .str "found" 261, .str "borrow" 262, .str "base" 263, .str "at" 264, .str "limb" 265] }
noncomputable def ob104 : Obj := { cls := .type "tuple", data := .seq #[] }
noncomputable def ob105 : Obj := fnL 6
noncomputable def ob106 : Obj := cdK "sub" 255 33 3 61 (.ref 63) (.ref 64) 65 266
noncomputable def ob107 : Obj := fnK 6 (.str "gmp.limbs" 187) 66
noncomputable def ob108 : Obj := { cls := .type "tuple", data := .seq #[] }
noncomputable def ob109 : Obj := { cls := .none, data := .fields #[] }
noncomputable def ob110 : Obj := { cls := .type "tuple", data := .seq #[.str "a" 272, .str "n" 273, .str "w" 274, .str "spots" 275, .str "few" 276, .str "found" 277, .str "carry" 278, .str "mask" 279, .str "one" 280] }
noncomputable def ob111 : Obj := { cls := .type "tuple", data := .seq #[] }
noncomputable def ob112 : Obj := fnL 7
noncomputable def ob113 : Obj := cdK "shift_left" 269 42 3 68 (.ref 70) (.ref 71) 72 281
noncomputable def ob114 : Obj := fnK 7 (.str "gmp.limbs" 187) 73
noncomputable def ob115 (P : Params) : Obj := { cls := .type "dict", data := .dict #[ke P "__name__" 165 (.str "gmp.rings" 318), ke P "__doc__" 166 (.none), ke P "__package__" 167 (.none), ke P "__loader__" 168 (.builtin "__main__.__loader__#opaque"), ke P "__spec__" 169 (.none), ke P "__annotations__" 170 (.ref 6), ke P "__builtins__" 171 (.ref 4), ke P "__file__" 173 (.str "/claim/cut.py" 172), ke P "__cached__" 174 (.none), ke P "GmpError" 208 (.ref 24), ke P "OutOfRange" 224 (.ref 37), ke P "normal" 232 (.ref 46), ke P "compare" 241 (.ref 53), ke P "add" 254 (.ref 60), ke P "sub" 268 (.ref 67), ke P "shift_left" 283 (.ref 74), ke P "shift_right" 298 (.ref 81), ke P "bits" 306 (.ref 88), ke P "low" 317 (.ref 95), ke P "ring_one" 327 (.ref 102), ke P "ring_add" 338 (.ref 109), ke P "ring_sub" 348 (.ref 116), ke P "ring_neg" 357 (.ref 123), ke P "ring_fold" 369 (.ref 130), ke P "ring_shift" 379 (.ref 137), ke P "ring_mul" 390 (.ref 144), ke P "forward" 406 (.ref 151), ke P "backward" 412 (.ref 156)] 28 }
noncomputable def ob116 : Obj := { cls := .none, data := .fields #[.int 2 0, .int 0 0, .ref 20, .int 4 0, .int 0 0, .ref 33, .int 6 0, .int 0 0, .ref 45, .int 11 0, .int 0 0, .ref 52, .int 18 0, .int 0 0, .ref 59, .int 33 0, .int 0 0, .ref 66, .int 42 0, .int 0 0, .ref 73, .int 54 0, .int 0 0, .ref 80, .int 61 0, .int 0 0, .ref 87, .int 63 0, .int 0 0, .ref 94, .int 69 0, .int 0 0, .ref 101, .int 71 0, .int 0 0, .ref 108, .int 74 0, .int 0 0, .ref 115, .int 78 0, .int 0 0, .ref 122, .int 80 0, .int 0 0, .ref 129, .int 88 0, .int 0 0, .ref 136, .int 93 0, .int 0 0, .ref 143, .int 95 0, .int 0 0, .ref 150, .int 105 0, .int 0 0, .ref 155] }
noncomputable def ob117 : Obj := { cls := .type "tuple", data := .seq #[] }
noncomputable def ob118 : Obj := { cls := .none, data := .fields #[] }
noncomputable def ob119 : Obj := { cls := .type "tuple", data := .seq #[.str "a" 287, .str "n" 288, .str "w" 289, .str "spots" 290, .str "few" 291, .str "found" 292, .str "mask" 293, .str "at" 294, .str "above" 295] }
noncomputable def ob120 : Obj := { cls := .type "tuple", data := .seq #[] }
noncomputable def ob121 : Obj := fnL 8
noncomputable def ob122 : Obj := cdK "shift_right" 284 54 3 75 (.ref 77) (.ref 78) 79 296
noncomputable def ob123 : Obj := fnK 8 (.str "gmp.limbs" 187) 80
noncomputable def ob124 : Obj := { cls := .type "tuple", data := .seq #[] }
noncomputable def ob125 : Obj := { cls := .none, data := .fields #[] }
noncomputable def ob126 : Obj := { cls := .type "tuple", data := .seq #[.str "a" 302, .str "w" 303] }
noncomputable def ob127 : Obj := { cls := .type "tuple", data := .seq #[] }
noncomputable def ob128 : Obj := fnL 9
noncomputable def ob129 : Obj := cdK "bits" 299 61 2 82 (.ref 84) (.ref 85) 86 304
noncomputable def ob130 : Obj := fnK 9 (.str "gmp.limbs" 187) 87
noncomputable def ob131 : Obj := { cls := .type "tuple", data := .seq #[] }
noncomputable def ob132 : Obj := { cls := .none, data := .fields #[] }
noncomputable def ob133 : Obj := { cls := .type "tuple", data := .seq #[.str "a" 310, .str "n" 311, .str "w" 312, .str "spots" 313, .str "few" 314] }
noncomputable def ob134 : Obj := { cls := .type "tuple", data := .seq #[] }
noncomputable def ob135 : Obj := fnL 10
noncomputable def ob136 : Obj := cdK "low" 307 63 3 89 (.ref 91) (.ref 92) 93 315
noncomputable def ob137 : Obj := fnK 10 (.str "gmp.limbs" 187) 94
noncomputable def ob138 : Obj := { cls := .type "tuple", data := .seq #[] }
noncomputable def ob139 : Obj := { cls := .none, data := .fields #[] }
noncomputable def ob140 : Obj := { cls := .type "tuple", data := .seq #[.str "n" 323, .str "w" 324] }
noncomputable def ob141 : Obj := { cls := .type "tuple", data := .seq #[] }
noncomputable def ob142 : Obj := fnL 12
noncomputable def ob143 : Obj := cdK "ring_one" 320 69 2 96 (.ref 98) (.ref 99) 100 325
noncomputable def ob144 : Obj := fnK 12 (.str "gmp.rings" 318) 101
noncomputable def ob145 : Obj := { cls := .type "tuple", data := .seq #[] }
noncomputable def ob146 : Obj := { cls := .none, data := .fields #[] }
noncomputable def ob147 : Obj := { cls := .type "tuple", data := .seq #[.str "a" 331, .str "b" 332, .str "n" 333, .str "w" 334, .str "found" 335] }
noncomputable def ob148 : Obj := { cls := .type "tuple", data := .seq #[] }
noncomputable def ob149 : Obj := fnL 13
noncomputable def ob150 : Obj := cdK "ring_add" 328 71 4 103 (.ref 105) (.ref 106) 107 336
noncomputable def ob151 : Obj := fnK 13 (.str "gmp.rings" 318) 108
noncomputable def ob152 : Obj := { cls := .type "tuple", data := .seq #[] }
noncomputable def ob153 : Obj := { cls := .none, data := .fields #[] }
noncomputable def ob154 : Obj := { cls := .type "tuple", data := .seq #[.str "a" 342, .str "b" 343, .str "n" 344, .str "w" 345] }
noncomputable def ob155 : Obj := { cls := .type "tuple", data := .seq #[] }
noncomputable def ob156 : Obj := fnL 14
noncomputable def ob157 : Obj := cdK "ring_sub" 339 74 4 110 (.ref 112) (.ref 113) 114 346
noncomputable def ob158 : Obj := fnK 14 (.str "gmp.rings" 318) 115
noncomputable def ob159 : Obj := { cls := .type "tuple", data := .seq #[] }
noncomputable def ob160 : Obj := { cls := .none, data := .fields #[] }
noncomputable def ob161 : Obj := { cls := .type "tuple", data := .seq #[.str "a" 352, .str "n" 353, .str "w" 354] }
noncomputable def ob162 : Obj := { cls := .type "tuple", data := .seq #[] }
noncomputable def ob163 : Obj := fnL 15
noncomputable def ob164 : Obj := cdK "ring_neg" 349 78 3 117 (.ref 119) (.ref 120) 121 355
noncomputable def ob165 : Obj := fnK 15 (.str "gmp.rings" 318) 122
noncomputable def ob166 : Obj := { cls := .type "tuple", data := .seq #[] }
noncomputable def ob167 : Obj := { cls := .none, data := .fields #[] }
noncomputable def ob168 : Obj := { cls := .type "tuple", data := .seq #[.str "a" 361, .str "n" 362, .str "w" 363, .str "found" 364, .str "is_minus" 365, .str "part" 366] }
noncomputable def ob169 : Obj := { cls := .type "tuple", data := .seq #[] }
noncomputable def ob170 : Obj := fnL 16
noncomputable def ob171 : Obj := cdK "ring_fold" 358 80 3 124 (.ref 126) (.ref 127) 128 367
noncomputable def ob172 : Obj := fnK 16 (.str "gmp.rings" 318) 129
noncomputable def ob173 : Obj := { cls := .type "tuple", data := .seq #[] }
noncomputable def ob174 : Obj := { cls := .none, data := .fields #[] }
noncomputable def ob175 : Obj := { cls := .type "tuple", data := .seq #[.str "a" 373, .str "k" 374, .str "n" 375, .str "w" 376] }
noncomputable def ob176 : Obj := { cls := .type "tuple", data := .seq #[] }
noncomputable def ob177 : Obj := fnL 17
noncomputable def ob178 : Obj := cdK "ring_shift" 370 88 4 131 (.ref 133) (.ref 134) 135 377
noncomputable def ob179 : Obj := fnK 17 (.str "gmp.rings" 318) 136
noncomputable def ob180 : Obj := { cls := .type "tuple", data := .seq #[] }
noncomputable def ob181 : Obj := { cls := .none, data := .fields #[] }
noncomputable def ob182 : Obj := { cls := .type "tuple", data := .seq #[.str "a" 383, .str "b" 384, .str "n" 385, .str "w" 386, .str "mul" 387] }
noncomputable def ob183 : Obj := { cls := .type "tuple", data := .seq #[] }
noncomputable def ob184 : Obj := fnL 18
noncomputable def ob185 : Obj := cdK "ring_mul" 380 93 5 138 (.ref 140) (.ref 141) 142 388
noncomputable def ob186 : Obj := fnK 18 (.str "gmp.rings" 318) 143
noncomputable def ob187 : Obj := { cls := .type "tuple", data := .seq #[] }
noncomputable def ob188 : Obj := { cls := .none, data := .fields #[] }
noncomputable def ob189 : Obj := { cls := .type "tuple", data := .seq #[.str "row" 394, .str "n" 395, .str "w" 396, .str "found" 397, .str "half" 398, .str "step" 399, .str "begin" 400, .str "at" 401, .str "one" 402, .str "other" 403] }
noncomputable def ob190 : Obj := { cls := .type "tuple", data := .seq #[] }
noncomputable def ob191 : Obj := fnL 19
noncomputable def ob192 : Obj := cdK "forward" 391 95 3 145 (.ref 147) (.ref 148) 149 404
noncomputable def ob193 : Obj := fnK 19 (.str "gmp.rings" 318) 150
noncomputable def ob194 : Obj := { cls := .type "tuple", data := .seq #[] }
noncomputable def ob195 : Obj := { cls := .none, data := .fields #[] }
noncomputable def ob196 : Obj := fnL 20
noncomputable def ob197 : Obj := cdK "backward" 407 105 3 152 .none .none 154 410
noncomputable def ob198 : Obj := fnK 20 (.str "gmp.rings" 318) 155
noncomputable def ob199 (P : Params) : Obj := { cls := .type "dict", data := .dict #[ke P "__name__" 165 (.str "law_nn0015_01" 456), ke P "__doc__" 166 (.none), ke P "__package__" 167 (.none), ke P "__loader__" 168 (.builtin "__main__.__loader__#opaque"), ke P "__spec__" 169 (.none), ke P "__annotations__" 170 (.ref 6), ke P "__builtins__" 171 (.ref 4), ke P "__file__" 173 (.str "/claim/cut.py" 172), ke P "__cached__" 174 (.none), ke P "GmpError" 208 (.ref 24), ke P "OutOfRange" 224 (.ref 37), ke P "normal" 232 (.ref 46), ke P "compare" 241 (.ref 53), ke P "add" 254 (.ref 60), ke P "sub" 268 (.ref 67), ke P "shift_left" 283 (.ref 74), ke P "shift_right" 298 (.ref 81), ke P "bits" 306 (.ref 88), ke P "low" 317 (.ref 95), ke P "ring_one" 327 (.ref 102), ke P "ring_add" 338 (.ref 109), ke P "ring_sub" 348 (.ref 116), ke P "ring_neg" 357 (.ref 123), ke P "ring_fold" 369 (.ref 130), ke P "ring_shift" 379 (.ref 137), ke P "ring_mul" 390 (.ref 144), ke P "forward" 406 (.ref 151), ke P "backward" 412 (.ref 156), ke P "convolved" 418 (.ref 161), ke P "weighted" 424 (.ref 166), ke P "convolved_minus" 437 (.ref 173), ke P "mul_school" 455 (.ref 180), ke P "_law_deal" 463 (.ref 185), ke P "_law_take" 471 (.ref 192), ke P "_law_great" 482 (.ref 199), ke P "_law_row" 491 (.ref 206), ke P "_law_value" 497 (.ref 211), ke P "_law_element" 506 (.ref 218), ke P "_law_same" 512 (.ref 223), ke P "_law_sums_right" 531 (.ref 230)] 40 }
noncomputable def ob200 : Obj := { cls := .none, data := .fields #[.int 2 0, .int 0 0, .ref 20, .int 4 0, .int 0 0, .ref 33, .int 6 0, .int 0 0, .ref 45, .int 11 0, .int 0 0, .ref 52, .int 18 0, .int 0 0, .ref 59, .int 33 0, .int 0 0, .ref 66, .int 42 0, .int 0 0, .ref 73, .int 54 0, .int 0 0, .ref 80, .int 61 0, .int 0 0, .ref 87, .int 63 0, .int 0 0, .ref 94, .int 69 0, .int 0 0, .ref 101, .int 71 0, .int 0 0, .ref 108, .int 74 0, .int 0 0, .ref 115, .int 78 0, .int 0 0, .ref 122, .int 80 0, .int 0 0, .ref 129, .int 88 0, .int 0 0, .ref 136, .int 93 0, .int 0 0, .ref 143, .int 95 0, .int 0 0, .ref 150, .int 105 0, .int 0 0, .ref 155, .int 118 0, .int 0 0, .ref 160, .int 121 0, .int 0 0, .ref 165, .int 123 0, .int 0 0, .ref 172, .int 128 0, .int 0 0, .ref 179, .int 139 0, .int 0 0, .ref 184, .int 145 0, .int 0 0, .ref 191, .int 151 0, .int 0 0, .ref 198, .int 158 0, .int 0 0, .ref 205, .int 164 0, .int 0 0, .ref 210, .int 171 0, .int 0 0, .ref 217, .int 174 0, .int 0 0, .ref 222, .int 176 0, .int 0 0, .ref 229] }
noncomputable def ob201 : Obj := { cls := .type "tuple", data := .seq #[] }
noncomputable def ob202 : Obj := { cls := .none, data := .fields #[] }
noncomputable def ob203 : Obj := fnL 21
noncomputable def ob204 : Obj := cdK "convolved" 413 118 5 157 .none .none 159 416
noncomputable def ob205 : Obj := fnK 21 (.str "gmp.rings" 318) 160
noncomputable def ob206 : Obj := { cls := .type "tuple", data := .seq #[] }
noncomputable def ob207 : Obj := { cls := .none, data := .fields #[] }
noncomputable def ob208 : Obj := fnL 22
noncomputable def ob209 : Obj := cdK "weighted" 419 121 4 162 .none .none 164 422
noncomputable def ob210 : Obj := fnK 22 (.str "gmp.rings" 318) 165
noncomputable def ob211 : Obj := { cls := .type "tuple", data := .seq #[] }
noncomputable def ob212 : Obj := { cls := .none, data := .fields #[] }
noncomputable def ob213 : Obj := { cls := .type "tuple", data := .seq #[.str "one" 428, .str "other" 429, .str "n" 430, .str "w" 431, .str "mul" 432, .str "step" 433, .str "found" 434] }
noncomputable def ob214 : Obj := { cls := .type "tuple", data := .seq #[] }
noncomputable def ob215 : Obj := fnL 23
noncomputable def ob216 : Obj := cdK "convolved_minus" 425 123 5 167 (.ref 169) (.ref 170) 171 435
noncomputable def ob217 : Obj := fnK 23 (.str "gmp.rings" 318) 172
noncomputable def ob218 : Obj := { cls := .type "tuple", data := .seq #[] }
noncomputable def ob219 : Obj := { cls := .none, data := .fields #[] }
noncomputable def ob220 : Obj := { cls := .type "tuple", data := .seq #[.str "a" 443, .str "b" 444, .str "w" 445, .str "found" 446, .str "mask" 447, .str "at" 448, .str "limb" 449, .str "carry" 450, .str "spot" 451, .str "other" 452] }
noncomputable def ob221 : Obj := { cls := .type "tuple", data := .seq #[] }
noncomputable def ob222 : Obj := fnL 25
noncomputable def ob223 : Obj := cdK "mul_school" 440 128 3 174 (.ref 176) (.ref 177) 178 453
noncomputable def ob224 : Obj := fnK 25 (.str "gmp.school" 438) 179
noncomputable def ob225 : Obj := { cls := .type "tuple", data := .seq #[] }
noncomputable def ob226 : Obj := { cls := .none, data := .fields #[] }
noncomputable def ob227 : Obj := fnL 27
noncomputable def ob228 : Obj := cdK "_law_deal" 458 139 1 181 .none .none 183 461
noncomputable def ob229 : Obj := fnK 27 (.str "law_nn0015_01" 456) 184
noncomputable def ob230 : Obj := { cls := .type "tuple", data := .seq #[] }
noncomputable def ob231 : Obj := { cls := .none, data := .fields #[] }
noncomputable def ob232 : Obj := { cls := .type "tuple", data := .seq #[.str "deal" 467, .str "many" 468] }
noncomputable def ob233 : Obj := { cls := .type "tuple", data := .seq #[] }
noncomputable def ob234 : Obj := fnL 28
noncomputable def ob235 : Obj := cdK "_law_take" 464 145 2 186 (.ref 188) (.ref 189) 190 469
noncomputable def ob236 : Obj := fnK 28 (.str "law_nn0015_01" 456) 191
noncomputable def ob237 : Obj := { cls := .type "tuple", data := .seq #[] }
noncomputable def ob238 : Obj := { cls := .none, data := .fields #[] }
noncomputable def ob239 : Obj := { cls := .type "tuple", data := .seq #[.str "deal" 475, .str "size" 476, .str "kind" 477, .str "found" 478, .str "turn" 479] }
noncomputable def ob240 : Obj := { cls := .type "tuple", data := .seq #[] }
noncomputable def ob241 : Obj := fnL 29
noncomputable def ob242 : Obj := cdK "_law_great" 472 151 2 193 (.ref 195) (.ref 196) 197 480
noncomputable def ob243 : Obj := fnK 29 (.str "law_nn0015_01" 456) 198
noncomputable def ob244 : Obj := { cls := .type "tuple", data := .seq #[] }
noncomputable def ob245 : Obj := { cls := .none, data := .fields #[] }
noncomputable def ob246 : Obj := { cls := .type "tuple", data := .seq #[.str "number" 486, .str "w" 487, .str "found" 488] }
noncomputable def ob247 : Obj := { cls := .type "tuple", data := .seq #[] }
noncomputable def ob248 : Obj := fnL 30
noncomputable def ob249 : Obj := cdK "_law_row" 483 158 2 200 (.ref 202) (.ref 203) 204 489
noncomputable def ob250 : Obj := fnK 30 (.str "law_nn0015_01" 456) 205
noncomputable def ob251 : Obj := { cls := .type "tuple", data := .seq #[] }
noncomputable def ob252 : Obj := { cls := .none, data := .fields #[] }
noncomputable def ob253 : Obj := fnL 31
noncomputable def ob254 : Obj := cdK "_law_value" 492 164 2 207 .none .none 209 495
noncomputable def ob255 : Obj := fnK 31 (.str "law_nn0015_01" 456) 210
noncomputable def ob256 : Obj := { cls := .type "tuple", data := .seq #[] }
noncomputable def ob257 : Obj := { cls := .none, data := .fields #[] }
noncomputable def ob258 : Obj := { cls := .type "tuple", data := .seq #[.str "deal" 501, .str "n" 502, .str "at" 503] }
noncomputable def ob259 : Obj := { cls := .type "tuple", data := .seq #[] }
noncomputable def ob260 : Obj := fnL 32
noncomputable def ob261 : Obj := cdK "_law_element" 498 171 2 212 (.ref 214) (.ref 215) 216 504
noncomputable def ob262 : Obj := fnK 32 (.str "law_nn0015_01" 456) 217
noncomputable def ob263 : Obj := { cls := .type "tuple", data := .seq #[] }
noncomputable def ob264 : Obj := { cls := .none, data := .fields #[] }
noncomputable def ob265 : Obj := fnL 33
noncomputable def ob266 : Obj := cdK "_law_same" 507 174 3 219 .none .none 221 510
noncomputable def ob267 : Obj := fnK 33 (.str "law_nn0015_01" 456) 222
noncomputable def ob268 : Obj := { cls := .type "tuple", data := .seq #[] }
noncomputable def ob269 : Obj := { cls := .none, data := .fields #[] }
noncomputable def ob270 : Obj := { cls := .type "tuple", data := .seq #[.str "deal" 516, .str "a" 517, .str "b" 518, .str "n" 519, .str "w" 520, .str "one" 521, .str "other" 522, .str "modulus" 523, .str "k" 524, .str "long" 525, .str "told" 526, .str "by" 527, .str "due" 528] }
noncomputable def ob271 : Obj := { cls := .type "tuple", data := .seq #[] }
noncomputable def ob272 : Obj := fnL 34
noncomputable def ob273 : Obj := cdK "_law_sums_right" 513 176 5 224 (.ref 226) (.ref 227) 228 529
noncomputable def ob274 : Obj := fnK 34 (.str "law_nn0015_01" 456) 229
noncomputable def ob275 (P : Params) : Obj := { cls := .type "dict", data := .dict #[ke P "__name__" 165 (.str "law_nn0015_01" 456), ke P "__doc__" 166 (.none), ke P "__package__" 167 (.none), ke P "__loader__" 168 (.builtin "__main__.__loader__#opaque"), ke P "__spec__" 169 (.none), ke P "__annotations__" 170 (.ref 6), ke P "__builtins__" 171 (.ref 4), ke P "__file__" 173 (.str "/claim/cut.py" 172), ke P "__cached__" 174 (.none), ke P "GmpError" 208 (.ref 24), ke P "OutOfRange" 224 (.ref 37), ke P "normal" 232 (.ref 46), ke P "compare" 241 (.ref 53), ke P "add" 254 (.ref 60), ke P "sub" 268 (.ref 67), ke P "shift_left" 283 (.ref 74), ke P "shift_right" 298 (.ref 81), ke P "bits" 306 (.ref 88), ke P "low" 317 (.ref 95), ke P "ring_one" 327 (.ref 102), ke P "ring_add" 338 (.ref 109), ke P "ring_sub" 348 (.ref 116), ke P "ring_neg" 357 (.ref 123), ke P "ring_fold" 369 (.ref 130), ke P "ring_shift" 379 (.ref 137), ke P "ring_mul" 390 (.ref 144), ke P "forward" 406 (.ref 151), ke P "backward" 412 (.ref 156), ke P "convolved" 418 (.ref 161), ke P "weighted" 424 (.ref 166), ke P "convolved_minus" 437 (.ref 173), ke P "mul_school" 455 (.ref 180), ke P "_law_deal" 463 (.ref 185), ke P "_law_take" 471 (.ref 192), ke P "_law_great" 482 (.ref 199), ke P "_law_row" 491 (.ref 206), ke P "_law_value" 497 (.ref 211), ke P "_law_element" 506 (.ref 218), ke P "_law_same" 512 (.ref 223), ke P "_law_sums_right" 531 (.ref 230), ke P "_law_turned" 540 (.ref 237), ke P "_law_values_right" 546 (.ref 242), ke P "_law_round_right" 552 (.ref 247), ke P "law" 558 (.ref 252)] 44 }
noncomputable def ob276 : Obj := { cls := .none, data := .fields #[.int 2 0, .int 0 0, .ref 20, .int 4 0, .int 0 0, .ref 33, .int 6 0, .int 0 0, .ref 45, .int 11 0, .int 0 0, .ref 52, .int 18 0, .int 0 0, .ref 59, .int 33 0, .int 0 0, .ref 66, .int 42 0, .int 0 0, .ref 73, .int 54 0, .int 0 0, .ref 80, .int 61 0, .int 0 0, .ref 87, .int 63 0, .int 0 0, .ref 94, .int 69 0, .int 0 0, .ref 101, .int 71 0, .int 0 0, .ref 108, .int 74 0, .int 0 0, .ref 115, .int 78 0, .int 0 0, .ref 122, .int 80 0, .int 0 0, .ref 129, .int 88 0, .int 0 0, .ref 136, .int 93 0, .int 0 0, .ref 143, .int 95 0, .int 0 0, .ref 150, .int 105 0, .int 0 0, .ref 155, .int 118 0, .int 0 0, .ref 160, .int 121 0, .int 0 0, .ref 165, .int 123 0, .int 0 0, .ref 172, .int 128 0, .int 0 0, .ref 179, .int 139 0, .int 0 0, .ref 184, .int 145 0, .int 0 0, .ref 191, .int 151 0, .int 0 0, .ref 198, .int 158 0, .int 0 0, .ref 205, .int 164 0, .int 0 0, .ref 210, .int 171 0, .int 0 0, .ref 217, .int 174 0, .int 0 0, .ref 222, .int 176 0, .int 0 0, .ref 229, .int 184 0, .int 0 0, .ref 236, .int 189 0, .int 0 0, .ref 241, .int 197 0, .int 0 0, .ref 246, .int 209 0, .int 0 0, .ref 251] }
noncomputable def ob277 : Obj := { cls := .type "tuple", data := .seq #[] }
noncomputable def ob278 : Obj := { cls := .none, data := .fields #[] }
noncomputable def ob279 : Obj := { cls := .type "tuple", data := .seq #[.str "number" 535, .str "many" 536, .str "found" 537] }
noncomputable def ob280 : Obj := { cls := .type "tuple", data := .seq #[] }
noncomputable def ob281 : Obj := fnL 35
noncomputable def ob282 : Obj := cdK "_law_turned" 532 184 2 231 (.ref 233) (.ref 234) 235 538
noncomputable def ob283 : Obj := fnK 35 (.str "law_nn0015_01" 456) 236
noncomputable def ob284 : Obj := { cls := .type "tuple", data := .seq #[] }
noncomputable def ob285 : Obj := { cls := .none, data := .fields #[] }
noncomputable def ob286 : Obj := fnL 36
noncomputable def ob287 : Obj := cdK "_law_values_right" 541 189 3 238 .none .none 240 544
noncomputable def ob288 : Obj := fnK 36 (.str "law_nn0015_01" 456) 241
noncomputable def ob289 : Obj := { cls := .type "tuple", data := .seq #[] }
noncomputable def ob290 : Obj := { cls := .none, data := .fields #[] }
noncomputable def ob291 : Obj := fnL 37
noncomputable def ob292 : Obj := cdK "_law_round_right" 547 197 4 243 .none .none 245 550
noncomputable def ob293 : Obj := fnK 37 (.str "law_nn0015_01" 456) 246
noncomputable def ob294 : Obj := { cls := .type "tuple", data := .seq #[] }
noncomputable def ob295 : Obj := { cls := .none, data := .fields #[] }
noncomputable def ob296 : Obj := fnL 38
noncomputable def ob297 : Obj := cdK "law" 553 209 1 248 .none .none 250 556
noncomputable def ob298 : Obj := fnK 38 (.str "law_nn0015_01" 456) 251
noncomputable def otr0 (P : Params) : BT := .node (boot_o_0 P) (.node (boot_o_1 P) (.node (boot_o_3 P) (.node (boot_o_7 P) .nil .nil) (.node ob43 .nil .nil)) (.node (boot_o_5 P) (.node (boot_o_9 P) .nil .nil) (.node ob45 .nil .nil))) (.node (boot_o_2 P) (.node (boot_o_4 P) (.node (boot_o_8 P) .nil .nil) (.node ob44 .nil .nil)) (.node (boot_o_6 P) (.node (boot_o_10 P) .nil .nil) (.node ob46 .nil .nil)))
noncomputable def otr1 (P : Params) : BT := .node (boot_o_0 P) (.node (boot_o_1 P) (.node (ob50 P) (.node (boot_o_7 P) (.node ob52 .nil .nil) (.node (ob60 P) .nil .nil)) (.node ob43 (.node ob56 .nil .nil) (.node ob64 .nil .nil))) (.node (boot_o_5 P) (.node (boot_o_9 P) (.node (ob54 P) .nil .nil) (.node ob62 .nil .nil)) (.node ob45 (.node ob58 .nil .nil) .nil))) (.node (ob49 P) (.node (boot_o_4 P) (.node (boot_o_8 P) (.node ob53 .nil .nil) (.node ob61 .nil .nil)) (.node ob51 (.node ob57 .nil .nil) .nil)) (.node (boot_o_6 P) (.node (boot_o_10 P) (.node ob55 .nil .nil) (.node ob63 .nil .nil)) (.node ob46 (.node ob59 .nil .nil) .nil)))
noncomputable def otr2 (P : Params) : BT := .node (boot_o_0 P) (.node (boot_o_1 P) (.node (ob65 P) (.node (boot_o_7 P) (.node ob52 (.node ob71 (.node ob103 .nil .nil) .nil) (.node ob87 .nil .nil)) (.node (ob60 P) (.node ob79 (.node ob111 .nil .nil) .nil) (.node ob95 .nil .nil))) (.node ob43 (.node ob56 (.node ob75 (.node ob107 .nil .nil) .nil) (.node ob91 .nil .nil)) (.node ob64 (.node ob83 .nil .nil) (.node ob99 .nil .nil)))) (.node (boot_o_5 P) (.node (boot_o_9 P) (.node (ob54 P) (.node ob73 (.node ob105 .nil .nil) .nil) (.node ob89 .nil .nil)) (.node ob62 (.node ob81 (.node ob113 .nil .nil) .nil) (.node ob97 .nil .nil))) (.node ob45 (.node ob58 (.node ob77 (.node ob109 .nil .nil) .nil) (.node ob93 .nil .nil)) (.node ob69 (.node ob85 .nil .nil) (.node ob101 .nil .nil))))) (.node (ob49 P) (.node (boot_o_4 P) (.node (boot_o_8 P) (.node ob53 (.node ob72 (.node ob104 .nil .nil) .nil) (.node ob88 .nil .nil)) (.node ob67 (.node ob80 (.node ob112 .nil .nil) .nil) (.node ob96 .nil .nil))) (.node ob66 (.node ob57 (.node (ob76 P) (.node ob108 .nil .nil) .nil) (.node ob92 .nil .nil)) (.node ob68 (.node ob84 .nil .nil) (.node ob100 .nil .nil)))) (.node (boot_o_6 P) (.node (boot_o_10 P) (.node ob55 (.node ob74 (.node ob106 .nil .nil) .nil) (.node ob90 .nil .nil)) (.node ob63 (.node ob82 (.node ob114 .nil .nil) .nil) (.node ob98 .nil .nil))) (.node ob46 (.node ob59 (.node ob78 (.node ob110 .nil .nil) .nil) (.node ob94 .nil .nil)) (.node (ob70 P) (.node ob86 .nil .nil) (.node ob102 .nil .nil)))))
noncomputable def otr3 (P : Params) : BT := .node (boot_o_0 P) (.node (boot_o_1 P) (.node (ob115 P) (.node (boot_o_7 P) (.node ob52 (.node ob71 (.node ob103 (.node ob169 .nil .nil) .nil) (.node ob137 .nil .nil)) (.node ob87 (.node ob121 (.node ob185 .nil .nil) .nil) (.node ob153 .nil .nil))) (.node (ob60 P) (.node ob79 (.node ob111 (.node ob177 .nil .nil) .nil) (.node ob145 .nil .nil)) (.node ob95 (.node ob129 (.node ob193 .nil .nil) .nil) (.node ob161 .nil .nil)))) (.node ob43 (.node ob56 (.node ob75 (.node ob107 (.node ob173 .nil .nil) .nil) (.node ob141 .nil .nil)) (.node ob91 (.node ob125 (.node ob189 .nil .nil) .nil) (.node ob157 .nil .nil))) (.node ob64 (.node ob83 (.node ob117 (.node ob181 .nil .nil) .nil) (.node ob149 .nil .nil)) (.node ob99 (.node ob133 (.node ob197 .nil .nil) .nil) (.node ob165 .nil .nil))))) (.node (boot_o_5 P) (.node (boot_o_9 P) (.node (ob54 P) (.node ob73 (.node ob105 (.node ob171 .nil .nil) .nil) (.node ob139 .nil .nil)) (.node ob89 (.node ob123 (.node ob187 .nil .nil) .nil) (.node ob155 .nil .nil))) (.node ob62 (.node ob81 (.node ob113 (.node ob179 .nil .nil) .nil) (.node ob147 .nil .nil)) (.node ob97 (.node ob131 (.node ob195 .nil .nil) .nil) (.node ob163 .nil .nil)))) (.node ob45 (.node ob58 (.node ob77 (.node ob109 (.node ob175 .nil .nil) .nil) (.node ob143 .nil .nil)) (.node ob93 (.node ob127 (.node ob191 .nil .nil) .nil) (.node ob159 .nil .nil))) (.node ob69 (.node ob85 (.node ob119 (.node ob183 .nil .nil) .nil) (.node ob151 .nil .nil)) (.node ob101 (.node ob135 .nil .nil) (.node ob167 .nil .nil)))))) (.node (ob49 P) (.node (boot_o_4 P) (.node (boot_o_8 P) (.node ob53 (.node ob72 (.node ob104 (.node ob170 .nil .nil) .nil) (.node ob138 .nil .nil)) (.node ob88 (.node ob122 (.node ob186 .nil .nil) .nil) (.node ob154 .nil .nil))) (.node ob67 (.node ob80 (.node ob112 (.node ob178 .nil .nil) .nil) (.node ob146 .nil .nil)) (.node ob96 (.node ob130 (.node ob194 .nil .nil) .nil) (.node ob162 .nil .nil)))) (.node ob116 (.node ob57 (.node (ob76 P) (.node ob108 (.node ob174 .nil .nil) .nil) (.node ob142 .nil .nil)) (.node ob92 (.node ob126 (.node ob190 .nil .nil) .nil) (.node ob158 .nil .nil))) (.node ob68 (.node ob84 (.node ob118 (.node ob182 .nil .nil) .nil) (.node ob150 .nil .nil)) (.node ob100 (.node ob134 (.node ob198 .nil .nil) .nil) (.node ob166 .nil .nil))))) (.node (boot_o_6 P) (.node (boot_o_10 P) (.node ob55 (.node ob74 (.node ob106 (.node ob172 .nil .nil) .nil) (.node ob140 .nil .nil)) (.node ob90 (.node ob124 (.node ob188 .nil .nil) .nil) (.node ob156 .nil .nil))) (.node ob63 (.node ob82 (.node ob114 (.node ob180 .nil .nil) .nil) (.node ob148 .nil .nil)) (.node ob98 (.node ob132 (.node ob196 .nil .nil) .nil) (.node ob164 .nil .nil)))) (.node ob46 (.node ob59 (.node ob78 (.node ob110 (.node ob176 .nil .nil) .nil) (.node ob144 .nil .nil)) (.node ob94 (.node ob128 (.node ob192 .nil .nil) .nil) (.node ob160 .nil .nil))) (.node (ob70 P) (.node ob86 (.node ob120 (.node ob184 .nil .nil) .nil) (.node ob152 .nil .nil)) (.node ob102 (.node ob136 .nil .nil) (.node ob168 .nil .nil))))))
noncomputable def otr4 (P : Params) : BT := .node (boot_o_0 P) (.node (boot_o_1 P) (.node (ob199 P) (.node (boot_o_7 P) (.node ob52 (.node ob71 (.node ob103 (.node ob169 .nil .nil) (.node ob235 .nil .nil)) (.node ob137 (.node ob203 .nil .nil) (.node ob267 .nil .nil))) (.node ob87 (.node ob121 (.node ob185 .nil .nil) (.node ob251 .nil .nil)) (.node ob153 (.node ob219 .nil .nil) .nil))) (.node (ob60 P) (.node ob79 (.node ob111 (.node ob177 .nil .nil) (.node ob243 .nil .nil)) (.node ob145 (.node ob211 .nil .nil) .nil)) (.node ob95 (.node ob129 (.node ob193 .nil .nil) (.node ob259 .nil .nil)) (.node ob161 (.node ob227 .nil .nil) .nil)))) (.node ob43 (.node ob56 (.node ob75 (.node ob107 (.node ob173 .nil .nil) (.node ob239 .nil .nil)) (.node ob141 (.node ob207 .nil .nil) (.node ob271 .nil .nil))) (.node ob91 (.node ob125 (.node ob189 .nil .nil) (.node ob255 .nil .nil)) (.node ob157 (.node ob223 .nil .nil) .nil))) (.node ob64 (.node ob83 (.node ob117 (.node ob181 .nil .nil) (.node ob247 .nil .nil)) (.node ob149 (.node ob215 .nil .nil) .nil)) (.node ob99 (.node ob133 (.node ob197 .nil .nil) (.node ob263 .nil .nil)) (.node ob165 (.node ob231 .nil .nil) .nil))))) (.node (boot_o_5 P) (.node (boot_o_9 P) (.node (ob54 P) (.node ob73 (.node ob105 (.node ob171 .nil .nil) (.node ob237 .nil .nil)) (.node ob139 (.node ob205 .nil .nil) (.node ob269 .nil .nil))) (.node ob89 (.node ob123 (.node ob187 .nil .nil) (.node ob253 .nil .nil)) (.node ob155 (.node ob221 .nil .nil) .nil))) (.node ob62 (.node ob81 (.node ob113 (.node ob179 .nil .nil) (.node ob245 .nil .nil)) (.node ob147 (.node ob213 .nil .nil) .nil)) (.node ob97 (.node ob131 (.node ob195 .nil .nil) (.node ob261 .nil .nil)) (.node ob163 (.node ob229 .nil .nil) .nil)))) (.node ob45 (.node ob58 (.node ob77 (.node ob109 (.node ob175 .nil .nil) (.node ob241 .nil .nil)) (.node ob143 (.node ob209 .nil .nil) (.node ob273 .nil .nil))) (.node ob93 (.node ob127 (.node ob191 .nil .nil) (.node ob257 .nil .nil)) (.node ob159 (.node ob225 .nil .nil) .nil))) (.node ob69 (.node ob85 (.node ob119 (.node ob183 .nil .nil) (.node ob249 .nil .nil)) (.node ob151 (.node ob217 .nil .nil) .nil)) (.node ob101 (.node ob135 (.node ob201 .nil .nil) (.node ob265 .nil .nil)) (.node ob167 (.node ob233 .nil .nil) .nil)))))) (.node (ob49 P) (.node (boot_o_4 P) (.node (boot_o_8 P) (.node ob53 (.node ob72 (.node ob104 (.node ob170 .nil .nil) (.node ob236 .nil .nil)) (.node ob138 (.node ob204 .nil .nil) (.node ob268 .nil .nil))) (.node ob88 (.node ob122 (.node ob186 .nil .nil) (.node ob252 .nil .nil)) (.node ob154 (.node ob220 .nil .nil) .nil))) (.node ob67 (.node ob80 (.node ob112 (.node ob178 .nil .nil) (.node ob244 .nil .nil)) (.node ob146 (.node ob212 .nil .nil) .nil)) (.node ob96 (.node ob130 (.node ob194 .nil .nil) (.node ob260 .nil .nil)) (.node ob162 (.node ob228 .nil .nil) .nil)))) (.node ob200 (.node ob57 (.node (ob76 P) (.node ob108 (.node ob174 .nil .nil) (.node ob240 .nil .nil)) (.node ob142 (.node ob208 .nil .nil) (.node ob272 .nil .nil))) (.node ob92 (.node ob126 (.node ob190 .nil .nil) (.node ob256 .nil .nil)) (.node ob158 (.node ob224 .nil .nil) .nil))) (.node ob68 (.node ob84 (.node ob118 (.node ob182 .nil .nil) (.node ob248 .nil .nil)) (.node ob150 (.node ob216 .nil .nil) .nil)) (.node ob100 (.node ob134 (.node ob198 .nil .nil) (.node ob264 .nil .nil)) (.node ob166 (.node ob232 .nil .nil) .nil))))) (.node (boot_o_6 P) (.node (boot_o_10 P) (.node ob55 (.node ob74 (.node ob106 (.node ob172 .nil .nil) (.node ob238 .nil .nil)) (.node ob140 (.node ob206 .nil .nil) (.node ob270 .nil .nil))) (.node ob90 (.node ob124 (.node ob188 .nil .nil) (.node ob254 .nil .nil)) (.node ob156 (.node ob222 .nil .nil) .nil))) (.node ob63 (.node ob82 (.node ob114 (.node ob180 .nil .nil) (.node ob246 .nil .nil)) (.node ob148 (.node ob214 .nil .nil) .nil)) (.node ob98 (.node ob132 (.node ob196 .nil .nil) (.node ob262 .nil .nil)) (.node ob164 (.node ob230 .nil .nil) .nil)))) (.node ob46 (.node ob59 (.node ob78 (.node ob110 (.node ob176 .nil .nil) (.node ob242 .nil .nil)) (.node ob144 (.node ob210 .nil .nil) (.node ob274 .nil .nil))) (.node ob94 (.node ob128 (.node ob192 .nil .nil) (.node ob258 .nil .nil)) (.node ob160 (.node ob226 .nil .nil) .nil))) (.node (ob70 P) (.node ob86 (.node ob120 (.node ob184 .nil .nil) (.node ob250 .nil .nil)) (.node ob152 (.node ob218 .nil .nil) .nil)) (.node ob102 (.node ob136 (.node ob202 .nil .nil) (.node ob266 .nil .nil)) (.node ob168 (.node ob234 .nil .nil) .nil))))))
noncomputable def otr5 (P : Params) : BT := .node (boot_o_0 P) (.node (boot_o_1 P) (.node (ob275 P) (.node (boot_o_7 P) (.node ob52 (.node ob71 (.node ob103 (.node ob169 .nil .nil) (.node ob235 .nil .nil)) (.node ob137 (.node ob203 .nil .nil) (.node ob267 .nil .nil))) (.node ob87 (.node ob121 (.node ob185 .nil .nil) (.node ob251 .nil .nil)) (.node ob153 (.node ob219 .nil .nil) (.node ob285 .nil .nil)))) (.node (ob60 P) (.node ob79 (.node ob111 (.node ob177 .nil .nil) (.node ob243 .nil .nil)) (.node ob145 (.node ob211 .nil .nil) (.node ob277 .nil .nil))) (.node ob95 (.node ob129 (.node ob193 .nil .nil) (.node ob259 .nil .nil)) (.node ob161 (.node ob227 .nil .nil) (.node ob293 .nil .nil))))) (.node ob43 (.node ob56 (.node ob75 (.node ob107 (.node ob173 .nil .nil) (.node ob239 .nil .nil)) (.node ob141 (.node ob207 .nil .nil) (.node ob271 .nil .nil))) (.node ob91 (.node ob125 (.node ob189 .nil .nil) (.node ob255 .nil .nil)) (.node ob157 (.node ob223 .nil .nil) (.node ob289 .nil .nil)))) (.node ob64 (.node ob83 (.node ob117 (.node ob181 .nil .nil) (.node ob247 .nil .nil)) (.node ob149 (.node ob215 .nil .nil) (.node ob281 .nil .nil))) (.node ob99 (.node ob133 (.node ob197 .nil .nil) (.node ob263 .nil .nil)) (.node ob165 (.node ob231 .nil .nil) (.node ob297 .nil .nil)))))) (.node (boot_o_5 P) (.node (boot_o_9 P) (.node (ob54 P) (.node ob73 (.node ob105 (.node ob171 .nil .nil) (.node ob237 .nil .nil)) (.node ob139 (.node ob205 .nil .nil) (.node ob269 .nil .nil))) (.node ob89 (.node ob123 (.node ob187 .nil .nil) (.node ob253 .nil .nil)) (.node ob155 (.node ob221 .nil .nil) (.node ob287 .nil .nil)))) (.node ob62 (.node ob81 (.node ob113 (.node ob179 .nil .nil) (.node ob245 .nil .nil)) (.node ob147 (.node ob213 .nil .nil) (.node ob279 .nil .nil))) (.node ob97 (.node ob131 (.node ob195 .nil .nil) (.node ob261 .nil .nil)) (.node ob163 (.node ob229 .nil .nil) (.node ob295 .nil .nil))))) (.node ob45 (.node ob58 (.node ob77 (.node ob109 (.node ob175 .nil .nil) (.node ob241 .nil .nil)) (.node ob143 (.node ob209 .nil .nil) (.node ob273 .nil .nil))) (.node ob93 (.node ob127 (.node ob191 .nil .nil) (.node ob257 .nil .nil)) (.node ob159 (.node ob225 .nil .nil) (.node ob291 .nil .nil)))) (.node ob69 (.node ob85 (.node ob119 (.node ob183 .nil .nil) (.node ob249 .nil .nil)) (.node ob151 (.node ob217 .nil .nil) (.node ob283 .nil .nil))) (.node ob101 (.node ob135 (.node ob201 .nil .nil) (.node ob265 .nil .nil)) (.node ob167 (.node ob233 .nil .nil) .nil)))))) (.node (ob49 P) (.node (boot_o_4 P) (.node (boot_o_8 P) (.node ob53 (.node ob72 (.node ob104 (.node ob170 .nil .nil) (.node ob236 .nil .nil)) (.node ob138 (.node ob204 .nil .nil) (.node ob268 .nil .nil))) (.node ob88 (.node ob122 (.node ob186 .nil .nil) (.node ob252 .nil .nil)) (.node ob154 (.node ob220 .nil .nil) (.node ob286 .nil .nil)))) (.node ob67 (.node ob80 (.node ob112 (.node ob178 .nil .nil) (.node ob244 .nil .nil)) (.node ob146 (.node ob212 .nil .nil) (.node ob278 .nil .nil))) (.node ob96 (.node ob130 (.node ob194 .nil .nil) (.node ob260 .nil .nil)) (.node ob162 (.node ob228 .nil .nil) (.node ob294 .nil .nil))))) (.node ob276 (.node ob57 (.node (ob76 P) (.node ob108 (.node ob174 .nil .nil) (.node ob240 .nil .nil)) (.node ob142 (.node ob208 .nil .nil) (.node ob272 .nil .nil))) (.node ob92 (.node ob126 (.node ob190 .nil .nil) (.node ob256 .nil .nil)) (.node ob158 (.node ob224 .nil .nil) (.node ob290 .nil .nil)))) (.node ob68 (.node ob84 (.node ob118 (.node ob182 .nil .nil) (.node ob248 .nil .nil)) (.node ob150 (.node ob216 .nil .nil) (.node ob282 .nil .nil))) (.node ob100 (.node ob134 (.node ob198 .nil .nil) (.node ob264 .nil .nil)) (.node ob166 (.node ob232 .nil .nil) (.node ob298 .nil .nil)))))) (.node (boot_o_6 P) (.node (boot_o_10 P) (.node ob55 (.node ob74 (.node ob106 (.node ob172 .nil .nil) (.node ob238 .nil .nil)) (.node ob140 (.node ob206 .nil .nil) (.node ob270 .nil .nil))) (.node ob90 (.node ob124 (.node ob188 .nil .nil) (.node ob254 .nil .nil)) (.node ob156 (.node ob222 .nil .nil) (.node ob288 .nil .nil)))) (.node ob63 (.node ob82 (.node ob114 (.node ob180 .nil .nil) (.node ob246 .nil .nil)) (.node ob148 (.node ob214 .nil .nil) (.node ob280 .nil .nil))) (.node ob98 (.node ob132 (.node ob196 .nil .nil) (.node ob262 .nil .nil)) (.node ob164 (.node ob230 .nil .nil) (.node ob296 .nil .nil))))) (.node ob46 (.node ob59 (.node ob78 (.node ob110 (.node ob176 .nil .nil) (.node ob242 .nil .nil)) (.node ob144 (.node ob210 .nil .nil) (.node ob274 .nil .nil))) (.node ob94 (.node ob128 (.node ob192 .nil .nil) (.node ob258 .nil .nil)) (.node ob160 (.node ob226 .nil .nil) (.node ob292 .nil .nil)))) (.node (ob70 P) (.node ob86 (.node ob120 (.node ob184 .nil .nil) (.node ob250 .nil .nil)) (.node ob152 (.node ob218 .nil .nil) (.node ob284 .nil .nil))) (.node ob102 (.node ob136 (.node ob202 .nil .nil) (.node ob266 .nil .nil)) (.node ob168 (.node ob234 .nil .nil) .nil))))))
noncomputable def hS (P : Params) : Heap := { objs := #[(boot_o_0 P), (boot_o_1 P), (boot_o_2 P), (boot_o_3 P), (boot_o_4 P), (boot_o_5 P), (boot_o_6 P), (boot_o_7 P), (boot_o_8 P), (boot_o_9 P), (boot_o_10 P), ob43, ob44, ob45, ob46] }
noncomputable def hF (P : Params) : Heap := { objs := #[(boot_o_0 P), (boot_o_1 P), (ob49 P), (ob275 P), (boot_o_4 P), (boot_o_5 P), (boot_o_6 P), (boot_o_7 P), (boot_o_8 P), (boot_o_9 P), (boot_o_10 P), ob43, ob276, ob45, ob46, ob52, ob53, (ob54 P), ob55, ob56, ob57, ob58, ob59, (ob60 P), ob67, ob62, ob63, ob64, ob68, ob69, (ob70 P), ob71, ob72, ob73, ob74, ob75, (ob76 P), ob77, ob78, ob79, ob80, ob81, ob82, ob83, ob84, ob85, ob86, ob87, ob88, ob89, ob90, ob91, ob92, ob93, ob94, ob95, ob96, ob97, ob98, ob99, ob100, ob101, ob102, ob103, ob104, ob105, ob106, ob107, ob108, ob109, ob110, ob111, ob112, ob113, ob114, ob117, ob118, ob119, ob120, ob121, ob122, ob123, ob124, ob125, ob126, ob127, ob128, ob129, ob130, ob131, ob132, ob133, ob134, ob135, ob136, ob137, ob138, ob139, ob140, ob141, ob142, ob143, ob144, ob145, ob146, ob147, ob148, ob149, ob150, ob151, ob152, ob153, ob154, ob155, ob156, ob157, ob158, ob159, ob160, ob161, ob162, ob163, ob164, ob165, ob166, ob167, ob168, ob169, ob170, ob171, ob172, ob173, ob174, ob175, ob176, ob177, ob178, ob179, ob180, ob181, ob182, ob183, ob184, ob185, ob186, ob187, ob188, ob189, ob190, ob191, ob192, ob193, ob194, ob195, ob196, ob197, ob198, ob201, ob202, ob203, ob204, ob205, ob206, ob207, ob208, ob209, ob210, ob211, ob212, ob213, ob214, ob215, ob216, ob217, ob218, ob219, ob220, ob221, ob222, ob223, ob224, ob225, ob226, ob227, ob228, ob229, ob230, ob231, ob232, ob233, ob234, ob235, ob236, ob237, ob238, ob239, ob240, ob241, ob242, ob243, ob244, ob245, ob246, ob247, ob248, ob249, ob250, ob251, ob252, ob253, ob254, ob255, ob256, ob257, ob258, ob259, ob260, ob261, ob262, ob263, ob264, ob265, ob266, ob267, ob268, ob269, ob270, ob271, ob272, ob273, ob274, ob277, ob278, ob279, ob280, ob281, ob282, ob283, ob284, ob285, ob286, ob287, ob288, ob289, ob290, ob291, ob292, ob293, ob294, ob295, ob296, ob297, ob298] }
end Mine
end
section
open PySem PySem.W PyProof.Rows PySem.Calls
set_option Elab.async false
set_option linter.unusedVariables false
set_option linter.unusedSimpArgs false
set_option linter.unusedSectionVars false
set_option maxRecDepth 100000
set_option maxHeartbeats 4000000
namespace Mine
-- the run of the text's top, in pieces
noncomputable abbrev pE : Program := PySem.Challenge.rw_nn0015_01.row.prog
noncomputable def envE : Env := { scope := pE.main.scope, locals := mainNs, globals := mainNs, cells := [], code := .ref 13, frame := some 14 }
noncomputable def ost1 : List Stmt := pE.main.body.take 2
noncomputable def ost2 : List Stmt := (pE.main.body.drop 2).take 6
noncomputable def ost3 : List Stmt := (pE.main.body.drop 8).take 13
noncomputable def ost4 : List Stmt := (pE.main.body.drop 21).take 14
noncomputable def ost5 : List Stmt := (pE.main.body.drop 35).take 4
noncomputable def bdy : List Stmt := ost1 ++ (ost2 ++ (ost3 ++ (ost4 ++ (ost5 ++ []))))
noncomputable abbrev cE : Code := .body bdy envE
abbrev hp0 : Pos := { line := 0, col := 0, endLine := 0, endCol := 0 }
abbrev hp1 : Pos := { line := 2, col := 0, endLine := 3, endCol := 8 }
abbrev hp2 : Pos := { line := 42, col := 0, endLine := 53, endCol := 16 }
abbrev hp3 : Pos := { line := 105, col := 0, endLine := 117, endCol := 58 }
abbrev hp4 : Pos := { line := 176, col := 0, endLine := 183, endCol := 34 }
abbrev hp5 : Pos := { line := 209, col := 0, endLine := 216, endCol := 81 }
noncomputable abbrev oT0 (w : World) (os : OsState) : SharedT := { tree := otr0 w.params, n := 15, life := {}, gens := #[], drawn := {}, toks := 187, os := os }
noncomputable abbrev oT1 (w : World) (os : OsState) : SharedT := { tree := otr1 w.params, n := 28, life := {}, gens := #[], drawn := {}, toks := 209, os := os }
noncomputable abbrev oT2 (w : World) (os : OsState) : SharedT := { tree := otr2 w.params, n := 75, life := {}, gens := #[], drawn := {}, toks := 284, os := os }
noncomputable abbrev oT3 (w : World) (os : OsState) : SharedT := { tree := otr3 w.params, n := 157, life := {}, gens := #[], drawn := {}, toks := 413, os := os }
noncomputable abbrev oT4 (w : World) (os : OsState) : SharedT := { tree := otr4 w.params, n := 231, life := {}, gens := #[], drawn := {}, toks := 532, os := os }
noncomputable abbrev oT5 (w : World) (os : OsState) : SharedT := { tree := otr5 w.params, n := 253, life := {}, gens := #[], drawn := {}, toks := 559, os := os }
theorem sg_pre (w : World) : (fun os => topGo treeTable pE w 11 (some (.ref 6)) 12 { heap := boot_heap w.params, drawn := boot_drawn, toks := boot_toks, os := os } (topStub pE)) =
    fun os => some ({ heap := hS w.params, toks := 187, os := os }, { cur := denote treeTable cE, code := cE, pos := hp0, stack := [topFrame hp0] }) := by kernel_rfl
theorem sg_block (w : World) : (fun os => segRun treeTable pE w 11 (some (.ref 6)) 1 1 { heap := hS w.params, toks := 187, os := os } (blockOf bdy envE cE hp0 [topFrame hp0])) = fun os => some (.next, (oT0 w os).abs, cE, hp0) := by kernel_rfl
theorem sg1 (w : World) : (fun os => segRunT treeTable pE w 11 (some (.ref 6)) 1 206 (oT0 w os) (piecesOf ost1 envE cE hp0 [topFrame hp0])) = fun os => some (.next, oT1 w os, cE, hp1) := by kernel_rfl
theorem sg2 (w : World) : (fun os => segRunT treeTable pE w 11 (some (.ref 6)) 1 383 (oT1 w os) (piecesOf ost2 envE cE hp1 [topFrame hp0])) = fun os => some (.next, oT2 w os, cE, hp2) := by kernel_rfl
theorem sg3 (w : World) : (fun os => segRunT treeTable pE w 11 (some (.ref 6)) 1 399 (oT2 w os) (piecesOf ost3 envE cE hp2 [topFrame hp0])) = fun os => some (.next, oT3 w os, cE, hp3) := by kernel_rfl
theorem sg4 (w : World) : (fun os => segRunT treeTable pE w 11 (some (.ref 6)) 1 388 (oT3 w os) (piecesOf ost4 envE cE hp3 [topFrame hp0])) = fun os => some (.next, oT4 w os, cE, hp4) := by kernel_rfl
theorem sg5 (w : World) : (fun os => segRunT treeTable pE w 11 (some (.ref 6)) 1 110 (oT4 w os) (piecesOf ost5 envE cE hp4 [topFrame hp0])) = fun os => some (.next, oT5 w os, cE, hp5) := by kernel_rfl
theorem sg_fin (w : World) : (fun os => topRun treeTable pE w 11 (some (.ref 6)) 2 (oT5 w os).abs { cur := doneF .next, code := cE, pos := hp5, stack := [topFrame hp0] }) = fun os => some { heap := hF w.params, toks := 559, os := os } := by kernel_rfl
end Mine
end
section
open PySem PySem.W PyProof.Rows PySem.Calls
set_option Elab.async false
set_option linter.unusedVariables false
set_option linter.unusedSimpArgs false
set_option linter.unusedSectionVars false
set_option maxRecDepth 100000
set_option maxHeartbeats 4000000
namespace Mine
theorem headRan (w : World) (os : OsState) : topRun treeTable pE w 11 (some (.ref 6)) (12 + (1 + (206 + (383 + (399 + (388 + (110 + 2))))))) { heap := boot_heap w.params, drawn := boot_drawn, toks := boot_toks, os := os } (topStub pE) = some { heap := hF w.params, toks := 559, os := os } :=
  go_top (congrFun (sg_pre w) os) (piece_block (congrFun (sg_block w) os) (piece_app (segRun_of (congrFun (sg1 w) os)) (piece_app (segRun_of (congrFun (sg2 w) os)) (piece_app (segRun_of (congrFun (sg3 w) os))
    (piece_app (segRun_of (congrFun (sg4 w) os)) (piece_app (segRun_of (congrFun (sg5 w) os)) (piece_nil (congrFun (sg_fin w) os))))))))
/-- the text as the walk sees it: its classes and defs -/
noncomputable def qE : Program := view pE [1, 2, 3, 4, 5, 6, 7, 8, 9, 10, 12, 13, 14, 15, 16, 17, 18, 19, 20, 21, 22, 23, 25, 27, 28, 29, 30, 31, 32, 33, 34, 35, 36, 37, 38]
noncomputable abbrev XtE : Shared → Bool := fun s => xlAt qE [] s && recOk (RowW.records PySem.Challenge.rw_nn0015_01.row.toRowW) s
noncomputable abbrev HE : Hook := kHook hK hKA (fun _ => by kernel_rfl)
noncomputable abbrev sE (w : World) (os : OsState) : Shared := { heap := hF w.params, toks := 559, os := os }
noncomputable abbrev oE (w : World) (os : OsState) := openSeen qE [] (importedModules pE.main.body) XtE true (sE w os)
noncomputable abbrev gE := openGood qE []
theorem lk0 (w : World) (os : OsState) : (staticsOk (importedModules pE.main.body) (boot_heap w.params) (hF w.params) && namesBound pE (hF w.params) && gensDone (sE w os) && laidKept (boot_heap w.params) (hF w.params)) = true := by kernel_rfl
theorem lkS (w : World) (os : OsState) : oE w os = gE := by kernel_rfl
theorem lkH (w : World) (os : OsState) : Hook.obs HE (sE w os) = Hook.val HE w := by kernel_rfl
theorem headOpen : ∀ w : World, (fencedOpening treeTable pE w 3088).map (fun s => (s.heap, s.gens, s.drawn, s.toks)) = some (boot_heap w.params, Array.mk [], boot_drawn, boot_toks) :=
  boot_open (by kernel_rfl) (by kernel_rfl) (fun _ => by kernel_rfl)
theorem headSize (w : World) : ((boot_heap w.params).isNs mainGlobals && (#[] : Array GenState).size == 0, (boot_heap w.params).objs.size, (boot_heap w.params).nsMap mainGlobals "__annotations__") = (true, 11, some (.ref 6)) := by kernel_rfl
theorem headLeft : LeftO pE qE [] XtE (Hook.obs HE) (Hook.val HE) 3088 :=
  LeftO.of_pieces headOpen headSize headRan (by kernel_rfl) fun w => funext fun os => Prod.ext (lk0 w os) (Prod.ext (lkS w os) (lkH w os))
end Mine
end
section
open PySem PySem.W PyProof.Rows
set_option Elab.async false
set_option linter.unusedVariables false
namespace Mine

/-- every object of the one stands in the other -/
abbrev Sub (h h' : Heap) : Prop := ∀ b o, h.get? b = some o → h'.get? b = some o

/-- an abstract value of a name -/
inductive AV where
  | i (x : Int)
  | b (x : Bool)
  | v (x : Value)
  | un
def AV.Is : AV → Value → Prop
  | .i x, u => ∃ t, u = .int x t
  | .b x, u => u = .bool x
  | .v x, u => u = x
  | .un, _ => True

/-- what a list holds -/
inductive D where
  | nums (ns : List Int)
  | rows (rs : List (List Int))
  | app (ns : List Int)
  | range (a b c : Int)
  | deal (v0 : Value) (ns : List Int) (i sd : Int)

def IsInts (h : Heap) (v : Value) (ns : List Int) : Prop := ∃ a vs, v = .ref a ∧ h.IsList a vs.toArray ∧ IntsAre vs ns

/-- a list at a, whose items' own lists lie in hI -/
def RepM (hI h : Heap) (a : Addr) : D → Prop
  | .nums ns => ∃ vs, h.IsList a vs.toArray ∧ IntsAre vs ns
  | .rows rs => ∃ vs, h.IsList a vs.toArray ∧ Paired (IsInts hI) vs rs
  | .app ns => ∃ vs, h.PlainList a vs.toArray ∧ IntsAre vs ns
  | .range x y z => ∃ t u v, IsRange h a x y z t u v
  | .deal v0 ns i sd => ∃ t u, h.IsList a [v0, .int i t, .int sd u].toArray ∧ IsInts hI v0 ns ∧ 0 ≤ i ∧ i ≤ ns.length ∧ ns.length ≤ 24 ∧ 0 ≤ sd ∧ sd < 2147483647
def Rep (h : Heap) (v : Value) (d : D) : Prop := ∃ a, v = .ref a ∧ RepM h h a d

theorem IsInts.mono {h h' : Heap} {v ns} (x : IsInts h v ns) (k : Sub h h') : IsInts h' v ns := by
  obtain ⟨a, vs, e, hl, hi⟩ := x
  exact ⟨a, vs, e, hl.at fun o q => k _ _ q, hi⟩
theorem paired_mono {α β : Type} {F G : α → β → Prop} (f : ∀ a b, F a b → G a b) : ∀ {xs : List α} {ys : List β}, Paired F xs ys → Paired G xs ys
  | _, _, .nil => .nil
  | _, _, .cons h r => .cons (f _ _ h) (paired_mono f r)
theorem RepM.mono {hI hI' h h' : Heap} {a d} (x : RepM hI h a d) (k1 : Sub hI hI') (k2 : ∀ o, h.get? a = some o → h'.get? a = some o) : RepM hI' h' a d := by
  cases d with
  | nums ns => obtain ⟨vs, hl, hi⟩ := x; exact ⟨vs, hl.at k2, hi⟩
  | rows rs => obtain ⟨vs, hl, hi⟩ := x; exact ⟨vs, hl.at k2, paired_mono (fun _ _ y => y.mono k1) hi⟩
  | app ns => obtain ⟨vs, hl, hi⟩ := x; exact ⟨vs, hl.at k2, hi⟩
  | range p q r => obtain ⟨t, u, v, hl⟩ := x; exact ⟨t, u, v, k2 _ hl⟩
  | deal v0 ns i sd =>
    obtain ⟨t, u, hl, hi, r⟩ := x
    exact ⟨t, u, hl.at k2, hi.mono k1, r⟩
theorem Rep.mono {h h' : Heap} {v d} (x : Rep h v d) (k : Sub h h') : Rep h' v d := by
  obtain ⟨a, e, r⟩ := x
  exact ⟨a, e, r.mono k fun o q => k _ _ q⟩
theorem RepM.some {hI h : Heap} {a d} (x : RepM hI h a d) : ∃ o, h.get? a = some o := by
  cases d with
  | nums ns => obtain ⟨vs, ⟨o, ho, _⟩, hi⟩ := x; exact ⟨o, ho⟩
  | rows rs => obtain ⟨vs, ⟨o, ho, _⟩, hi⟩ := x; exact ⟨o, ho⟩
  | app ns => obtain ⟨vs, ⟨n, ho⟩, hi⟩ := x; exact ⟨_, ho⟩
  | range p q r => obtain ⟨t, u, v, ho⟩ := x; exact ⟨_, ho⟩
  | deal v0 ns i sd => obtain ⟨t, u, ⟨o, ho, _⟩, hi⟩ := x; exact ⟨o, ho⟩

/-- the text's own objects and the names of its top -/
structure Gl (w : World) (h : Heap) : Prop where
  k : (hK w.params).In h
  t : ∃ q lo mg mb, TopRead q lo mg mb h
theorem Gl.mono {w : World} {h h' : Heap} (x : Gl w h) (k : Sub h h') : Gl w h' := by
  obtain ⟨q, lo, mg, mb, t⟩ := x.t
  exact ⟨x.k.keeps k, q, lo, mg, mb, t.keeps k⟩

/-- a state: names, lists that stay, those of them that are new, lists that may be changed -/
structure Sg where
  m : List (Str × AV)
  fx : List (Value × D)
  fr : List Value
  ow : List (Value × D)

/-- the name x holds v -/
def Holds (env : Env) (h : Heap) (x : Str) (v : Value) : Prop :=
  (env.kindOf x = some .local ∧ ∃ ml, h.Ns env.locals ml ∧ ml x = some v) ∨
  ((env.kindOf x = some .cell ∨ env.kindOf x = some .free) ∧ ∃ c, env.cells.lookup x = some c ∧ h.IsCell c (some v))

structure EnvOk (env : Env) : Prop where
  kind : env.scope.kind = .function
  glob : env.globals = mainGlobals
  bi : env.builtins = builtinsNs
  apart : ∀ x y c, env.cells.lookup x = some c → env.cells.lookup y = some c → x = y

structure StI (w : World) (env : Env) (h₀ : Heap) (σ : Sg) (h hI : Heap) : Prop where
  ok : EnvOk env
  gl : Gl w h₀
  k0 : Sub h₀ hI
  kI : Sub hI h
  offL : hI.get? env.locals = none
  ns : ∃ ml, h.Ns env.locals ml
  cell : ∀ x c, env.cells.lookup x = some c → (∃ v0, h.IsCell c v0) ∧ c ≠ env.locals ∧ (∀ p ∈ σ.ow, p.1 ≠ .ref c) ∧ (env.kindOf x = some .cell → hI.get? c = none)
  m : ∀ p ∈ σ.m, p.2 = .un ∨ ∃ v, Holds env h p.1 v ∧ p.2.Is v
  mn : (σ.m.map (·.1)).Nodup
  fx : ∀ p ∈ σ.fx, Rep hI p.1 p.2
  ow : ∀ p ∈ σ.ow, ∃ a, p.1 = .ref a ∧ hI.get? a = none ∧ a ≠ env.locals ∧ RepM hI h a p.2
  nd : (σ.ow.map (·.1)).Nodup
  fr : ∀ v ∈ σ.fr, ∃ a, v = .ref a ∧ h₀.get? a = none
def St (w : World) (env : Env) (h₀ : Heap) (σ : Sg) (h : Heap) : Prop := ∃ hI, StI w env h₀ σ h hI

structure T (w : World) (A : Around) (env : Env) {α : Type} (t : Sem α) (Q : α → Sg → Prop) (σ : Sg) : Prop where
  run : ∀ h₀ s, St w env h₀ σ s.heap → wpAny (model PySem.Challenge.pw_nn0015_01 w) A t (fun v s' => ∃ h' tk', s' = { s with heap := h', toks := tk' } ∧ ∃ σ', St w env h₀ σ' h' ∧ Q v σ') (fun _ _ => False) s

section
variable {w : World} {A : Around} {env : Env} {σ : Sg}

/-- take a T and go on below with the library's own rules -/
theorem T.go {α : Type} {t : Sem α} {Q : α → Sg → Prop} {K : α → Shared → Prop} {E : Value → Shared → Prop} {h₀ : Heap} {s : Shared} (h : T w A env t Q σ) (S : St w env h₀ σ s.heap)
    (k : ∀ v h' tk' σ', St w env h₀ σ' h' → Q v σ' → K v { s with heap := h', toks := tk' }) : wpAny (model PySem.Challenge.pw_nn0015_01 w) A t K E s :=
  wpAny_mono (h.run h₀ s S) (fun v s' ⟨h', tk', e, σ', S', q⟩ => by subst e; exact k v h' tk' σ' S' q) fun _ _ f => f.elim

/-- what a T asks at its end -/
abbrev Fin (w : World) (env : Env) (h₀ : Heap) (s : Shared) {α : Type} (Q : α → Sg → Prop) : α → Shared → Prop :=
  fun v s' => ∃ h' tk', s' = { s with heap := h', toks := tk' } ∧ ∃ σ', St w env h₀ σ' h' ∧ Q v σ'
theorem Fin.mk {h₀ : Heap} {s : Shared} {α : Type} {Q : α → Sg → Prop} {v : α} {h' : Heap} {tk' : Nat} {σ' : Sg} (S : St w env h₀ σ' h') (q : Q v σ') : Fin w env h₀ s Q v { s with heap := h', toks := tk' } :=
  ⟨h', tk', rfl, σ', S, q⟩

theorem T.mono {α : Type} {t : Sem α} {Q Q' : α → Sg → Prop} (h : T w A env t Q σ) (k : ∀ v σ', Q v σ' → Q' v σ') : T w A env t Q' σ :=
  ⟨fun _ _ S => h.go S fun _ _ _ σ' S' q => ⟨_, _, rfl, σ', S', k _ _ q⟩⟩

theorem St.weaken {h₀ h : Heap} {σ' : Sg} (S : St w env h₀ σ h) (hm : ∀ p ∈ σ'.m, p.2 = .un ∨ p ∈ σ.m) (hn : (σ'.m.map (·.1)).Nodup) (hi : ∀ p ∈ σ'.fx, p ∈ σ.fx) (hu : σ'.ow = σ.ow) (hf : ∀ v ∈ σ'.fr, v ∈ σ.fr) : St w env h₀ σ' h := by
  obtain ⟨hI, S⟩ := S
  exact ⟨hI, S.ok, S.gl, S.k0, S.kI, S.offL, S.ns, (by rw [hu]; exact S.cell), fun p hp => (hm p hp).elim .inl fun q => S.m p q, hn, fun p hp => S.fx p (hi p hp), (by rw [hu]; exact S.ow), (by rw [hu]; exact S.nd), fun v hv => S.fr v (hf v hv)⟩
theorem T.weaken {α : Type} {t : Sem α} {Q : α → Sg → Prop} {σ' : Sg} (h : T w A env t Q σ') (hm : ∀ p ∈ σ'.m, p.2 = .un ∨ p ∈ σ.m) (hn : (σ'.m.map (·.1)).Nodup) (hi : ∀ p ∈ σ'.fx, p ∈ σ.fx) (hu : σ'.ow = σ.ow) (hf : ∀ v ∈ σ'.fr, v ∈ σ.fr) : T w A env t Q σ :=
  ⟨fun _ _ S => h.go (S.weaken hm hn hi hu hf) fun _ _ _ σ' S' q => ⟨_, _, rfl, σ', S', q⟩⟩

theorem T_bind {α β : Type} {t : Sem α} {f : α → Sem β} {Q : β → Sg → Prop} (h : T w A env t (fun a σ₁ => T w A env (f a) Q σ₁) σ) : T w A env (t >>= f) Q σ :=
  ⟨fun _ _ S => wpAny_bind (h.go S fun _ _ _ _ S' q => q.go S' fun _ _ _ σ' S'' q' => ⟨_, _, rfl, σ', S'', q'⟩)⟩
theorem T_pure {α : Type} {a : α} {Q : α → Sg → Prop} (h : Q a σ) : T w A env (pure a) Q σ :=
  ⟨fun _ s S => wpAny_pure ⟨s.heap, s.toks, rfl, σ, S, h⟩⟩

end

theorem Holds.mono {env : Env} {h h' : Heap} {x : Str} {v : Value} (y : Holds env h x v) (k : Sub h h') : Holds env h' x v := by
  rcases y with ⟨a, ml, hn, e⟩ | ⟨a, c, e, hc⟩
  · exact .inl ⟨a, ml, hn.keeps k, e⟩
  · exact .inr ⟨a, c, e, hc.keeps k⟩

/-- only what stands at a has changed, more may have come -/
theorem Holds.ext {env : Env} {h h' : Heap} {x : Str} {v : Value} {a : Addr} (y : Holds env h x v) (k : Heap.ExtBut a h h') (hL : a ≠ env.locals) (hc : ∀ c, env.cells.lookup x = some c → c ≠ a) : Holds env h' x v := by
  rcases y with ⟨q, ml, hn, e⟩ | ⟨q, c, e, o, ho, hd⟩
  · exact .inl ⟨q, ml, hn.extBut k (Ne.symm hL), e⟩
  · exact .inr ⟨q, c, e, o, k c o (hc c e) ho, hd⟩

inductive Put (x : Str) (av : AV) : List (Str × AV) → List (Str × AV) → Prop
  | here {u r} : Put x av ((x, u) :: r) ((x, av) :: r)
  | there {p r r'} : Put x av r r' → Put x av (p :: r) (p :: r')
theorem Put.names {x av m m'} (p : Put x av m m') : m'.map (·.1) = m.map (·.1) := by
  induction p with
  | here => rfl
  | there _ ih => simp [ih]
theorem Put.mem {x av m m'} (p : Put x av m m') : ∃ u, (x, u) ∈ m := by
  induction p with
  | here => exact ⟨_, .head _⟩
  | there _ ih => obtain ⟨u, h⟩ := ih; exact ⟨u, .tail _ h⟩
theorem Put.get {x av m m'} (p : Put x av m m') (nd : (m.map (·.1)).Nodup) : ∀ q ∈ m', q = (x, av) ∨ (q.1 ≠ x ∧ q ∈ m) := by
  induction p with
  | here =>
    intro q hq
    rw [List.map_cons, List.nodup_cons] at nd
    rcases List.mem_cons.mp hq with rfl | hq
    · exact .inl rfl
    · exact .inr ⟨fun e => nd.1 (List.mem_map.mpr ⟨q, hq, e⟩), .tail _ hq⟩
  | there p ih =>
    intro q hq
    rw [List.map_cons, List.nodup_cons] at nd
    rcases List.mem_cons.mp hq with rfl | hq
    · obtain ⟨u, hu⟩ := p.mem
      exact .inr ⟨fun e => nd.1 (List.mem_map.mpr ⟨_, hu, e.symm⟩), .head _⟩
    · rcases ih nd.2 q hq with h | ⟨h, h'⟩
      · exact .inl h
      · exact .inr ⟨h, .tail _ h'⟩

inductive Chg (v : Value) (d d' : D) : List (Value × D) → List (Value × D) → Prop
  | head {r} : Chg v d d' ((v, d) :: r) ((v, d') :: r)
  | tail {p r r'} : Chg v d d' r r' → Chg v d d' (p :: r) (p :: r')
theorem Chg.mem {v d d' l l'} (c : Chg v d d' l l') : (v, d) ∈ l := by
  induction c with
  | head => exact .head _
  | tail _ ih => exact .tail _ ih
theorem Chg.keys {v d d' l l'} (c : Chg v d d' l l') : l'.map (·.1) = l.map (·.1) := by
  induction c with
  | head => rfl
  | tail _ ih => simp [ih]
theorem Chg.old {v d d' l l'} (c : Chg v d d' l l') (nd : (l.map (·.1)).Nodup) : ∀ p ∈ l', p = (v, d') ∨ (p ∈ l ∧ p.1 ≠ v) := by
  induction c with
  | head =>
    intro p hp
    rw [List.map_cons, List.nodup_cons] at nd
    rcases List.mem_cons.mp hp with rfl | hp
    · exact .inl rfl
    · exact .inr ⟨.tail _ hp, fun e => nd.1 (List.mem_map.mpr ⟨p, hp, e⟩)⟩
  | tail c ih =>
    intro p hp
    rw [List.map_cons, List.nodup_cons] at nd
    rcases List.mem_cons.mp hp with rfl | hp
    · exact .inr ⟨.head _, fun e => nd.1 (e ▸ List.mem_map.mpr ⟨_, c.mem, rfl⟩)⟩
    · rcases ih nd.2 p hp with h | ⟨h, h'⟩
      · exact .inl h
      · exact .inr ⟨.tail _ h, h'⟩

theorem none_of_sub {h h' : Heap} (k : Sub h h') {a : Addr} (e : h'.get? a = none) : h.get? a = none := by
  cases q : h.get? a with
  | none => rfl
  | some o => rw [k _ _ q] at e; cases e

section
variable {w : World} {A : Around} {env : Env} {σ : Sg} {h₀ h h' : Heap}

theorem St.locals (S : St w env h₀ σ h) : ∃ o, h.get? env.locals = some o := by
  obtain ⟨hI, S⟩ := S
  obtain ⟨ml, o, _, _, e, _⟩ := S.ns
  exact ⟨o, e⟩
theorem St.sub (S : St w env h₀ σ h) : Sub h₀ h := by
  obtain ⟨hI, S⟩ := S
  exact fun b o e => S.kI _ _ (S.k0 _ _ e)
theorem St.glob (S : St w env h₀ σ h) : Gl w h := by
  have k := S.sub
  obtain ⟨hI, S⟩ := S
  exact S.gl.mono k

theorem St.grow (S : St w env h₀ σ h) (k : Sub h h') : St w env h₀ σ h' := by
  obtain ⟨hI, S⟩ := S
  refine ⟨hI, S.ok, S.gl, S.k0, fun b o e => k _ _ (S.kI _ _ e), S.offL, ?_, ?_, ?_, S.mn, S.fx, ?_, S.nd, S.fr⟩
  · obtain ⟨ml, hn⟩ := S.ns; exact ⟨ml, hn.keeps k⟩
  · intro x c e
    obtain ⟨⟨v0, hc⟩, r⟩ := S.cell x c e
    exact ⟨⟨v0, hc.keeps k⟩, r⟩
  · intro q hq
    rcases S.m q hq with e | ⟨v, hv, ha⟩
    · exact .inl e
    · exact .inr ⟨v, hv.mono k, ha⟩
  · intro p hp
    obtain ⟨a, e, h1, h2, h3⟩ := S.ow p hp
    exact ⟨a, e, h1, h2, h3.mono (fun _ _ q => q) fun o q => k _ _ q⟩

/-- the frame, its own cells and the lists that may be changed -/
def mutAddrs (env : Env) (σ : Sg) : List Addr :=
  env.locals :: ((env.cells.map (·.1)).filterMap (fun x => if env.kindOf x = some .cell then env.cells.lookup x else none) ++ σ.ow.filterMap fun p => match p.1 with | .ref a => some a | _ => none)

theorem mem_cells {l : List (Str × Addr)} {x : Str} {c : Addr} (e : l.lookup x = some c) : (x, c) ∈ l := by
  induction l with
  | nil => cases e
  | cons p r ih =>
    obtain ⟨y, d⟩ := p
    by_cases h : x = y
    · subst h; simp at e; subst e; exact .head _
    · rw [List.lookup_cons, beq_eq_false_iff_ne.mpr h] at e; exact .tail _ (ih e)

theorem StI.off {hI : Heap} (S : StI w env h₀ σ h hI) : ∀ a ∈ mutAddrs env σ, hI.get? a = none := by
  intro a ha
  rcases List.mem_cons.mp ha with rfl | ha
  · exact S.offL
  · rcases List.mem_append.mp ha with ha | ha
    · obtain ⟨x, _, e⟩ := List.mem_filterMap.mp ha
      by_cases hk : env.kindOf x = some .cell
      · rw [if_pos hk] at e
        exact (S.cell x a e).2.2.2 hk
      · rw [if_neg hk] at e; cases e
    · obtain ⟨p, hp, e⟩ := List.mem_filterMap.mp ha
      obtain ⟨b, eb, hn, _⟩ := S.ow p hp
      rw [eb] at e
      cases e
      exact hn

/-- what stands at an address of these is no list that is fixed -/
theorem StI.list_or {hI : Heap} (S : StI w env h₀ σ h hI) {a : Addr} (ha : a ∈ mutAddrs env σ) : (∀ items, ¬ h.IsList a items) ∨ ∃ p ∈ σ.ow, p.1 = .ref a := by
  rcases List.mem_cons.mp ha with rfl | ha
  · refine .inl fun items => ?_
    rintro ⟨o, ho, _, n, hd⟩
    obtain ⟨ml, o', es, ep, ho', hd', _⟩ := S.ns
    rw [ho] at ho'; cases ho'
    rw [hd] at hd'; cases hd'
  · rcases List.mem_append.mp ha with ha | ha
    · obtain ⟨x, _, e⟩ := List.mem_filterMap.mp ha
      by_cases hk : env.kindOf x = some .cell
      · rw [if_pos hk] at e
        refine .inl fun items => ?_
        rintro ⟨o, ho, _, n, hd⟩
        obtain ⟨⟨v0, o', ho', hd'⟩, _⟩ := S.cell x a e
        rw [ho] at ho'; cases ho'
        rw [hd] at hd'; cases hd'
      · rw [if_neg hk] at e; cases e
    · obtain ⟨p, hp, e⟩ := List.mem_filterMap.mp ha
      obtain ⟨b, eb, _⟩ := S.ow p hp
      rw [eb] at e
      cases e
      exact .inr ⟨p, hp, eb⟩

theorem StI.hidden {hI : Heap} (S : StI w env h₀ σ h hI) (k : Sub h h') : Sub hI (hideAll h' (mutAddrs env σ)) := fun b o e =>
  hideAll_get _ (k _ _ (S.kI _ _ e)) fun hb => by rw [S.off b hb] at e; cases e

theorem isList_hidden {a : Addr} {items : Array Value} {l : List Addr} (x : h'.IsList a items) (n : a ∉ l) : (hideAll h' l).IsList a items :=
  x.at fun o e => hideAll_get _ e n

/-- a new fixed value -/
theorem St.fix {v : Value} {d : D} (S : St w env h₀ σ h) (k : Sub h h') (r : Rep (hideAll h' (mutAddrs env σ)) v d) : St w env h₀ { σ with fx := (v, d) :: σ.fx } h' := by
  have S' := S.grow k
  obtain ⟨hI, S⟩ := S
  obtain ⟨hJ, S'⟩ := S'
  have sub := S.hidden k
  refine ⟨hideAll h' (mutAddrs env σ), S.ok, S.gl, fun b o e => sub _ _ (S.k0 _ _ e), fun b o e => of_hideAll _ e, hideAll_none _ (.head _), S'.ns, ?_, S'.m, S'.mn, ?_, ?_, S'.nd, S'.fr⟩
  · intro x c e
    obtain ⟨h1, h2, h3, h4⟩ := S'.cell x c e
    refine ⟨h1, h2, h3, fun hk => hideAll_none _ (List.mem_cons_of_mem _ (List.mem_append_left _ (List.mem_filterMap.mpr ⟨x, List.mem_map.mpr ⟨(x, c), mem_cells e, rfl⟩, ?_⟩)))⟩
    rw [if_pos hk]; exact e
  · intro p hp
    rcases List.mem_cons.mp hp with rfl | hp
    · exact r
    · exact (S.fx p hp).mono sub
  · intro p hp
    obtain ⟨a, e, h1, h2, h3⟩ := S.ow p hp
    refine ⟨a, e, hideAll_none _ (List.mem_cons_of_mem _ (List.mem_append_right _ (List.mem_filterMap.mpr ⟨p, hp, by rw [e]⟩))), h2, h3.mono sub fun o q => k _ _ q⟩

/-- what comes back new is fixed -/
theorem St.fixNums {v : Value} {a : Addr} {ns : List Int} (S : St w env h₀ σ h) (k : Sub h h') (e : v = .ref a) (hn : h.get? a = none) (r : RepM h' h' a (.nums ns)) : St w env h₀ { σ with fx := (v, .nums ns) :: σ.fx, fr := v :: σ.fr } h' := by
  suffices q : St w env h₀ { σ with fx := (v, .nums ns) :: σ.fx } h' by
    obtain ⟨hI, q⟩ := q
    refine ⟨hI, q.ok, q.gl, q.k0, q.kI, q.offL, q.ns, q.cell, q.m, q.mn, q.fx, q.ow, q.nd, fun u hu => ?_⟩
    rcases List.mem_cons.mp hu with rfl | hu
    · exact ⟨a, e, none_of_sub S.sub hn⟩
    · exact q.fr u hu
  refine S.fix k ⟨a, e, ?_⟩
  obtain ⟨vs, hl, hi⟩ := r
  refine ⟨vs, isList_hidden hl fun hm => ?_, hi⟩
  obtain ⟨hI, S⟩ := S.grow k
  rcases S.list_or hm with q | ⟨p, hp, q⟩
  · exact q _ hl
  · rename_i S0
    obtain ⟨hJ, S0⟩ := S0
    obtain ⟨b, eb, _, _, hb⟩ := S0.ow p hp
    rw [q] at eb; cases eb
    obtain ⟨o, ho⟩ := hb.some
    rw [hn] at ho; cases ho
/-- where nothing may be changed -/
theorem St.fixRows {v : Value} {d : D} (S : St w env h₀ σ h) (k : Sub h h') (h0 : σ.ow = []) (r : Rep h' v d) : St w env h₀ { σ with fx := (v, d) :: σ.fx } h' := by
  refine S.fix k ?_
  have S' := S.grow k
  obtain ⟨hI, S'⟩ := S'
  have off : ∀ a items, h'.IsList a items → (hideAll h' (mutAddrs env σ)).IsList a items := fun a items hl => by
    refine isList_hidden hl fun hm => ?_
    rcases S'.list_or hm with q | ⟨p, hp, q⟩
    · exact q _ hl
    · rw [h0] at hp; cases hp
  have off2 : ∀ a items, h'.PlainList a items → (hideAll h' (mutAddrs env σ)).PlainList a items := fun a items hl => by
    refine hl.at fun o e => hideAll_get _ e fun hm => ?_
    rcases S'.list_or hm with q | ⟨p, hp, q⟩
    · exact q _ hl.isList
    · rw [h0] at hp; cases hp
  obtain ⟨a, e, r⟩ := r
  refine ⟨a, e, ?_⟩
  cases d with
  | nums ns => obtain ⟨vs, hl, hi⟩ := r; exact ⟨vs, off _ _ hl, hi⟩
  | app ns => obtain ⟨vs, hl, hi⟩ := r; exact ⟨vs, off2 _ _ hl, hi⟩
  | range p q z =>
    obtain ⟨t, u, v, hl⟩ := r
    refine ⟨t, u, v, hideAll_get _ hl fun hm => ?_⟩
    rcases List.mem_cons.mp hm with rfl | hm
    · obtain ⟨ml, o', es, ep, ho', hd', _⟩ := S'.ns
      rw [hl] at ho'; cases ho'; cases hd'
    · rcases List.mem_append.mp hm with hm | hm
      · obtain ⟨x, _, e⟩ := List.mem_filterMap.mp hm
        by_cases hk : env.kindOf x = some .cell
        · rw [if_pos hk] at e
          obtain ⟨⟨v0, o', ho', hd'⟩, _⟩ := S'.cell x a e
          rw [hl] at ho'; cases ho'; cases hd'
        · rw [if_neg hk] at e; cases e
      · obtain ⟨p, hp, _⟩ := List.mem_filterMap.mp hm
        rw [h0] at hp; cases hp
  | rows rs => obtain ⟨vs, hl, hi⟩ := r; exact ⟨vs, off _ _ hl, paired_mono (fun _ _ ⟨b, us, eb, hb, hu⟩ => ⟨b, us, eb, off _ _ hb, hu⟩) hi⟩
  | deal v0 ns i sd => obtain ⟨t, u, hl, ⟨b, us, eb, hb, hu⟩, r⟩ := r; exact ⟨t, u, off _ _ hl, ⟨b, us, eb, off _ _ hb, hu⟩, r⟩

/-- a new object, fixed -/
theorem St.fixNew {a : Addr} {d : D} (S : St w env h₀ σ h) (k : Sub h h') (hn : h.get? a = none) (r : ∀ h2 : Heap, (∀ o, h'.get? a = some o → h2.get? a = some o) → Sub (hideAll h' (mutAddrs env σ)) h2 → RepM h2 h2 a d) : St w env h₀ { σ with fx := (.ref a, d) :: σ.fx, fr := .ref a :: σ.fr } h' := by
  have ha : a ∉ mutAddrs env σ := fun hm => by
    obtain ⟨hI, S⟩ := S
    rcases List.mem_cons.mp hm with e | hm
    · obtain ⟨ml, o, _, _, q, _⟩ := S.ns
      rw [← e, hn] at q; cases q
    · rcases List.mem_append.mp hm with hm | hm
      · obtain ⟨x, _, e⟩ := List.mem_filterMap.mp hm
        by_cases hk : env.kindOf x = some .cell
        · rw [if_pos hk] at e
          obtain ⟨⟨v0, o', ho', hd'⟩, _⟩ := S.cell x a e
          rw [hn] at ho'; cases ho'
        · rw [if_neg hk] at e; cases e
      · obtain ⟨p, hp, e⟩ := List.mem_filterMap.mp hm
        obtain ⟨b, eb, _, _, hb⟩ := S.ow p hp
        rw [eb] at e; cases e
        obtain ⟨o, ho⟩ := hb.some
        rw [hn] at ho; cases ho
  suffices q : St w env h₀ { σ with fx := (.ref a, d) :: σ.fx } h' by
    obtain ⟨hI, q⟩ := q
    refine ⟨hI, q.ok, q.gl, q.k0, q.kI, q.offL, q.ns, q.cell, q.m, q.mn, q.fx, q.ow, q.nd, fun u hu => ?_⟩
    rcases List.mem_cons.mp hu with rfl | hu
    · exact ⟨a, rfl, none_of_sub S.sub hn⟩
    · exact q.fr u hu
  exact S.fix k ⟨a, rfl, r _ (fun o e => hideAll_get _ e ha) fun _ _ e => e⟩

/-- a new list of one's own -/
theorem StI.own {hI : Heap} {a : Addr} {d : D} (S : StI w env h₀ σ h hI) (k : Sub h h') (hn : h.get? a = none) (r : RepM hI h' a d) : St w env h₀ { σ with ow := (.ref a, d) :: σ.ow } h' := by
  refine ⟨hI, S.ok, S.gl, S.k0, fun b o e => k _ _ (S.kI _ _ e), S.offL, ?_, ?_, ?_, S.mn, S.fx, ?_, ?_, S.fr⟩
  · obtain ⟨ml, hn⟩ := S.ns; exact ⟨ml, hn.keeps k⟩
  · intro x c e
    obtain ⟨⟨v0, hc⟩, h2, h3, h4⟩ := S.cell x c e
    refine ⟨⟨v0, hc.keeps k⟩, h2, fun p hp => ?_, h4⟩
    rcases List.mem_cons.mp hp with rfl | hp
    · intro q
      cases q
      obtain ⟨o, ho, _⟩ := hc
      rw [hn] at ho; cases ho
    · exact h3 p hp
  · intro q hq
    rcases S.m q hq with e | ⟨v, hv, ha⟩
    · exact .inl e
    · exact .inr ⟨v, hv.mono k, ha⟩
  · intro p hp
    rcases List.mem_cons.mp hp with rfl | hp
    · refine ⟨a, rfl, none_of_sub S.kI hn, fun e => ?_, r⟩
      obtain ⟨ml, o, _, _, q, _⟩ := S.ns
      rw [← e, hn] at q; cases q
    · obtain ⟨b, e, h1, h2, h3⟩ := S.ow p hp
      exact ⟨b, e, h1, h2, h3.mono (fun _ _ q => q) fun o q => k _ _ q⟩
  · rw [List.map_cons, List.nodup_cons]
    refine ⟨fun hm => ?_, S.nd⟩
    obtain ⟨p, hp, e⟩ := List.mem_map.mp hm
    obtain ⟨b, eb, _, _, hb⟩ := S.ow p hp
    rw [eb] at e; cases e
    obtain ⟨o, ho⟩ := hb.some
    rw [hn] at ho; cases ho

/-- the list of one's own at v has been changed -/
theorem St.chg {hI : Heap} {a : Addr} {d d' : D} {ow' : List (Value × D)} (S : StI w env h₀ σ h hI) (c : Chg (.ref a) d d' σ.ow ow') (k : Heap.ExtBut a h h') (r : RepM hI h' a d') : St w env h₀ { σ with ow := ow' } h' := by
  obtain ⟨a', ea, hn, hL, _⟩ := S.ow _ c.mem
  cases ea
  refine ⟨hI, S.ok, S.gl, S.k0, fun b o e => k _ _ (fun q => by rw [q, hn] at e; cases e) (S.kI _ _ e), S.offL, ?_, ?_, ?_, S.mn, S.fx, ?_, ?_, S.fr⟩
  · obtain ⟨ml, hns⟩ := S.ns; exact ⟨ml, hns.extBut k (Ne.symm hL)⟩
  · intro x c' e
    obtain ⟨⟨v0, o, ho, hd⟩, h2, h3, h4⟩ := S.cell x c' e
    have hne : c' ≠ a := fun q => h3 _ c.mem (by rw [q])
    refine ⟨⟨v0, o, k _ _ hne ho, hd⟩, h2, fun p hp => ?_, h4⟩
    rcases c.old S.nd p hp with rfl | ⟨hp, _⟩
    · exact (h3 _ c.mem : Value.ref a ≠ _)
    · exact h3 p hp
  · intro q hq
    rcases S.m q hq with e | ⟨v, hv, ha⟩
    · exact .inl e
    · exact .inr ⟨v, hv.ext k hL fun c' e' => (fun z => (S.cell q.1 c' e').2.2.1 _ c.mem (by rw [z])), ha⟩
  · intro p hp
    rcases c.old S.nd p hp with rfl | ⟨hp, hne⟩
    · exact ⟨a, rfl, hn, hL, r⟩
    · obtain ⟨b, eb, h1, h2, h3⟩ := S.ow p hp
      exact ⟨b, eb, h1, h2, h3.mono (fun _ _ q => q) fun o q => k _ _ (fun e => hne (by rw [eb, e])) q⟩
  · rw [c.keys]; exact S.nd

/-- a local name has been stored -/
theorem St.put {x : Str} {av : AV} {v : Value} {m' : List (Str × AV)} {ml : Str → Option Value} (S : St w env h₀ σ h) (hk : env.kindOf x = some .local) (hv : av.Is v) (p : Put x av σ.m m')
    (hn : h.Ns env.locals ml) (hn' : h'.Ns env.locals (fun y => if y = x then some v else ml y)) (hs : Heap.SameBut env.locals h h') : St w env h₀ { σ with m := m' } h' := by
  obtain ⟨hI, S⟩ := S
  have k := hs.extBut
  refine ⟨hI, S.ok, S.gl, S.k0, fun b o e => k _ _ (fun q => by rw [q, S.offL] at e; cases e) (S.kI _ _ e), S.offL, ⟨_, hn'⟩, ?_, ?_, (by rw [p.names]; exact S.mn), S.fx, ?_, S.nd, S.fr⟩
  · intro x c' e
    obtain ⟨⟨v0, o, ho, hd⟩, h2, r⟩ := S.cell x c' e
    exact ⟨⟨v0, o, k _ _ h2 ho, hd⟩, h2, r⟩
  · intro y hy
    rcases p.get S.mn y hy with rfl | ⟨hne, e⟩
    · exact .inr ⟨v, .inl ⟨hk, _, hn', by simp⟩, hv⟩
    · rcases S.m y e with e | ⟨v', hv', ha⟩
      · exact .inl e
      refine .inr ⟨v', ?_, ha⟩
      rcases hv' with ⟨q, ml', hm, e'⟩ | ⟨q, c, e', o, ho, hd⟩
      · refine .inl ⟨q, _, hn', ?_⟩
        rw [if_neg hne, hn.agree hm]; exact e'
      · exact .inr ⟨q, c, e', o, k _ _ (S.cell y.1 c e').2.1 ho, hd⟩
  · intro p hp
    obtain ⟨b, eb, h1, h2, h3⟩ := S.ow p hp
    exact ⟨b, eb, h1, h2, h3.mono (fun _ _ q => q) fun o q => k _ _ h2 q⟩

/-- a cell has been stored -/
theorem St.putC {x : Str} {av : AV} {v : Value} {c : Addr} {m' : List (Str × AV)} (S : St w env h₀ σ h) (hk : env.kindOf x = some .cell) (hv : av.Is v) (p : Put x av σ.m m') (hc : env.cells.lookup x = some c)
    (hn' : h'.IsCell c (some v)) (hs : Heap.SameBut c h h') : St w env h₀ { σ with m := m' } h' := by
  obtain ⟨hI, S⟩ := S
  have k := hs.extBut
  obtain ⟨_, hcL, hco, hcI⟩ := S.cell x c hc
  refine ⟨hI, S.ok, S.gl, S.k0, fun b o e => k _ _ (fun q => by rw [q, hcI hk] at e; cases e) (S.kI _ _ e), S.offL, ?_, ?_, ?_, (by rw [p.names]; exact S.mn), S.fx, ?_, S.nd, S.fr⟩
  · obtain ⟨ml, hns⟩ := S.ns; exact ⟨ml, hns.extBut k (Ne.symm hcL)⟩
  · intro y c' e
    obtain ⟨⟨v0, o, ho, hd⟩, r⟩ := S.cell y c' e
    by_cases hcc : c' = c
    · exact ⟨⟨_, hcc ▸ hn'⟩, r⟩
    · exact ⟨⟨v0, o, k _ _ hcc ho, hd⟩, r⟩
  · intro y hy
    rcases p.get S.mn y hy with rfl | ⟨hne, e⟩
    · exact .inr ⟨v, .inr ⟨.inl hk, c, hc, hn'⟩, hv⟩
    · rcases S.m y e with e | ⟨v', hv', ha⟩
      · exact .inl e
      · exact .inr ⟨v', hv'.ext k hcL fun c' e' q => hne (S.ok.apart y.1 x c (q ▸ e') hc), ha⟩
  · intro p hp
    obtain ⟨b, eb, h1, h2, h3⟩ := S.ow p hp
    exact ⟨b, eb, h1, h2, h3.mono (fun _ _ q => q) fun o q => k _ _ (fun e => hco p hp (by rw [eb, e])) q⟩
end
end Mine
end
section
open PySem PySem.W PyProof.Rows PySem.Calls
set_option Elab.async false
set_option linter.unusedVariables false
namespace Mine
section
variable {w : World} {A : Around} {env : Env} {σ : Sg}

theorem Fin.here {h₀ : Heap} {s : Shared} {α : Type} {Q : α → Sg → Prop} {v : α} (S : St w env h₀ σ s.heap) (q : Q v σ) : Fin w env h₀ s Q v s := ⟨s.heap, s.toks, rfl, σ, S, q⟩

-- statements
theorem T_execs_nil {Q : Flow → Sg → Prop} (h : Q .next σ) : T w A env (execs [] env) Q σ := by
  refine T.mk fun _ _ S => ?_
  with_reducible exact wpAny_execs_nil (Fin.here S h)
theorem T_execs_cons {st : Stmt} {rest : List Stmt} {Q : Flow → Sg → Prop}
    (h : T w A env (exec st env) (fun f σ₁ => match f with | .next => T w A env (execs rest env) Q σ₁ | f => Q f σ₁) σ) : T w A env (execs (st :: rest) env) Q σ := by
  refine T.mk fun h₀ s S => ?_
  with_reducible exact wpAny_execs_cons (h.go S fun f h' tk' σ' S' q => by
    cases f with
    | next => exact q.go S' fun _ _ _ σ'' S'' q' => ⟨_, _, rfl, σ'', S'', q'⟩
    | brk => exact ⟨_, _, rfl, σ', S', q⟩
    | cont => exact ⟨_, _, rfl, σ', S', q⟩
    | ret v => exact ⟨_, _, rfl, σ', S', q⟩)
theorem T_Return {e : Expr} {pos : Pos} {Q : Flow → Sg → Prop} (h : T w A env (eval e env) (fun v σ₁ => Q (.ret v) σ₁) σ) : T w A env (exec (.Return (some e) pos) env) Q σ := by
  refine T.mk fun _ _ S => ?_
  with_reducible exact wpAny_Return_some (h.go S fun _ _ _ σ' S' q => ⟨_, _, rfl, σ', S', q⟩)
theorem T_If {test : Expr} {body orelse : List Stmt} {pos : Pos} {Q : Flow → Sg → Prop}
    (h : T w A env (isTrue test env (eval test env)) (fun b σ₁ => (b = true → T w A env (execs body env) Q σ₁) ∧ (b = false → T w A env (execs orelse env) Q σ₁)) σ) :
    T w A env (exec (.If test body orelse pos) env) Q σ := by
  refine T.mk fun _ _ S => ?_
  exact wpAny_If (h.go S fun b _ _ σ' S' q => by
    cases b with
    | true => exact (q.1 rfl).go S' fun _ _ _ σ'' S'' q' => ⟨_, _, rfl, σ'', S'', q'⟩
    | false => exact (q.2 rfl).go S' fun _ _ _ σ'' S'' q' => ⟨_, _, rfl, σ'', S'', q'⟩)
theorem T_IfExp {test body orelse : Expr} {pos : Pos} {Q : Value → Sg → Prop}
    (h : T w A env (isTrue test env (eval test env)) (fun b σ₁ => (b = true → T w A env (eval body env) Q σ₁) ∧ (b = false → T w A env (eval orelse env) Q σ₁)) σ) :
    T w A env (eval (.IfExp test body orelse pos) env) Q σ := by
  refine T.mk fun _ _ S => ?_
  exact wpAny_IfExp (h.go S fun b _ _ σ' S' q => by
    cases b with
    | true => exact (q.1 rfl).go S' fun _ _ _ σ'' S'' q' => ⟨_, _, rfl, σ'', S'', q'⟩
    | false => exact (q.2 rfl).go S' fun _ _ _ σ'' S'' q' => ⟨_, _, rfl, σ'', S'', q'⟩)
theorem T_Assign {x : Str} {px : Pos} {value : Expr} {pos : Pos} {Q : Flow → Sg → Prop}
    (h : T w A env (eval value env) (fun v σ₁ => T w A env (storeName env x v) (fun _ σ₂ => Q .next σ₂) σ₁) σ)
    (hs : swapsWith value (some (.Name x px)) pos.line env = pure false := by kernel_rfl) : T w A env (exec (.Assign [.Name x px] value pos) env) Q σ := by
  refine T.mk fun _ _ S => ?_
  with_reducible exact wpAny_Assign_Name (h.go S fun _ _ _ _ S' q => q.go S' fun _ _ _ σ'' S'' q' => ⟨_, _, rfl, σ'', S'', q'⟩) hs
theorem T_AugAssign {x : Str} {px : Pos} {op : Operator} {value : Expr} {pos : Pos} {Q : Flow → Sg → Prop}
    (h : T w A env (loadName env x) (fun old σ₁ => T w A env (eval value env) (fun v σ₂ => T w A env (inplaceOp op old v) (fun r σ₃ => T w A env (storeName env x r) (fun _ σ₄ => Q .next σ₄) σ₃) σ₂) σ₁) σ) :
    T w A env (exec (.AugAssign (.Name x px) op value pos) env) Q σ := by
  refine T.mk fun _ _ S => ?_
  with_reducible exact wpAny_AugAssign_Name (h.go S fun _ _ _ _ S1 q => q.go S1 fun _ _ _ _ S2 q => q.go S2 fun _ _ _ _ S3 q => q.go S3 fun _ _ _ σ'' S'' q' => ⟨_, _, rfl, σ'', S'', q'⟩)
theorem T_Expr {e : Expr} {pos : Pos} {Q : Flow → Sg → Prop} (h : T w A env (eval e env) (fun v σ₁ => v = .none ∧ Q .next σ₁) σ)
    (hi : interactive env = false := by kernel_rfl) (hs : swapsWith e none pos.line env = pure false := by kernel_rfl) : T w A env (exec (.Expr e pos) env) Q σ := by
  refine T.mk fun _ _ S => ?_
  with_reducible exact wpAny_Expr (h.go S fun v _ _ σ' S' q => by obtain ⟨rfl, q⟩ := q; exact ⟨_, _, rfl, σ', S', q⟩) hi hs
-- names
theorem T_ld {x : Str} {pos : Pos} {av : AV} {Q : Value → Sg → Prop} (hm : (x, av) ∈ σ.m) (hu : av ≠ .un) (h : ∀ v, av.Is v → Q v σ)
    (hd : (x == ("__debug__" : Str)) = false := by decide +kernel) (hn : (x == ("__classdict__" : Str)) = false := by decide +kernel) : T w A env (eval (.Name x pos) env) Q σ := by
  refine T.mk fun _ s S => ?_
  obtain ⟨hI, S'⟩ := id S
  obtain ⟨v, hv, ha⟩ := (S'.m _ hm).resolve_left hu
  refine wpAny_Name ?_ hd
  rcases hv with ⟨hl, ml, hns, e⟩ | ⟨hl, c, hc, hcell⟩
  · exact wpAny_loadName_local S'.ok.kind hl hns e (Fin.here S (h v ha))
  · rcases hl with hl | hl
    · exact wpAny_loadName_cell S'.ok.kind hl hc hcell (Fin.here S (h v ha))
    · exact wpAny_loadName_free S'.ok.kind hl hc hcell (Fin.here S (h v ha)) hn
theorem T_ldn {x : Str} {av : AV} {Q : Value → Sg → Prop} (hm : (x, av) ∈ σ.m) (hu : av ≠ .un) (h : ∀ v, av.Is v → Q v σ)
    (hn : (x == ("__classdict__" : Str)) = false := by decide +kernel) : T w A env (loadName env x) Q σ := by
  refine T.mk fun _ s S => ?_
  obtain ⟨hI, S'⟩ := id S
  obtain ⟨v, hv, ha⟩ := (S'.m _ hm).resolve_left hu
  rcases hv with ⟨hl, ml, hns, e⟩ | ⟨hl, c, hc, hcell⟩
  · exact wpAny_loadName_local S'.ok.kind hl hns e (Fin.here S (h v ha))
  · rcases hl with hl | hl
    · exact wpAny_loadName_cell S'.ok.kind hl hc hcell (Fin.here S (h v ha))
    · exact wpAny_loadName_free S'.ok.kind hl hc hcell (Fin.here S (h v ha)) hn
theorem T_st {x : Str} {v : Value} {av : AV} {m' : List (Str × AV)} {Q : Unit → Sg → Prop} (hv : av.Is v) (p : Put x av σ.m m') (h : Q () { σ with m := m' })
    (hl : env.kindOf x = some .local := by kernel_rfl) : T w A env (storeName env x v) Q σ := by
  refine T.mk fun _ s S => ?_
  obtain ⟨hI, S'⟩ := id S
  obtain ⟨ml, hns⟩ := S'.ns
  refine wpAny_storeName_local hl hns (fun h' hn' hs => Fin.mk (S.put hl hv p hns hn' hs) h) ?_
  rw [S'.ok.kind]; rfl
theorem T_stC {x : Str} {v : Value} {av : AV} {m' : List (Str × AV)} {Q : Unit → Sg → Prop} (hv : av.Is v) (p : Put x av σ.m m') (h : Q () { σ with m := m' })
    (hl : env.kindOf x = some .cell := by kernel_rfl) (hc : (env.cells.lookup x).isSome = true := by kernel_rfl) : T w A env (storeName env x v) Q σ := by
  refine T.mk fun _ s S => ?_
  obtain ⟨hI, S'⟩ := id S
  obtain ⟨c, e⟩ := Option.isSome_iff_exists.mp hc
  obtain ⟨⟨v0, hcell⟩, _⟩ := S'.cell x c e
  exact wpAny_storeName_cell S'.ok.kind hl e hcell fun h' hv' hs => Fin.mk (tk' := s.toks) (S.putC hl hv p e hv' hs) h

-- constants
theorem T_int {i : Int} {k : Nat} {pos : Pos} {Q : Value → Sg → Prop} (h : ∀ t, Q (.int i t) σ) : T w A env (eval (.Constant (.int i) k pos) env) Q σ := by
  refine T.mk fun _ _ S => ?_
  with_reducible exact wpAny_Constant_int (Fin.mk S (h _))
theorem T_bool {b : Bool} {k : Nat} {pos : Pos} {Q : Value → Sg → Prop} (h : Q (.bool b) σ) : T w A env (eval (.Constant (.bool b) k pos) env) Q σ := by
  refine T.mk fun _ _ S => ?_
  exact wpAny_pure (Fin.here S h)
-- operators
theorem T_BinOp {l : Expr} {op : Operator} {r : Expr} {pos : Pos} {Q : Value → Sg → Prop}
    (h : T w A env (eval l env) (fun a σ₁ => T w A env (eval r env) (fun b σ₂ => T w A env (binaryOp op a b) Q σ₂) σ₁) σ) : T w A env (eval (.BinOp l op r pos) env) Q σ := by
  refine T.mk fun _ _ S => ?_
  with_reducible exact wpAny_BinOp (h.go S fun _ _ _ _ S1 q => q.go S1 fun _ _ _ _ S2 q => q.go S2 fun _ _ _ σ'' S'' q' => ⟨_, _, rfl, σ'', S'', q'⟩)
theorem T_UnaryOp {op : UnaryOp} {x : Expr} {pos : Pos} {Q : Value → Sg → Prop} (h : T w A env (eval x env) (fun v σ₁ => T w A env (unaryOp op v) Q σ₁) σ) :
    T w A env (eval (.UnaryOp op x pos) env) Q σ := by
  refine T.mk fun _ _ S => ?_
  with_reducible exact wpAny_UnaryOp (h.go S fun _ _ _ _ S1 q => q.go S1 fun _ _ _ σ'' S'' q' => ⟨_, _, rfl, σ'', S'', q'⟩)
section
variable {a b : Int} {t u : Tok} {Q : Value → Sg → Prop}
theorem T_add (h : ∀ t, Q (.int (a + b) t) σ) : T w A env (binaryOp .Add (.int a t) (.int b u)) Q σ := by
  refine T.mk fun _ _ S => ?_
  with_reducible exact add_int (Fin.mk S (h _))
theorem T_sub (h : ∀ t, Q (.int (a - b) t) σ) : T w A env (binaryOp .Sub (.int a t) (.int b u)) Q σ := by
  refine T.mk fun _ _ S => ?_
  with_reducible exact sub_int (Fin.mk S (h _))
theorem T_mul (h : ∀ t, Q (.int (a * b) t) σ) (hm : IntMulOk a b) : T w A env (binaryOp .Mult (.int a t) (.int b u)) Q σ := by
  refine T.mk fun _ _ S => ?_
  with_reducible exact mul_int (Fin.mk S (h _)) hm
theorem T_floordiv (hb : 0 < b) (hb' : b < 1073741824) (h : ∀ t, Q (.int (a / b) t) σ) : T w A env (binaryOp .FloorDiv (.int a t) (.int b u)) Q σ := by
  refine T.mk fun _ s S => ?_
  refine floordiv_int (by (first | lia | omega)) ?_ (.inl (PyProof.noPylong_small (by (first | lia | omega))))
  exact Fin.mk S (by rw [Int.fdiv_eq_ediv_of_nonneg a (by (first | lia | omega))]; exact h _)
theorem T_mod (hb : 0 < b) (h : ∀ t, Q (.int (a % b) t) σ) : T w A env (binaryOp .Mod (.int a t) (.int b u)) Q σ := by
  refine T.mk fun _ s S => ?_
  refine mod_int' (by (first | lia | omega)) ?_
  exact Fin.mk S (by rw [Int.fmod_eq_emod_of_nonneg a (by (first | lia | omega))]; exact h _)
theorem T_pow (hn : 0 ≤ b) (hsz : (Builtin.Int.intBits a : Int) * b ≤ 2 ^ 27) (h : ∀ t, Q (.int (a ^ b.toNat) t) σ) : T w A env (binaryOp .Pow (.int a t) (.int b u)) Q σ := by
  refine T.mk fun _ s S => ?_
  with_reducible exact pow_int hn hsz (Fin.mk S (h _))
theorem T_pow2 (hn : 0 ≤ b) (hb : b ≤ 1000000) (h : ∀ t, Q (.int (2 ^ b.toNat) t) σ) : T w A env (binaryOp .Pow (.int 2 t) (.int b u)) Q σ :=
  T_pow hn (by rw [show Builtin.Int.intBits 2 = 2 from by decide +kernel]; (first | lia | omega)) h
theorem T_lshift (hn : 0 ≤ b) (hn2 : b ≤ 1000000) (ha : a.natAbs < 2 ^ 64) (h : ∀ t, Q (.int (a * 2 ^ b.toNat) t) σ) : T w A env (binaryOp .LShift (.int a t) (.int b u)) Q σ := by
  refine T.mk fun _ s S => ?_
  with_reducible exact lshift_int_small hn hn2 ha (Fin.mk S (h _))
theorem T_rshift (hn : 0 ≤ b) (h : ∀ t, Q (.int (a / 2 ^ b.toNat) t) σ) : T w A env (binaryOp .RShift (.int a t) (.int b u)) Q σ := by
  refine T.mk fun _ s S => ?_
  refine rshift_int hn ?_
  exact Fin.mk S (by rw [Int.fdiv_eq_ediv_of_nonneg a (Int.le_of_lt (Int.pow_pos (by decide)))]; exact h _)
theorem T_and (h : ∀ t, Q (.int (Builtin.bitAnd a b) t) σ) : T w A env (binaryOp .BitAnd (.int a t) (.int b u)) Q σ := by
  refine T.mk fun _ s S => ?_
  with_reducible exact and_int (Fin.mk S (h _))
theorem T_or (h : ∀ t, Q (.int (Builtin.bitOr a b) t) σ) : T w A env (binaryOp .BitOr (.int a t) (.int b u)) Q σ := by
  refine T.mk fun _ s S => ?_
  with_reducible exact or_int (Fin.mk S (h _))
theorem T_iadd (h : ∀ t, Q (.int (a + b) t) σ) : T w A env (inplaceOp .Add (.int a t) (.int b u)) Q σ := by
  refine T.mk fun _ _ S => ?_
  with_reducible exact iadd_int (Fin.mk S (h _))
theorem T_isub (h : ∀ t, Q (.int (a - b) t) σ) : T w A env (inplaceOp .Sub (.int a t) (.int b u)) Q σ := by
  refine T.mk fun _ _ S => ?_
  with_reducible exact isub_int (Fin.mk S (h _))
theorem T_ior (h : ∀ t, Q (.int (Builtin.bitOr a b) t) σ) : T w A env (inplaceOp .BitOr (.int a t) (.int b u)) Q σ := by
  refine T.mk fun _ _ S => ?_
  with_reducible exact ior_int (Fin.mk S (h _))
theorem T_irshift (hn : 0 ≤ b) (h : ∀ t, Q (.int (a / 2 ^ b.toNat) t) σ) : T w A env (inplaceOp .RShift (.int a t) (.int b u)) Q σ := by
  refine T.mk fun _ s S => ?_
  refine irshift_int hn ?_
  exact Fin.mk S (by rw [Int.fdiv_eq_ediv_of_nonneg a (Int.le_of_lt (Int.pow_pos (by decide)))]; exact h _)
theorem T_neg (h : ∀ t, Q (.int (-a) t) σ) : T w A env (unaryOp .USub (.int a t)) Q σ := by
  refine T.mk fun _ _ S => ?_
  with_reducible exact neg_int (Fin.mk S (h _))
theorem T_lt (h : Q (.bool (decide (a < b))) σ) : T w A env (compareOp .Lt (.int a t) (.int b u)) Q σ := by
  refine T.mk fun _ _ S => ?_
  with_reducible exact lt_int (Fin.here S h)
theorem T_gt (h : Q (.bool (decide (b < a))) σ) : T w A env (compareOp .Gt (.int a t) (.int b u)) Q σ := by
  refine T.mk fun _ _ S => ?_
  with_reducible exact gt_int (Fin.here S h)
theorem T_le (h : Q (.bool (decide (a ≤ b))) σ) : T w A env (compareOp .LtE (.int a t) (.int b u)) Q σ := by
  refine T.mk fun _ _ S => ?_
  with_reducible exact le_int (Fin.here S h)
theorem T_ge (h : Q (.bool (decide (b ≤ a))) σ) : T w A env (compareOp .GtE (.int a t) (.int b u)) Q σ := by
  refine T.mk fun _ _ S => ?_
  with_reducible exact ge_int (Fin.here S h)
theorem T_eq (h : Q (.bool (decide (a = b))) σ) : T w A env (compareOp .Eq (.int a t) (.int b u)) Q σ := by
  refine T.mk fun _ _ S => ?_
  with_reducible exact eq_int (Fin.here S (by
    rw [show (a == b) = decide (a = b) from by by_cases e : a = b <;> simp [e]]; exact h))
theorem T_ne (h : Q (.bool (decide (a ≠ b))) σ) : T w A env (compareOp .NotEq (.int a t) (.int b u)) Q σ := by
  refine T.mk fun _ _ S => ?_
  with_reducible exact ne_int (Fin.here S (by
  rw [show (a != b) = decide (a ≠ b) from by by_cases e : a = b <;> simp [e]]; exact h))
end

-- tests
theorem T_isTrue_Cmp {l : Expr} {op : CmpOp} {r : Expr} {pos : Pos} {whole : Sem Value} {Q : Bool → Sg → Prop}
    (h : T w A env (eval l env) (fun a σ₁ => T w A env (eval r env) (fun b σ₂ => T w A env (compareOp op a b) (fun c σ₃ => T w A env (truthy c) Q σ₃) σ₂) σ₁) σ)
    (hm : behindInMarks op r = false := by kernel_rfl) : T w A env (isTrue (.Compare l [op] [r] pos) env whole) Q σ := by
  refine T.mk fun _ _ S => ?_
  with_reducible exact wpAny_isTrue_Compare1 (h.go S fun _ _ _ _ S1 q => q.go S1 fun _ _ _ _ S2 q => q.go S2 fun _ _ _ _ S3 q => q.go S3 fun _ _ _ σ'' S'' q' => ⟨_, _, rfl, σ'', S'', q'⟩) hm
theorem T_Cmp {l : Expr} {op : CmpOp} {r : Expr} {pos : Pos} {Q : Value → Sg → Prop}
    (h : T w A env (eval l env) (fun a σ₁ => T w A env (eval r env) (fun b σ₂ => T w A env (compareOp op a b) Q σ₂) σ₁) σ)
    (hm : behindInMarks op r = false := by kernel_rfl) : T w A env (eval (.Compare l [op] [r] pos) env) Q σ := by
  refine T.mk fun _ _ S => ?_
  with_reducible exact wpAny_Compare1 (h.go S fun _ _ _ _ S1 q => q.go S1 fun _ _ _ _ S2 q => q.go S2 fun _ _ _ σ'' S'' q' => ⟨_, _, rfl, σ'', S'', q'⟩) hm
theorem T_truthy_bool {b : Bool} {Q : Bool → Sg → Prop} (h : Q b σ) : T w A env (truthy (.bool b)) Q σ := by
  refine T.mk fun _ _ S => ?_
  with_reducible exact wpAny_truthy_bool (Fin.here S h)
theorem T_isTrue_plain {e : Expr} {whole : Sem Value} {Q : Bool → Sg → Prop} (h : T w A env whole (fun v σ₁ => T w A env (truthy v) Q σ₁) σ)
    (he : isTrue e env whole = (do let v ← whole; standAt e.pos; holding [v] (truthy v)) := by kernel_rfl) : T w A env (isTrue e env whole) Q σ := by
  refine T.mk fun _ _ S => ?_
  with_reducible exact isTrue_plain (h.go S fun _ _ _ _ S1 q => q.go S1 fun _ _ _ σ'' S'' q' => ⟨_, _, rfl, σ'', S'', q'⟩) he
theorem T_isTrue_Not {x : Expr} {pos : Pos} {whole : Sem Value} {Q : Bool → Sg → Prop} (h : T w A env (isTrue x env (eval x env)) (fun b σ₁ => Q (!b) σ₁) σ) :
    T w A env (isTrue (.UnaryOp .Not x pos) env whole) Q σ := by
  refine T.mk fun _ _ S => ?_
  with_reducible exact wpAny_isTrue_Not (h.go S fun _ _ _ σ'' S'' q' => ⟨_, _, rfl, σ'', S'', q'⟩)
theorem T_isTrue_and {x : Expr} {rest : List Expr} {pos : Pos} {whole : Sem Value} {Q : Bool → Sg → Prop}
    (h : T w A env (isTrue x env (eval x env)) (fun b σ₁ => (b = true → T w A env (isTrue (.BoolOp .And rest pos) env whole) Q σ₁) ∧ (b = false → Q false σ₁)) σ) :
    T w A env (isTrue (.BoolOp .And (x :: rest) pos) env whole) Q σ := by
  refine T.mk fun _ _ S => ?_
  exact isTrue_and (h.go S fun b _ _ σ' S' q => by
  cases b with
  | true => exact (q.1 rfl).go S' fun _ _ _ σ'' S'' q' => ⟨_, _, rfl, σ'', S'', q'⟩
  | false => exact ⟨_, _, rfl, σ', S', q.2 rfl⟩)
theorem T_isTrue_or {x : Expr} {rest : List Expr} {pos : Pos} {whole : Sem Value} {Q : Bool → Sg → Prop}
    (h : T w A env (isTrue x env (eval x env)) (fun b σ₁ => (b = false → T w A env (isTrue (.BoolOp .Or rest pos) env whole) Q σ₁) ∧ (b = true → Q true σ₁)) σ) :
    T w A env (isTrue (.BoolOp .Or (x :: rest) pos) env whole) Q σ := by
  refine T.mk fun _ _ S => ?_
  exact isTrue_or (h.go S fun b _ _ σ' S' q => by
  cases b with
  | false => exact (q.1 rfl).go S' fun _ _ _ σ'' S'' q' => ⟨_, _, rfl, σ'', S'', q'⟩
  | true => exact ⟨_, _, rfl, σ', S', q.2 rfl⟩)
theorem T_isTrue_and_nil {pos : Pos} {whole : Sem Value} {Q : Bool → Sg → Prop} (h : Q true σ) : T w A env (isTrue (.BoolOp .And [] pos) env whole) Q σ := by
  refine T.mk fun _ _ S => ?_
  exact isTrue_and_nil (Fin.here S h)
theorem T_isTrue_or_nil {pos : Pos} {whole : Sem Value} {Q : Bool → Sg → Prop} (h : Q false σ) : T w A env (isTrue (.BoolOp .Or [] pos) env whole) Q σ := by
  refine T.mk fun _ _ S => ?_
  exact isTrue_or_nil (Fin.here S h)
theorem T_And2 {x y : Expr} {pos : Pos} {Q : Value → Sg → Prop}
    (h : T w A env (eval x env) (fun v σ₁ => T w A env (truthy v) (fun b σ₂ => (b = true → T w A env (eval y env) Q σ₂) ∧ (b = false → Q v σ₂)) σ₁) σ) :
    T w A env (eval (.BoolOp .And [x, y] pos) env) Q σ := by
  refine T.mk fun _ _ S => ?_
  exact wpAny_And2 (h.go S fun v _ _ _ S1 q => q.go S1 fun b _ _ σ' S' q => by
  cases b with
  | true => exact (q.1 rfl).go S' fun _ _ _ σ'' S'' q' => ⟨_, _, rfl, σ'', S'', q'⟩
  | false => exact ⟨_, _, rfl, σ', S', q.2 rfl⟩)
theorem T_testChain {pos : Pos} {a : Value} {op₁ op₂ : CmpOp} {x y : Sem Value} {Q : Bool → Sg → Prop}
    (h : T w A env x (fun b σ₁ => T w A env (compareOp op₁ a b) (fun c σ₂ => T w A env (truthy c) (fun t σ₃ => (t = true → T w A env y (fun d σ₄ => T w A env (compareOp op₂ b d) (fun e σ₅ => T w A env (truthy e) Q σ₅) σ₄) σ₃) ∧ (t = false → Q false σ₃)) σ₂) σ₁) σ) :
    T w A env (testChain pos a [op₁, op₂] [x, y]) Q σ := by
  refine T.mk fun _ _ S => ?_
  show wpAny _ _ (do
    let rv ← holding [a] x
    standAt pos
    let c ← holding [a, rv] (compareOp op₁ a rv)
    release [a, rv] [c]
    if ← holding [c, rv] (truthy c) then testChain pos rv [op₂] [y] else pure false) _ _ _
  refine wpAny_bind (wpAny_holding (h.go S fun b _ _ _ S1 q => wpAny_bind (wpAny_standAt (wpAny_bind (wpAny_holding (q.go S1 fun c _ _ _ S2 q => wpAny_bind (wpAny_release (wpAny_bind (wpAny_holding (q.go S2 fun t _ _ σ' S3 q => ?_))))))))))
  cases t with
  | false => exact wpAny_pure ⟨_, _, rfl, σ', S3, q.2 rfl⟩
  | true =>
    show wpAny _ _ (do
      let rv ← holding [b] y
      standAt pos
      let c ← operate [b, rv] (compareOp op₂ b rv)
      holding [c] (truthy c)) _ _ _
    refine wpAny_bind (wpAny_holding ((q.1 rfl).go S3 fun d _ _ _ S4 q => wpAny_bind (wpAny_standAt (wpAny_bind (wpAny_operateT (q.go S4 fun e _ _ _ S5 q => wpAny_holding (q.go S5 fun _ _ _ σ'' S'' q' => ⟨_, _, rfl, σ'', S'', q'⟩)))))))
theorem T_isTrue_chain {l r₁ r₂ : Expr} {op₁ op₂ : CmpOp} {pos : Pos} {whole : Sem Value} {Q : Bool → Sg → Prop}
    (h : T w A env (eval l env) (fun a σ₁ => T w A env (testChain pos a [op₁, op₂] [eval r₁ env, eval r₂ env]) Q σ₁) σ)
    (hm : lastMarks [op₁, op₂] [r₁, r₂] = false := by kernel_rfl) : T w A env (isTrue (.Compare l [op₁, op₂] [r₁, r₂] pos) env whole) Q σ := by
  refine T.mk fun _ _ S => ?_
  exact isTrue_chain (h.go S fun _ _ _ _ S1 q => q.go S1 fun _ _ _ σ'' S'' q' => ⟨_, _, rfl, σ'', S'', q'⟩) hm
end
end Mine
end
section
open PySem PySem.W PyProof.Rows PySem.Calls
set_option Elab.async false
set_option linter.unusedVariables false
set_option maxRecDepth 100000
namespace Mine

def gtab : List (Str × Value) := [("normal", .ref 46), ("compare", .ref 53), ("add", .ref 60), ("sub", .ref 67), ("shift_left", .ref 74), ("shift_right", .ref 81), ("bits", .ref 88), ("low", .ref 95),
  ("ring_one", .ref 102), ("ring_add", .ref 109), ("ring_sub", .ref 116), ("ring_neg", .ref 123), ("ring_fold", .ref 130), ("ring_shift", .ref 137), ("ring_mul", .ref 144), ("forward", .ref 151), ("backward", .ref 156),
  ("convolved", .ref 161), ("weighted", .ref 166), ("convolved_minus", .ref 173), ("mul_school", .ref 180), ("_law_deal", .ref 185), ("_law_take", .ref 192), ("_law_great", .ref 199), ("_law_row", .ref 206), ("_law_value", .ref 211),
  ("_law_element", .ref 218), ("_law_same", .ref 223), ("_law_sums_right", .ref 230), ("_law_turned", .ref 237), ("_law_values_right", .ref 242), ("_law_round_right", .ref 247)]
def btab : List (Str × Value) := [("len", .builtin "len"), ("range", .type "range"), ("enumerate", .type "enumerate"), ("zip", .type "zip"), ("abs", .builtin "abs"), ("int", .type "int"), ("sum", .builtin "sum")]

theorem gtab_ok (P : Params) : ∀ p ∈ gtab, nsIn (hK P) mainGlobals p.1 = some (some p.2) := by
  have e : (gtab.all fun p => nsIn (hK P) mainGlobals p.1 == some (some p.2)) = true := by kernel_rfl
  intro p hp
  exact eq_of_beq (List.all_eq_true.mp e p hp)
theorem btab_ok (P : Params) : ∀ p ∈ btab, nsIn (hK P) mainGlobals p.1 = some none := by
  have e : (btab.all fun p => nsIn (hK P) mainGlobals p.1 == some none) = true := by kernel_rfl
  intro p hp
  exact eq_of_beq (List.all_eq_true.mp e p hp)
theorem btab_boot : ∀ p ∈ btab, bootBuiltins p.1 = some p.2 := by
  have e : (btab.all fun p => bootBuiltins p.1 == some p.2) = true := by decide +kernel
  intro p hp
  exact eq_of_beq (List.all_eq_true.mp e p hp)
theorem btab_name : ∀ p ∈ btab, p.1 ≠ "__name__" := by
  have e : (btab.all fun p => decide (p.1 ≠ "__name__")) = true := by decide +kernel
  intro p hp
  exact of_decide_eq_true (List.all_eq_true.mp e p hp)

section
variable {w : World} {A : Around} {env : Env} {σ : Sg}
theorem T_glob {x : Str} {pos : Pos} {v : Value} {Q : Value → Sg → Prop} (hm : gtab.lookup x = some v) (h : Q v σ)
    (hx : env.kindOf x = some .globalImplicit := by kernel_rfl) (hd : (x == ("__debug__" : Str)) = false := by decide +kernel) : T w A env (eval (.Name x pos) env) Q σ := by
  refine T.mk fun h₀ s S => ?_
  obtain ⟨hI, S'⟩ := id S
  have G := S.glob
  obtain ⟨q0, lo, mg, mb, t⟩ := G.t
  refine Name_function_global S'.ok.kind hx (loadGlobal_global (mg := mg) (by rw [S'.ok.glob]; exact t.g) (mg_of G.k t.g (gtab_ok w.params _ (mem_lookup hm))) (Fin.here S h)) hd
where
  mem_lookup {l : List (Str × Value)} {x : Str} {v : Value} (e : l.lookup x = some v) : (x, v) ∈ l := by
    induction l with
    | nil => cases e
    | cons p r ih =>
      obtain ⟨y, d⟩ := p
      by_cases h : x = y
      · subst h; simp at e; subst e; exact .head _
      · rw [List.lookup_cons, beq_eq_false_iff_ne.mpr h] at e; exact .tail _ (ih e)
theorem T_bi {x : Str} {pos : Pos} {v : Value} {Q : Value → Sg → Prop} (hm : btab.lookup x = some v) (h : Q v σ)
    (hx : env.kindOf x = some .globalImplicit := by kernel_rfl) (hd : (x == ("__debug__" : Str)) = false := by decide +kernel) : T w A env (eval (.Name x pos) env) Q σ := by
  refine T.mk fun h₀ s S => ?_
  obtain ⟨hI, S'⟩ := id S
  have G := S.glob
  obtain ⟨q0, lo, mg, mb, t⟩ := G.t
  have hp := T_glob.mem_lookup hm
  exact Name_function_global S'.ok.kind hx (loadGlobal_builtin (by rw [S'.ok.glob]; exact t.g) (mg_none_of G.k t.g (btab_ok w.params _ hp)) (by rw [S'.ok.bi]; exact t.b)
    ((t.builtins x (btab_name _ hp)).trans (btab_boot _ hp)) (Fin.here S h)) hd

-- lists of expressions
theorem T_sp_nil {pos : Pos} {Q : List Value → Sg → Prop} (h : Q [] σ) : T w A env (spliced (backTo pos (starEach [] env))) Q σ := by
  refine T.mk fun h₀ s S => ?_
  exact args_nil (Fin.here S h)
theorem T_sp_cons {pos : Pos} {e : Expr} {rest : List Expr} {Q : List Value → Sg → Prop}
    (h : T w A env (eval e env) (fun v σ₁ => T w A env (spliced (backTo pos (starEach rest env))) (fun vs σ₂ => Q (v :: vs) σ₂) σ₁) σ)
    (he : starEach (e :: rest) env = (false, eval e env) :: starEach rest env := by kernel_rfl) : T w A env (spliced (backTo pos (starEach (e :: rest) env))) Q σ := by
  refine T.mk fun h₀ s S => ?_
  rw [he]
  exact spliced_cons (h.go S fun _ _ _ _ S1 q => q.go S1 fun _ _ _ σ'' S'' q' => ⟨_, _, rfl, σ'', S'', q'⟩)

-- calls
def fns : List Addr := [46, 53, 60, 67, 74, 81, 88, 95, 102, 109, 116, 123, 130, 137, 144, 151, 156, 161, 166, 173, 180, 185, 192, 199, 206, 211, 218, 223, 230, 237, 242, 247, 252]
def isFunc (K : Frag) (a : Addr) : Bool := match K.lookup a with
  | some ⟨_, _, .func _, _⟩ => true
  | _ => false
theorem fns_ok (P : Params) : ∀ f ∈ fns, isFunc (hK P) f = true := by
  have e : (fns.all fun f => isFunc (hK P) f) = true := by kernel_rfl
  exact List.all_eq_true.mp e
theorem func_of {K : Frag} {a : Addr} {h : Heap} (X : K.In h) (e : isFunc K a = true) : ∃ o fd, h.get? a = some o ∧ o.data = .func fd := by
  unfold isFunc at e
  split at e
  · rename_i c d fd sl q
    exact ⟨_, fd, X _ _ q, rfl⟩
  · cases e
theorem T_Call {func : Expr} {args : List Expr} {pos : Pos} {Q : Value → Sg → Prop}
    (h : T w A env (eval func env) (fun f σ₁ => T w A env (callWith pos f [] (backTo pos (starEach args env)) []) Q σ₁) σ)
    (he : eval (.Call func args [] pos) env = (do callWith pos (← eval func env) [] (backTo pos (starEach args env)) (backToKw pos (keywordEach [] env))) := by kernel_rfl) :
    T w A env (eval (.Call func args [] pos) env) Q σ := by
  refine T.mk fun h₀ s S => ?_
  exact Call_ (h.go S fun _ _ _ _ S1 q => q.go S1 fun _ _ _ σ'' S'' q' => ⟨_, _, rfl, σ'', S'', q'⟩) he
theorem T_callWith_fn {pos : Pos} {f : Addr} {e : Expr} {rest : List Expr} {Q : Value → Sg → Prop} (hf : f ∈ fns)
    (h : T w A env (spliced (backTo pos (starEach (e :: rest) env))) (fun vs σ₁ => T w A env (call (.ref f) vs) Q σ₁) σ)
    (he : starEach (e :: rest) env = (false, eval e env) :: starEach rest env := by kernel_rfl) : T w A env (callWith pos (.ref f) [] (backTo pos (starEach (e :: rest) env)) []) Q σ := by
  refine T.mk fun h₀ s S => ?_
  obtain ⟨o, fd, ho, hd⟩ := func_of S.glob.k (fns_ok w.params f hf)
  refine callWith_def (o := o) (fd := fd) hd ?_ he
  obtain ⟨hI, S0⟩ := id S
  refine h.go S fun vs h' tk' σ' S1 q => ⟨?_, q.go S1 fun _ _ _ σ'' S'' q' => ⟨_, _, rfl, σ'', S'', q'⟩⟩
  obtain ⟨o', fd', ho', hd'⟩ := func_of S1.glob.k (fns_ok w.params f hf)
  have := func_same S.glob S1.glob hf
  rw [← this]; exact ho
where
  func_same {h h' : Heap} {f : Addr} (g : Gl w h) (g' : Gl w h') (hf : f ∈ fns) : h.get? f = h'.get? f := by
    have e := fns_ok w.params f hf
    unfold isFunc at e
    split at e
    · rename_i q
      rw [g.k _ _ q, g'.k _ _ q]
    · cases e
theorem T_callWith_bi {pos : Pos} {id : String} {e : Expr} {rest : List Expr} {Q : Value → Sg → Prop}
    (h : T w A env (spliced (backTo pos (starEach (e :: rest) env))) (fun vs σ₁ => T w A env (call (.builtin id) vs) Q σ₁) σ)
    (he : starEach (e :: rest) env = (false, eval e env) :: starEach rest env := by kernel_rfl) (hp : (backTo pos (starEach rest env)).any (·.1) = false := by kernel_rfl) :
    T w A env (callWith pos (.builtin id) [] (backTo pos (starEach (e :: rest) env)) []) Q σ := by
  refine T.mk fun h₀ s S => ?_
  exact callWith_method1 (first := []) (h.go S fun _ _ _ _ S1 q => q.go S1 fun _ _ _ σ'' S'' q' => ⟨_, _, rfl, σ'', S'', q'⟩) he hp
theorem T_callWith_ty {pos : Pos} {ty : String} {e : Expr} {rest : List Expr} {Q : Value → Sg → Prop}
    (h : T w A env (spliced (backTo pos (starEach (e :: rest) env))) (fun vs σ₁ => T w A env (call (.type ty) vs) Q σ₁) σ)
    (he : starEach (e :: rest) env = (false, eval e env) :: starEach rest env := by kernel_rfl) (hp : (backTo pos (starEach rest env)).any (·.1) = false := by kernel_rfl) :
    T w A env (callWith pos (.type ty) [] (backTo pos (starEach (e :: rest) env)) []) Q σ := by
  refine T.mk fun h₀ s S => ?_
  exact callWith_type1 (h.go S fun _ _ _ _ S1 q => q.go S1 fun _ _ _ σ'' S'' q' => ⟨_, _, rfl, σ'', S'', q'⟩) he hp

/-- what is known of a value -/
inductive Sg.Has (σ : Sg) (v : Value) : D → Prop
  | fx {d} : (v, d) ∈ σ.fx → σ.Has v d
  | ow {d} : (v, d) ∈ σ.ow → σ.Has v d
  | app {ns} : (v, .app ns) ∈ σ.ow → σ.Has v (.nums ns)
  | fxa {ns} : (v, .app ns) ∈ σ.fx → σ.Has v (.nums ns)
theorem Sg.Has.rep {v : Value} {d : D} {h₀ h : Heap} (x : σ.Has v d) (S : St w env h₀ σ h) : Rep h v d := by
  obtain ⟨hI, S⟩ := S
  cases x with
  | fx hm => exact (S.fx _ hm).mono S.kI
  | ow hm =>
    obtain ⟨a, e, _, _, r⟩ := S.ow _ hm
    exact ⟨a, e, r.mono S.kI fun _ q => q⟩
  | app hm =>
    obtain ⟨a, e, _, _, vs, hl, hi⟩ := S.ow _ hm
    exact ⟨a, e, vs, hl.isList, hi⟩
  | fxa hm =>
    obtain ⟨a, e, vs, hl, hi⟩ := (S.fx _ hm).mono S.kI
    exact ⟨a, e, vs, hl.isList, hi⟩

/-- room for k calls, one in the other -/
structure Room (A : Around) (k : Nat) : Prop where
  h : A.handled = none
  d : A.depth + k < recursionLimit
  u : A.units + 8 * k + 16 < cLine

inductive R where
  | i (x : Int)
  | b (x : Bool)
  | nums (ns : List Int)
  | rows (rs : List (List Int))
def R.Is (h h' : Heap) (v : Value) : R → Prop
  | .i x => ∃ t, v = .int x t
  | .b x => v = .bool x
  | .nums ns => ∃ a, v = .ref a ∧ h.get? a = none ∧ RepM h' h' a (.nums ns)
  | .rows rs => Rep h' v (.rows rs)

/-- the def at f, upon args, gives r; it changes nothing -/
structure Pure (w : World) (k : Nat) (f : Addr) (args : List Value) (reads : List (Value × D)) (r : R) : Prop where
  run : ∀ (A : Around) (s : Shared), Room A k → Gl w s.heap → (∀ p ∈ reads, Rep s.heap p.1 p.2) →
    wpAny (model PySem.Challenge.pw_nn0015_01 w) A (call (.ref f) args) (fun v s' => ∃ h' tk', s' = { s with heap := h', toks := tk' } ∧ Sub s.heap h' ∧ r.Is s.heap h' v) (fun _ _ => False) s

section
variable {k : Nat} {f : Addr} {args : List Value} {reads : List (Value × D)} {Q : Value → Sg → Prop}
theorem T_pure_i {x : Int} (C : Pure w k f args reads (.i x)) (hA : Room A k) (hr : ∀ p ∈ reads, σ.Has p.1 p.2) (h : ∀ t, Q (.int x t) σ) : T w A env (call (.ref f) args) Q σ := by
  refine T.mk fun h₀ s S => ?_
  refine wpAny_mono (C.run A s hA S.glob fun p hp => (hr p hp).rep S) (fun v s' ⟨h', tk', e, sub, ⟨t, ev⟩⟩ => ?_) fun _ _ f => f
  subst e ev
  exact Fin.mk (S.grow sub) (h t)
theorem T_pure_b {x : Bool} (C : Pure w k f args reads (.b x)) (hA : Room A k) (hr : ∀ p ∈ reads, σ.Has p.1 p.2) (h : Q (.bool x) σ) : T w A env (call (.ref f) args) Q σ := by
  refine T.mk fun h₀ s S => ?_
  refine wpAny_mono (C.run A s hA S.glob fun p hp => (hr p hp).rep S) (fun v s' ⟨h', tk', e, sub, ev⟩ => ?_) fun _ _ f => f
  subst e
  cases (show v = Value.bool x from ev)
  exact Fin.mk (S.grow sub) h
theorem T_pure_n {ns : List Int} (C : Pure w k f args reads (.nums ns)) (hA : Room A k) (hr : ∀ p ∈ reads, σ.Has p.1 p.2) (h : ∀ v, Q v { σ with fx := (v, .nums ns) :: σ.fx, fr := v :: σ.fr }) : T w A env (call (.ref f) args) Q σ := by
  refine T.mk fun h₀ s S => ?_
  refine wpAny_mono (C.run A s hA S.glob fun p hp => (hr p hp).rep S) (fun v s' ⟨h', tk', e, sub, ⟨a, ev, hn, rp⟩⟩ => ?_) fun _ _ f => f
  subst e
  exact Fin.mk (S.fixNums sub ev hn rp) (h v)
theorem T_pure_r {rs : List (List Int)} (C : Pure w k f args reads (.rows rs)) (hA : Room A k) (hr : ∀ p ∈ reads, σ.Has p.1 p.2) (h0 : σ.ow = []) (h : ∀ v, Q v { σ with fx := (v, .rows rs) :: σ.fx }) : T w A env (call (.ref f) args) Q σ := by
  refine T.mk fun h₀ s S => ?_
  refine wpAny_mono (C.run A s hA S.glob fun p hp => (hr p hp).rep S) (fun v s' ⟨h', tk', e, sub, rp⟩ => ?_) fun _ _ f => f
  subst e
  exact Fin.mk (S.fixRows sub h0 rp) (h v)
end
end
end Mine
end
section
open PySem PySem.W PyProof.Rows PySem.Calls
set_option Elab.async false
set_option linter.unusedVariables false
set_option maxRecDepth 100000
namespace Mine

/-- the names of a call and what they hold -/
inductive MB : List (Str × AV) → List (Str × Value) → Prop
  | nil {m : List (Str × AV)} : (m.all fun p => match p.2 with | .un => true | _ => false) = true → MB m []
  | cons {x : Str} {av : AV} {v : Value} {m b} : av.Is v → MB m b → MB ((x, av) :: m) ((x, v) :: b)
theorem MB.get {m b} (h : MB m b) : ∀ p ∈ m, p.2 = .un ∨ ∃ v, (p.1, v) ∈ b ∧ p.2.Is v := by
  induction h with
  | nil e =>
    intro p hp
    have := List.all_eq_true.mp e p hp
    left
    cases q : p.2 <;> rw [q] at this <;> first | rfl | cases this
  | @cons y u v m b hv _ ih =>
    intro p hp
    rcases List.mem_cons.mp hp with rfl | hp
    · exact .inr ⟨v, .head _, hv⟩
    · rcases ih p hp with e | ⟨v', hm, ha⟩
      · exact .inl e
      · exact .inr ⟨v', .tail _ hm, ha⟩

theorem bindL_skip {kd : Str → Option NameKind} : ∀ (b : List (Str × Value)) (m : Str → Option Value) (x : Str), (∀ p ∈ b, p.1 ≠ x) → bindL kd b m x = m x
  | [], _, _, _ => rfl
  | (n, v) :: r, m, x, h => by
    unfold bindL
    rw [bindL_skip r _ x fun p hp => h p (.tail _ hp)]
    split
    · dsimp only; rw [if_neg fun e => h (n, v) (.head _) e.symm]
    · rfl
theorem bindL_get {kd : Str → Option NameKind} : ∀ (b : List (Str × Value)) (m : Str → Option Value) (x : Str) (v : Value), (b.map (·.1)).Nodup → (x, v) ∈ b → kd x = some .local → bindL kd b m x = some v
  | (n, u) :: r, m, x, v, nd, hm, hk => by
    rw [List.map_cons, List.nodup_cons] at nd
    unfold bindL
    rcases List.mem_cons.mp hm with e | hm
    · cases e
      rw [bindL_skip r _ n fun p hp e => nd.1 (List.mem_map.mpr ⟨p, hp, e⟩), if_pos hk]
      simp
    · exact bindL_get r _ x v nd.2 hm hk
theorem bindC_skip {kd : Str → Option NameKind} : ∀ (b : List (Str × Value)) (m : Str → Option Value) (x : Str), (∀ p ∈ b, p.1 ≠ x) → bindC kd b m x = m x
  | [], _, _, _ => rfl
  | (n, v) :: r, m, x, h => by
    unfold bindC
    rw [bindC_skip r _ x fun p hp => h p (.tail _ hp)]
    split
    · rfl
    · dsimp only; rw [if_neg fun e => h (n, v) (.head _) e.symm]
theorem bindC_get {kd : Str → Option NameKind} : ∀ (b : List (Str × Value)) (m : Str → Option Value) (x : Str) (v : Value), (b.map (·.1)).Nodup → (x, v) ∈ b → kd x ≠ some .local → bindC kd b m x = some v
  | (n, u) :: r, m, x, v, nd, hm, hk => by
    rw [List.map_cons, List.nodup_cons] at nd
    unfold bindC
    rcases List.mem_cons.mp hm with e | hm
    · cases e
      rw [bindC_skip r _ n fun p hp e => nd.1 (List.mem_map.mpr ⟨p, hp, e⟩), if_neg hk]
      simp
    · exact bindC_get r _ x v nd.2 hm hk

/-- what a def's end asks -/
def RIs (σ : Sg) (v : Value) : R → Prop
  | .i x => ∃ t, v = .int x t
  | .b x => v = .bool x
  | .nums ns => σ.Has v (.nums ns) ∧ (v ∈ σ.fr ∨ v ∈ σ.ow.map (·.1))
  | .rows rs => σ.Has v (.rows rs)
def Ends (r : R) (f : Flow) (σ : Sg) : Prop := ∃ v, f = .ret v ∧ RIs σ v r
theorem RIs.is {w : World} {env : Env} {h₀ h : Heap} {σ : Sg} {v : Value} {r : R} (x : RIs σ v r) (S : St w env h₀ σ h) : r.Is h₀ h v := by
  cases r with
  | i x => exact x
  | b x => exact x
  | rows rs => exact Sg.Has.rep x S
  | nums ns =>
    obtain ⟨hx, hf⟩ := x
    obtain ⟨a, e, rp⟩ := hx.rep S
    refine ⟨a, e, ?_, rp⟩
    obtain ⟨hI, S⟩ := S
    rcases hf with hf | hf
    · obtain ⟨a', e', hn⟩ := S.fr v hf
      rw [e] at e'; cases e'
      exact hn
    · obtain ⟨p, hp, e'⟩ := List.mem_map.mp hf
      obtain ⟨a', e'', hn, _⟩ := S.ow p hp
      rw [e', e] at e''; cases e''
      exact none_of_sub S.k0 hn

theorem room_deeper {A : Around} {k : Nat} (h : Room A (k + 1)) (env : Env) : Room (A.deeper env) k :=
  ⟨h.h, by have := h.d; show A.depth + 1 + k < _; (first | lia | omega), by have := h.u; show A.units + 3 + 8 * k + 16 < _; (first | lia | omega)⟩
theorem Room.le {A : Around} {k j : Nat} (h : Room A k) (hj : j ≤ k) : Room A j :=
  ⟨h.h, by have := h.d; (first | lia | omega), by have := h.u; (first | lia | omega)⟩

/-- the body of a def is entered -/
theorem enter {w : World} {A : Around} {s : Shared} {f : Addr} {name qual : Str} {params : Arguments} {body : List Stmt} {scope : Scope} {dV kV doc pm cdv ct oc : Value} {an od : Option Addr} {osl : Array (Option Value)}
    {args : List Value} {binds : List (Str × Value)} {m : List (Str × AV)} {fx : List (Value × D)} {ow : List (Value × D)} {h₀ : Heap} {K : Value → Shared → Prop} {QQ : Value → Sg → Prop}
    (ho : (hK w.params).lookup f = some ⟨oc, od, .func (fnOf name qual params body scope dV kV doc pm an cdv ct), osl⟩) (hcd : codeIn (hK w.params) cdv qual = true)
    (hb : bindArgs (fnOf name qual params body scope dV kV doc pm an cdv ct) ⟨args, []⟩ = pure binds)
    (hkind : (binds.all fun y => scope.names.lookup y.1 == some .local || scope.names.lookup y.1 == some .cell) = true)
    (hnd : ((cellsFrom 0 scope.names []).map (·.1)).Nodup) (hbn : (binds.map (·.1)).Nodup) (hm : MB m binds)
    (hA : A.depth < recursionLimit) (gl : Gl w s.heap)
    (hin : ∀ h', Sub s.heap h' → ∀ env, EnvOk env → env.locals = s.heap.objs.size → (∃ ml, h'.Ns env.locals ml) → (∀ x c, env.cells.lookup x = some c → (∃ v0, h'.IsCell c v0) ∧ s.heap.objs.size < c) → (∀ p ∈ m, p.2 = .un ∨ ∃ v, Holds env h' p.1 v ∧ p.2.Is v) → St w env h₀ ⟨m, fx, [], ow⟩ h')
    (hco : scope.isCoroutine = false := by rfl) (hgen : scope.isGenerator = false := by rfl) (hk : scope.kind = .function := by rfl)
    (h : ∀ L, T w (A.deeper (envOfC qual scope L f cdv)) (envOfC qual scope L f cdv) (execs body (envOfC qual scope L f cdv)) (fun fl σ' => ∃ v, fl = .ret v ∧ QQ v σ') ⟨m, fx, [], ow⟩)
    (hK : ∀ v h' tk' σ' env, St w env h₀ σ' h' → QQ v σ' → K v { s with heap := h', toks := tk' }) :
    wpAny (model PySem.Challenge.pw_nn0015_01 w) A (call (.ref f) args) K (fun _ _ => False) s := by
  obtain ⟨q0, lo, mg, mb, t⟩ := gl.t
  refine wpAny_call (codeAny_call_function hA (gl.k _ _ ho) rfl hco hgen rfl (codeRec_of gl.k hcd) ?_)
  rw [hb]
  refine wpAny_pure (wpAny_newFunctionEnv_cells hk (kinds_of hkind _) fun env he s' X => ?_)
  have hL : env.locals = s.heap.objs.size := by rw [he]; rfl
  have hE : env = envOfC qual scope s.heap.objs.size f cdv := he
  obtain ⟨h₁, tk, e1⟩ := X.toInCall.same
  subst e1
  have sub : Sub s.heap h₁ := X.toInCall.keep
  refine ⟨t.nolimit.keeps sub, codeAny_func ?_⟩
  have ok : EnvOk env := by
    refine ⟨by rw [hE]; exact hk, by rw [hE]; rfl, by rw [hE]; rfl, fun x y c e1 e2 => name_of_addr X.apart (mem_of_lookup e1) (mem_of_lookup e2)⟩
  have S : St w env h₀ ⟨m, fx, [], ow⟩ h₁ := by
    refine hin h₁ sub env ok hL ⟨_, X.toInCall.ns⟩ (fun x c e => ⟨⟨_, X.cell x c e⟩, by rw [← hL]; exact X.above _ _ (mem_of_lookup e)⟩) fun p hp => ?_
    rcases hm.get p hp with e | ⟨v, hv, ha⟩
    · exact .inl e
    obtain ⟨x, av⟩ := p
    refine .inr ⟨v, ?_, ha⟩
    by_cases hk' : env.kindOf x = some .local
    · exact .inl ⟨hk', _, X.toInCall.ns, bindL_get _ _ _ _ hbn hv hk'⟩
    · rcases kinds_of hkind (s.heap.objs.size + 1) _ hv with q | ⟨q, q'⟩
      · exact absurd (by rw [hE]; exact q) hk'
      · obtain ⟨c, hc⟩ := Option.isSome_iff_exists.mp q'
        have hc' : env.cells.lookup x = some c := by rw [hE]; exact hc
        refine .inr ⟨.inl (by rw [hE]; exact q), c, hc', ?_⟩
        have := X.cell x c hc'
        rw [bindC_get _ _ _ _ hbn hv hk'] at this
        exact this
  rw [hE] at S ⊢
  refine wpAny_mono ((h s.heap.objs.size).go S (K := fun fl s' => ∃ v h' tk' σ', fl = .ret v ∧ s' = { s with heap := h', toks := tk' } ∧ St w (envOfC qual scope s.heap.objs.size f cdv) h₀ σ' h' ∧ QQ v σ') (E := fun _ _ => False) fun fl h' tk' σ' S' ⟨v, e, q⟩ => ⟨v, h', tk', σ', e, rfl, S', q⟩) (fun fl s' ⟨v, h', tk', σ', e, e', S', q⟩ => ?_) fun _ _ f => f.elim
  subst e e'
  exact hK v h' tk' σ' _ S' q
end Mine
end
section
open PySem PySem.W PyProof.Rows PySem.Calls
set_option Elab.async false
set_option linter.unusedVariables false
set_option maxRecDepth 100000
namespace Mine

/-- no name twice -/
def nodupB (l : List Str) : Bool := decide l.Nodup
theorem nodupB_iff {l : List Str} (h : nodupB l = true) : l.Nodup := of_decide_eq_true h

theorem Pure.mk' {w : World} {k : Nat} {f : Addr} {args : List Value} {reads : List (Value × D)} {r : R} {name qual : Str} {params : Arguments} {body : List Stmt} {scope : Scope} {dV kV doc pm cdv ct oc : Value} {an od : Option Addr} {osl : Array (Option Value)}
    {binds : List (Str × Value)} {m : List (Str × AV)}
    (ho : (hK w.params).lookup f = some ⟨oc, od, .func (fnOf name qual params body scope dV kV doc pm an cdv ct), osl⟩) (hcd : codeIn (hK w.params) cdv qual = true)
    (hb : bindArgs (fnOf name qual params body scope dV kV doc pm an cdv ct) ⟨args, []⟩ = pure binds)
    (hkind : (binds.all fun y => scope.names.lookup y.1 == some .local || scope.names.lookup y.1 == some .cell) = true)
    (hnd : ((cellsFrom 0 scope.names []).map (·.1)).Nodup) (hbn : nodupB (binds.map (·.1)) = true) (hm : MB m binds) (hmn : nodupB (m.map (·.1)) = true)
    (h : ∀ A L, Room A k → T w A (envOfC qual scope L f cdv) (execs body (envOfC qual scope L f cdv)) (Ends r) ⟨m, reads, [], []⟩)
    (hco : scope.isCoroutine = false := by rfl) (hgen : scope.isGenerator = false := by rfl) (hk : scope.kind = .function := by rfl) : Pure w (k + 1) f args reads r where
  run A s hA gl hr := by
    refine enter (h₀ := s.heap) (ow := []) (fx := reads) (QQ := fun v σ' => RIs σ' v r) ho hcd hb hkind hnd (nodupB_iff hbn) hm (by have := hA.d; (first | lia | omega)) gl ?_ hco hgen hk (fun L => h _ L (room_deeper hA _)) fun v h' tk' σ' env S' q => ⟨h', tk', rfl, S'.sub, q.is S'⟩
    intro h' sub env ok hL hns hc hmm
    have hn : ∀ c, s.heap.objs.size ≤ c → s.heap.get? c = none := fun c hc => by
      cases q : s.heap.get? c with
      | none => rfl
      | some o => exact absurd (Heap.lt_size q) (Nat.not_lt.mpr hc)
    exact ⟨s.heap, ok, gl, fun _ _ e => e, sub, hn _ (Nat.le_of_eq hL.symm), hns, fun x c e => ⟨(hc x c e).1, by rw [hL]; exact Nat.ne_of_gt (hc x c e).2, (fun _ hp => nomatch hp), fun _ => hn _ (Nat.le_of_lt (hc x c e).2)⟩, hmm, nodupB_iff hmn, hr, (fun _ hp => nomatch hp), .nil, fun _ hv => nomatch hv⟩

section
variable {w : World} {A : Around} {env : Env} {σ : Sg} {h₀ h h' hI : Heap}

/-- no list, no cell, no dict stands there -/
def Odd (h : Heap) (b : Addr) : Prop := ∃ o, h.get? b = some o ∧ o.cls ≠ .type "list" ∧ o.cls ≠ .type "range" ∧ (∀ v, o.data ≠ .cell v) ∧ ∀ es ep, o.data ≠ .dict es ep
theorem Odd.not_list {b : Addr} (x : Odd h b) (items : Array Value) : ¬ h.IsList b items := by
  obtain ⟨o, ho, hc, _⟩ := x
  rintro ⟨o', ho', hc', _⟩
  rw [ho] at ho'; cases ho'
  exact hc hc'
theorem Odd.not_range {b : Addr} (x : Odd h b) (p q r : Int) (t u v : Tok) : ¬ IsRange h b p q r t u v := by
  obtain ⟨o, ho, _, hc, _⟩ := x
  intro ho'
  have := ho.symm.trans ho'
  cases this
  exact hc rfl
theorem Odd.not_cell {b : Addr} (x : Odd h b) (v : Option Value) : ¬ h.IsCell b v := by
  obtain ⟨o, ho, _, _, hd, _⟩ := x
  rintro ⟨o', ho', hd'⟩
  rw [ho] at ho'; cases ho'
  exact hd _ hd'

/-- all but what stands at wr has stayed -/
theorem StI.but {wr : List Addr} (S : StI w env h₀ σ h hI) (hw : ∀ b ∈ wr, hI.get? b = none) (ho : ∀ b ∈ wr, Odd h b) (hm : ∀ b ∈ wr, b ∉ mutAddrs env σ) (k : ∀ b o, b ∉ wr → h.get? b = some o → h'.get? b = some o) : StI w env h₀ σ h' hI := by
  have hL : env.locals ∉ wr := fun q => hm _ q (.head _)
  have hcw : ∀ x c, env.cells.lookup x = some c → c ∉ wr := fun x c e q => by
    obtain ⟨⟨v0, hc⟩, _⟩ := S.cell x c e
    exact (ho c q).not_cell _ hc
  have how : ∀ p ∈ σ.ow, ∀ a, p.1 = .ref a → a ∉ wr := fun p hp a e q => hm a q (List.mem_cons_of_mem _ (List.mem_append_right _ (List.mem_filterMap.mpr ⟨p, hp, by rw [e]⟩)))
  refine ⟨S.ok, S.gl, S.k0, fun b o e => k _ _ (fun q => by rw [hw b q] at e; cases e) (S.kI _ _ e), S.offL, ?_, ?_, ?_, S.mn, S.fx, ?_, S.nd, S.fr⟩
  · obtain ⟨ml, hn⟩ := S.ns; exact ⟨ml, hn.at fun o e => k _ _ hL e⟩
  · intro x c e
    obtain ⟨⟨v0, o, hoc, hd⟩, r⟩ := S.cell x c e
    exact ⟨⟨v0, o, k _ _ (hcw x c e) hoc, hd⟩, r⟩
  · intro y hy
    rcases S.m y hy with e | ⟨v, hv, ha⟩
    · exact .inl e
    refine .inr ⟨v, ?_, ha⟩
    rcases hv with ⟨q, ml, hn, e'⟩ | ⟨q, c, e', o, hoc, hd⟩
    · exact .inl ⟨q, ml, hn.at fun o e => k _ _ hL e, e'⟩
    · exact .inr ⟨q, c, e', o, k _ _ (hcw y.1 c e') hoc, hd⟩
  · intro p hp
    obtain ⟨a, e, h1, h2, h3⟩ := S.ow p hp
    exact ⟨a, e, h1, h2, h3.mono (fun _ _ q => q) fun o q => k _ _ (how p hp a e) q⟩

theorem StI.put {x : Str} {av : AV} {v : Value} {m' : List (Str × AV)} {ml : Str → Option Value} (S : StI w env h₀ σ h hI) (hk : env.kindOf x = some .local) (hv : av.Is v) (p : Put x av σ.m m')
    (hn : h.Ns env.locals ml) (hn' : h'.Ns env.locals (fun y => if y = x then some v else ml y)) (hs : Heap.SameBut env.locals h h') : StI w env h₀ { σ with m := m' } h' hI := by
  have k := hs.extBut
  refine ⟨S.ok, S.gl, S.k0, fun b o e => k _ _ (fun q => by rw [q, S.offL] at e; cases e) (S.kI _ _ e), S.offL, ⟨_, hn'⟩, ?_, ?_, (by rw [p.names]; exact S.mn), S.fx, ?_, S.nd, S.fr⟩
  · intro x c' e
    obtain ⟨⟨v0, o, ho, hd⟩, h2, r⟩ := S.cell x c' e
    exact ⟨⟨v0, o, k _ _ h2 ho, hd⟩, h2, r⟩
  · intro y hy
    rcases p.get S.mn y hy with rfl | ⟨hne, e⟩
    · exact .inr ⟨v, .inl ⟨hk, _, hn', by simp⟩, hv⟩
    · rcases S.m y e with e | ⟨v', hv', ha⟩
      · exact .inl e
      refine .inr ⟨v', ?_, ha⟩
      rcases hv' with ⟨q, ml', hm, e'⟩ | ⟨q, c, e', o, ho, hd⟩
      · refine .inl ⟨q, _, hn', ?_⟩
        rw [if_neg hne, hn.agree hm]; exact e'
      · exact .inr ⟨q, c, e', o, k _ _ (S.cell y.1 c e').2.1 ho, hd⟩
  · intro p hp
    obtain ⟨b, eb, h1, h2, h3⟩ := S.ow p hp
    exact ⟨b, eb, h1, h2, h3.mono (fun _ _ q => q) fun o q => k _ _ h2 q⟩

/-- what is kept of h: what stood at h₀, and fp -/
def baseOf (h₀ h : Heap) (fp : List Addr) : Heap := hideAll h ((List.range h.objs.size).filter fun a => (h₀.get? a).isNone && !fp.contains a)
theorem baseOf_sub {fp : List Addr} : Sub (baseOf h₀ h fp) h := fun _ _ e => of_hideAll _ e
theorem baseOf_get {fp : List Addr} {b : Addr} {o : Obj} (e : h.get? b = some o) (hb : (h₀.get? b).isSome = true ∨ b ∈ fp) : (baseOf h₀ h fp).get? b = some o := by
  refine hideAll_get _ e fun hm => ?_
  have := (List.mem_filter.mp hm).2
  rw [Bool.and_eq_true] at this
  rcases hb with q | q
  · rw [Option.isNone_iff_eq_none] at this
    rw [this.1] at q; cases q
  · have h2 := this.2
    rw [List.contains_iff_mem.mpr q] at h2; cases h2
theorem baseOf_none {fp : List Addr} {b : Addr} (e : h₀.get? b = none) (hb : b ∉ fp) : (baseOf h₀ h fp).get? b = none := by
  cases q : h.get? b with
  | none => exact none_of_sub baseOf_sub q
  | some o =>
    refine hideAll_none _ (List.mem_filter.mpr ⟨List.mem_range.mpr (Heap.lt_size q), ?_⟩)
    rw [e]
    have : fp.contains b = false := by
      cases q : fp.contains b with
      | false => rfl
      | true => exact absurd (List.contains_iff_mem.mp q) hb
    rw [this]; rfl
theorem baseOf_old {fp : List Addr} (k : Sub h₀ h) : Sub h₀ (baseOf h₀ h fp) := fun b o e => baseOf_get (k _ _ e) (.inl (by rw [e]; rfl))

/-- the state, upon a base that holds fp too -/
theorem StI.rebase {fp : List Addr} (S : StI w env h₀ σ h hI) (hm : ∀ b ∈ fp, b ∉ mutAddrs env σ) (hf : ∀ v ∈ σ.fr, ∀ b ∈ fp, v ≠ .ref b) : St w env (baseOf h₀ h fp) σ h := by
  have k0 : Sub h₀ h := fun b o e => S.kI _ _ (S.k0 _ _ e)
  have sub : Sub hI (hideAll h (mutAddrs env σ)) := S.hidden fun _ _ e => e
  refine ⟨hideAll h (mutAddrs env σ), S.ok, S.gl.mono (baseOf_old k0), fun b o e => ?_, fun b o e => of_hideAll _ e, hideAll_none _ (.head _), S.ns, ?_, S.m, S.mn, fun p hp => (S.fx p hp).mono sub, ?_, S.nd, ?_⟩
  · refine hideAll_get _ (baseOf_sub _ _ e) fun hb => ?_
    by_cases q : b ∈ fp
    · exact hm b q hb
    · have h1 : h₀.get? b = none := none_of_sub S.k0 (S.off b hb)
      rw [baseOf_none h1 q] at e; cases e
  · intro x c e
    obtain ⟨h1, h2, h3, h4⟩ := S.cell x c e
    refine ⟨h1, h2, h3, fun hk => hideAll_none _ (List.mem_cons_of_mem _ (List.mem_append_left _ (List.mem_filterMap.mpr ⟨x, List.mem_map.mpr ⟨(x, c), mem_cells e, rfl⟩, ?_⟩)))⟩
    rw [if_pos hk]; exact e
  · intro p hp
    obtain ⟨a, e, h1, h2, h3⟩ := S.ow p hp
    refine ⟨a, e, hideAll_none _ (List.mem_cons_of_mem _ (List.mem_append_right _ (List.mem_filterMap.mpr ⟨p, hp, by rw [e]⟩))), h2, h3.mono sub fun o q => q⟩
  · intro v hv
    obtain ⟨a, e, hn⟩ := S.fr v hv
    exact ⟨a, e, baseOf_none hn fun q => hf v hv a q e⟩

theorem rep_hide {wr : List Addr} {v : Value} {d : D} (r : Rep hI v d) (ho : ∀ b ∈ wr, ∀ items, ¬ hI.IsList b items) (hr : ∀ b ∈ wr, ∀ p q r t u v, ¬ IsRange hI b p q r t u v) : Rep (hideAll hI wr) v d := by
  have off : ∀ a items, hI.IsList a items → (hideAll hI wr).IsList a items := fun a items hl => isList_hidden hl fun hm => ho a hm items hl
  obtain ⟨a, e, r⟩ := r
  refine ⟨a, e, ?_⟩
  cases d with
  | nums ns => obtain ⟨vs, hl, hi⟩ := r; exact ⟨vs, off _ _ hl, hi⟩
  | app ns => obtain ⟨vs, hl, hi⟩ := r; exact ⟨vs, hl.at fun o e => hideAll_get _ e fun hm => ho a hm _ hl.isList, hi⟩
  | range p q z => obtain ⟨t, u, v, hl⟩ := r; exact ⟨t, u, v, hideAll_get _ hl fun hm => hr a hm _ _ _ _ _ _ hl⟩
  | rows rs => obtain ⟨vs, hl, hi⟩ := r; exact ⟨vs, off _ _ hl, paired_mono (fun _ _ ⟨b, us, eb, hb, hu⟩ => ⟨b, us, eb, off _ _ hb, hu⟩) hi⟩
  | deal v0 ns i sd => obtain ⟨t, u, hl, ⟨b, us, eb, hb, hu⟩, r⟩ := r; exact ⟨t, u, off _ _ hl, ⟨b, us, eb, off _ _ hb, hu⟩, r⟩
theorem repM_hide {wr : List Addr} {a : Addr} {d : D} (r : RepM hI h a d) (ho : ∀ b ∈ wr, ∀ items, ¬ hI.IsList b items) : RepM (hideAll hI wr) h a d := by
  have off : ∀ a items, hI.IsList a items → (hideAll hI wr).IsList a items := fun a items hl => isList_hidden hl fun hm => ho a hm items hl
  cases d with
  | nums ns => exact r
  | app ns => exact r
  | range p q z => exact r
  | rows rs => obtain ⟨vs, hl, hi⟩ := r; exact ⟨vs, hl, paired_mono (fun _ _ ⟨b, us, eb, hb, hu⟩ => ⟨b, us, eb, off _ _ hb, hu⟩) hi⟩
  | deal v0 ns i sd => obtain ⟨t, u, hl, ⟨b, us, eb, hb, hu⟩, r⟩ := r; exact ⟨t, u, hl, ⟨b, us, eb, off _ _ hb, hu⟩, r⟩

/-- and back -/
theorem St.unbase {hB : Heap} {wr fp : List Addr} (S : St w env hB σ h) (k : Sub h₀ hB) (gl : Gl w h₀) (hw : ∀ b ∈ wr, h₀.get? b = none) (ho : ∀ b ∈ wr, Odd h b) (hf : ∀ b ∈ fp, ∃ o, hB.get? b = some o) :
    (∃ hI, StI w env h₀ σ h hI ∧ ∀ b ∈ wr, hI.get? b = none) ∧ (∀ b ∈ fp, b ∉ mutAddrs env σ) ∧ (∀ v ∈ σ.fr, ∀ b ∈ fp, v ≠ .ref b) := by
  obtain ⟨hI, S⟩ := S
  have nl : ∀ b ∈ wr, ∀ items, ¬ hI.IsList b items := fun b hb items hl => (ho b hb).not_list items (hl.at fun o e => S.kI _ _ e)
  have nr : ∀ b ∈ wr, ∀ p q r t u v, ¬ IsRange hI b p q r t u v := fun b hb p q r t u v hl => (ho b hb).not_range _ _ _ _ _ _ (S.kI _ _ hl)
  refine ⟨⟨hideAll hI wr, ⟨S.ok, gl, fun b o e => hideAll_get _ (S.k0 _ _ (k _ _ e)) fun q => (by rw [hw b q] at e; cases e), fun b o e => S.kI _ _ (of_hideAll _ e), none_of_sub (fun b o e => of_hideAll _ e) S.offL, S.ns, ?_, S.m, S.mn, fun p hp => rep_hide (S.fx p hp) nl nr, ?_, S.nd, ?_⟩, fun b hb => hideAll_none _ hb⟩, ?_, ?_⟩
  · intro x c e
    obtain ⟨h1, h2, h3, h4⟩ := S.cell x c e
    exact ⟨h1, h2, h3, fun hk => none_of_sub (fun b o e => of_hideAll _ e) (h4 hk)⟩
  · intro p hp
    obtain ⟨a, e, h1, h2, h3⟩ := S.ow p hp
    exact ⟨a, e, none_of_sub (fun b o e => of_hideAll _ e) h1, h2, repM_hide h3 nl⟩
  · intro v hv
    obtain ⟨a, e, hn⟩ := S.fr v hv
    exact ⟨a, e, none_of_sub k hn⟩
  · intro b hb hm
    obtain ⟨o, e⟩ := hf b hb
    have := S.k0 _ _ e
    rw [S.off b hm] at this; cases this
  · intro v hv b hb q
    obtain ⟨a, e, hn⟩ := S.fr v hv
    obtain ⟨o, e'⟩ := hf b hb
    rw [e] at q; cases q
    rw [hn] at e'; cases e'
end
end Mine
end
section
open PySem PySem.W PyProof.Rows PySem.Calls
set_option Elab.async false
set_option linter.unusedVariables false
set_option maxRecDepth 100000
namespace Mine

/-- an iterator at I, and what a turn binds -/
structure Drive (w : World) (A : Around) (env : Env) (target : Expr) (I : Addr) (fp wr : List Addr) (n : Nat) (Sti : Nat → Heap → Prop) (bd : Nat → Sg → (Sg → Prop) → Prop) : Prop where
  sub : ∀ b ∈ wr, b ∈ fp
  frame : ∀ i h h', Sti i h → (∀ b ∈ fp, ∀ o, h.get? b = some o → h'.get? b = some o) → Sti i h'
  ex : ∀ i h, Sti i h → ∀ b ∈ fp, ∃ o, h.get? b = some o
  odd : ∀ i h, Sti i h → ∀ b ∈ wr, Odd h b
  item : ∀ (i : Nat) (h₀ hI : Heap) (σ : Sg) (K : Sg → Prop) (s : Shared) (Q : Unit → Shared → Prop) (E : Value → Shared → Prop), i < n → Sti i s.heap → StI w env h₀ σ s.heap hI → (∀ b ∈ wr, hI.get? b = none) → (∀ b ∈ fp, b ∉ mutAddrs env σ) → bd i σ K →
    (∀ h' tk' σ', Sti (i + 1) h' → StI w env h₀ σ' h' hI → σ'.fr = σ.fr → σ'.ow = σ.ow → K σ' → Q () { s with heap := h', toks := tk' }) →
    wpAny (model PySem.Challenge.pw_nn0015_01 w) A (pyNext (.ref I)) (fun r s₁ => ∃ v, r = some v ∧ wpAny (model PySem.Challenge.pw_nn0015_01 w) A (letOwnedTupleGo target (.ref I) v) (fun _ s₂ => wpAny (model PySem.Challenge.pw_nn0015_01 w) A (assign target env v) Q E s₂) E s₁) E s
  done : ∀ (s : Shared) (Q : Option Value → Shared → Prop) (E : Value → Shared → Prop), Sti n s.heap →
    (∀ h' tk', (∀ b o, b ∉ wr → s.heap.get? b = some o → h'.get? b = some o) → Q none { s with heap := h', toks := tk' }) → wpAny (model PySem.Challenge.pw_nn0015_01 w) A (pyNext (.ref I)) Q E s

/-- how a turn ends -/
def Turn (J : Sg → Prop) (Q : Flow → Sg → Prop) : Flow → Sg → Prop
  | .next, σ => J σ
  | .cont, σ => J σ
  | .brk, σ => Q .next σ
  | .ret v, σ => Q (.ret v) σ

section
variable {w : World} {A : Around} {env : Env} {σ : Sg} {h₀ hI : Heap}

theorem loop {target : Expr} {body : List Stmt} {I : Addr} {fp wr : List Addr} {n : Nat} {Sti : Nat → Heap → Prop} {bd : Nat → Sg → (Sg → Prop) → Prop} (D : Drive w A env target I fp wr n Sti bd)
    {Q : Flow → Sg → Prop} {s : Shared} {E : Value → Shared → Prop} (J : Nat → Sg → Prop)
    (S : StI w env h₀ σ s.heap hI) (hwI : ∀ b ∈ wr, hI.get? b = none) (hfm : ∀ b ∈ fp, b ∉ mutAddrs env σ) (hff : ∀ v ∈ σ.fr, ∀ b ∈ fp, v ≠ .ref b) (hst : Sti 0 s.heap) (h0 : J 0 σ)
    (turn : ∀ i σ', i < n → J i σ' → bd i σ' fun σ'' => T w A env (execs body env) (Turn (J (i + 1)) Q) σ'') (fin : ∀ σ', J n σ' → Q .next σ') :
    codeAny (model PySem.Challenge.pw_nn0015_01 w) A (.forLoop target (.ref I) body [] env) (fun r s' => match r with | .ok f => Fin w env h₀ s Q f s' | .error e => E e s') s := by
  refine codeAny_forLoop_any
    (fun k s' => ∃ h' tk' σ' hI' i, s' = { s with heap := h', toks := tk' } ∧ StI w env h₀ σ' h' hI' ∧ (∀ b ∈ wr, hI'.get? b = none) ∧ (∀ b ∈ fp, b ∉ mutAddrs env σ') ∧ (∀ v ∈ σ'.fr, ∀ b ∈ fp, v ≠ .ref b) ∧ Sti i h' ∧ J i σ' ∧ i ≤ n ∧ k = n + 1 - i)
    ?_ (n + 1) ⟨s.heap, s.toks, σ, hI, 0, rfl, S, hwI, hfm, hff, hst, h0, Nat.zero_le _, rfl⟩
  rintro k s' ⟨h', tk', σ', hI', i, rfl, S', hw', hm', hf', st', hJ, hi, rfl⟩
  by_cases hlt : i < n
  · refine wpAny_mono (D.item i h₀ hI' σ' _ _ _ _ hlt st' S' hw' hm' (turn i σ' hlt hJ) fun h2 tk2 σ2 st2 S2 efr eow K2 => ?_) (fun r s₁ hr => by obtain ⟨v, e, hv⟩ := hr; subst e; exact hv) fun _ _ e => e
    have hm2 : ∀ b ∈ fp, b ∉ mutAddrs env σ2 := fun b hb => by
      have := hm' b hb
      unfold mutAddrs at this ⊢
      rw [eow]; exact this
    have hf2 : ∀ v ∈ σ2.fr, ∀ b ∈ fp, v ≠ .ref b := by rw [efr]; exact hf'
    have k0 : Sub h₀ h2 := fun b o e => S2.kI _ _ (S2.k0 _ _ e)
    refine K2.go (S2.rebase hm2 hf2) fun f h3 tk3 σ3 S3 q => ?_
    have hB : Sub h₀ (baseOf h₀ h2 fp) := baseOf_old k0
    have hex : ∀ b ∈ fp, ∃ o, (baseOf h₀ h2 fp).get? b = some o := fun b hb => by
      obtain ⟨o, ho⟩ := D.ex _ _ st2 b hb
      exact ⟨o, baseOf_get ho (.inr hb)⟩
    have keep : ∀ b ∈ fp, ∀ o, h2.get? b = some o → h3.get? b = some o := fun b hb o ho => S3.sub _ _ (baseOf_get ho (.inr hb))
    have st3 := D.frame _ _ h3 st2 keep
    have hw0 : ∀ b ∈ wr, h₀.get? b = none := fun b hb => none_of_sub S2.k0 (hw' b hb)
    obtain ⟨⟨hI3, S3', hw3⟩, hm3, hf3⟩ := S3.unbase (wr := wr) (fp := fp) hB S2.gl hw0 (fun b hb => D.odd _ _ st3 b hb) hex
    cases f with
    | next => exact ⟨n + 1 - (i + 1), by (first | lia | omega), h3, tk3, σ3, hI3, i + 1, rfl, S3', hw3, hm3, hf3, st3, q, hlt, rfl⟩
    | cont => exact ⟨n + 1 - (i + 1), by (first | lia | omega), h3, tk3, σ3, hI3, i + 1, rfl, S3', hw3, hm3, hf3, st3, q, hlt, rfl⟩
    | brk => exact ⟨h3, tk3, rfl, σ3, ⟨hI3, S3'⟩, q⟩
    | ret v => exact ⟨h3, tk3, rfl, σ3, ⟨hI3, S3'⟩, q⟩
  · have e : i = n := by (first | lia | omega)
    subst e
    refine D.done _ _ _ st' fun h2 tk2 k2 => ?_
    have S2 := S'.but hw' (fun b hb => D.odd _ _ st' b hb) (fun b hb => hm' b (D.sub b hb)) k2
    exact wpAny_execs_nil ⟨h2, tk2, rfl, σ', ⟨hI', S2⟩, fin σ' hJ⟩

/-- a name is stored by a turn -/
theorem StI.store {x : Str} {px : Pos} {v : Value} {av : AV} {m' : List (Str × AV)} {s : Shared} {Q : Unit → Shared → Prop} {E : Value → Shared → Prop} (S : StI w env h₀ σ s.heap hI) (hk : env.kindOf x = some .local) (hv : av.Is v) (p : Put x av σ.m m')
    (h : ∀ h', StI w env h₀ { σ with m := m' } h' hI → Heap.SameBut env.locals s.heap h' → Q () { s with heap := h', toks := s.toks + 1 }) : wpAny (model PySem.Challenge.pw_nn0015_01 w) A (assign (.Name x px) env v) Q E s := by
  obtain ⟨ml, hns⟩ := S.ns
  refine assign_Name (wpAny_storeName_local hk hns (fun h' hn' hs => h h' (S.put hk hv p hns hn' hs) hs) ?_)
  rw [S.ok.kind]; rfl

theorem odd_fields {h : Heap} {b : Addr} {T : String} {vs : Array Value} (hT : Value.type T ≠ .type "list") (hT' : Value.type T ≠ .type "range") (x : ∃ o, h.get? b = some o ∧ o.cls = .type T ∧ o.data = .fields vs) : Odd h b := by
  obtain ⟨o, ho, hc, hd⟩ := x
  exact ⟨o, ho, (by rw [hc]; exact hT), (by rw [hc]; exact hT'), (fun v e => (by rw [hd] at e; cases e)), fun es ep e => (by rw [hd] at e; cases e)⟩

/-- any walk that a name takes the items of -/
theorem Drive.of_walks {x : Str} {px : Pos} {I : Addr} {fp wr : List Addr} {n : Nat} {P : Nat → Value → Prop} {Sti : Nat → Heap → Prop} {bd : Nat → Sg → (Sg → Prop) → Prop} (W : Walks PySem.Challenge.pw_nn0015_01 w A I fp wr n P Sti)
    (hk : env.kindOf x = some .local) (hex : ∀ i h, Sti i h → ∀ b ∈ fp, ∃ o, h.get? b = some o) (hodd : ∀ i h, Sti i h → ∀ b ∈ wr, Odd h b)
    (hb : ∀ i h₀ hI σ h v K, i < n → Sti i h → StI w env h₀ σ h hI → (∀ b ∈ fp, b ∉ mutAddrs env σ) → P i v → bd i σ K → ∃ av m' σ', av.Is v ∧ Put x av σ.m m' ∧ σ' = { σ with m := m', fx := σ'.fx } ∧ (∀ p ∈ σ'.fx, p ∈ σ.fx ∨ Rep hI p.1 p.2) ∧ K σ') :
    Drive w A env (.Name x px) I fp wr n Sti bd where
  sub := W.sub
  frame := W.frame
  ex := hex
  odd := hodd
  item i h₀ hI σ K s Q E hi st S hw hm hbd hQ := by
    refine W.item i s _ _ hi st fun v h' tk' hP st' k => ⟨v, rfl, ?_⟩
    have S1 := S.but hw (hodd _ _ st) (fun b hb => hm b (W.sub b hb)) k
    obtain ⟨av, m', σ', ha, hp, e, hfx, hK⟩ := hb i h₀ hI σ s.heap v K hi st S hm hP hbd
    refine wpAny_of_eq (a := ()) (by rfl) ?_
    refine S1.store (s := { s with heap := h', toks := tk' }) hk ha hp fun h2 S2 hs => ?_
    have hL : env.locals ∉ fp := fun q => hm _ q (.head _)
    refine hQ h2 _ σ' (W.frame _ _ _ st' fun b hb o eo => hs.extBut b o (fun q => hL (q ▸ hb)) eo) ?_ (by rw [e]) (by rw [e]) hK
    rw [e]
    refine ⟨S2.ok, S2.gl, S2.k0, S2.kI, S2.offL, S2.ns, S2.cell, S2.m, S2.mn, fun p hp => ?_, S2.ow, S2.nd, S2.fr⟩
    rcases hfx p hp with q | q
    · exact S2.fx p q
    · exact q
  done s Q E st hQ := W.done s Q E st hQ
end
end Mine
end
section
open PySem PySem.W PyProof.Rows PySem.Calls
set_option Elab.async false
set_option linter.unusedVariables false
set_option maxRecDepth 100000
namespace Mine

theorem none_at_end (h : Heap) : h.get? h.objs.size = none := Heap.get?_none_of_le (Nat.le_refl _)
theorem sub_push (h : Heap) (o : Obj) : Sub h (h.push o) := fun _ _ e => Heap.get?_push_of_some _ e

section
variable {w : World} {A : Around} {env : Env} {σ : Sg}

/-- a new object stands at none of the addresses that may change -/
theorem StI.fresh {h₀ h hI : Heap} {a : Addr} (S : StI w env h₀ σ h hI) (hn : h.get? a = none) : a ∉ mutAddrs env σ := fun hm => by
  rcases List.mem_cons.mp hm with e | hm
  · obtain ⟨ml, o, _, _, q, _⟩ := S.ns
    rw [← e, hn] at q; cases q
  · rcases List.mem_append.mp hm with hm | hm
    · obtain ⟨x, _, e⟩ := List.mem_filterMap.mp hm
      by_cases hk : env.kindOf x = some .cell
      · rw [if_pos hk] at e
        obtain ⟨⟨v0, o', ho', hd'⟩, _⟩ := S.cell x a e
        rw [hn] at ho'; cases ho'
      · rw [if_neg hk] at e; cases e
    · obtain ⟨p, hp, e⟩ := List.mem_filterMap.mp hm
      obtain ⟨b, eb, _, _, hb⟩ := S.ow p hp
      rw [eb] at e; cases e
      obtain ⟨o, ho⟩ := hb.some
      rw [hn] at ho; cases ho
theorem StI.grow {h₀ h h' hI : Heap} (S : StI w env h₀ σ h hI) (k : Sub h h') : StI w env h₀ σ h' hI := by
  refine ⟨S.ok, S.gl, S.k0, fun b o e => k _ _ (S.kI _ _ e), S.offL, ?_, ?_, ?_, S.mn, S.fx, ?_, S.nd, S.fr⟩
  · obtain ⟨ml, hn⟩ := S.ns; exact ⟨ml, hn.keeps k⟩
  · intro x c e
    obtain ⟨⟨v0, hc⟩, r⟩ := S.cell x c e
    exact ⟨⟨v0, hc.keeps k⟩, r⟩
  · intro q hq
    rcases S.m q hq with e | ⟨v, hv, ha⟩
    · exact .inl e
    · exact .inr ⟨v, hv.mono k, ha⟩
  · intro p hp
    obtain ⟨a, e, h1, h2, h3⟩ := S.ow p hp
    exact ⟨a, e, h1, h2, h3.mono (fun _ _ q => q) fun o q => k _ _ q⟩
theorem StI.pushed {h₀ h hI : Heap} {o : Obj} (S : StI w env h₀ σ h hI) : StI w env h₀ σ (h.push o) hI ∧ h.objs.size ∉ mutAddrs env σ := ⟨S.grow (sub_push h o), S.fresh (none_at_end h)⟩

/-- a range, made -/
theorem T_range1 {n : Int} {t : Tok} {Q : Value → Sg → Prop} (h : ∀ v, Q v { σ with fx := (v, .range 0 n 1) :: σ.fx, fr := v :: σ.fr }) : T w A env (call (.type "range") [.int n t]) Q σ := by
  refine T.mk fun h₀ s S => ?_
  refine call_range_1 (Fin.mk (S.fixNew (d := .range 0 n 1) (sub_push _ _) (none_at_end _) fun h2 k _ => ⟨_, _, _, k _ (Heap.get?_push_size _ rfl)⟩) (h _))
theorem T_range2 {a b : Int} {t u : Tok} {Q : Value → Sg → Prop} (h : ∀ v, Q v { σ with fx := (v, .range a b 1) :: σ.fx, fr := v :: σ.fr }) : T w A env (call (.type "range") [.int a t, .int b u]) Q σ := by
  refine T.mk fun h₀ s S => ?_
  refine call_range_2 (Fin.mk (S.fixNew (d := .range a b 1) (sub_push _ _) (none_at_end _) fun h2 k _ => ⟨_, _, _, k _ (Heap.get?_push_size _ rfl)⟩) (h _))
theorem T_range3 {a b c : Int} {t u v : Tok} {Q : Value → Sg → Prop} (hc : c ≠ 0) (hc' : c.natAbs < 1073741824) (h : ∀ v, Q v { σ with fx := (v, .range a b c) :: σ.fx, fr := v :: σ.fr }) : T w A env (call (.type "range") [.int a t, .int b u, .int c v]) Q σ := by
  refine T.mk fun h₀ s S => ?_
  refine call_range_3 hc (Fin.mk (S.fixNew (d := .range a b c) (sub_push _ _) (none_at_end _) fun h2 k _ => ⟨_, _, _, k _ (Heap.get?_push_size _ rfl)⟩) (h _)) (.inl (PyProof.noPylong_small hc'))

theorem T_For_range {x : Str} {px : Pos} {iter : Expr} {body : List Stmt} {pos : Pos} {Q : Flow → Sg → Prop} (hh : A.handled = none)
    (h : T w A env (eval iter env) (fun v σ₁ => ∃ a b c, (v, .range a b c) ∈ σ₁.fx ∧ Builtin.Range.small a b c = true ∧ ∃ n : Nat, Builtin.Range.rangeSize a b c = n ∧ ∃ J : Nat → Sg → Prop, J 0 { σ₁ with fr := [] } ∧
      (∀ i σ', i < n → J i σ' → ∃ m', Put x (.i (a + i * c)) σ'.m m' ∧ T w A env (execs body env) (Turn (J (i + 1)) Q) { σ' with m := m' }) ∧ (∀ σ', J n σ' → Q .next σ')) σ)
    (hk : env.kindOf x = some .local := by kernel_rfl) (hs : ∀ x, foldedSetIterable iter env x = pure x := by intro _; kernel_rfl) : T w A env (exec (.For (.Name x px) iter body [] pos) env) Q σ := by
  refine T.mk fun h₀ s S => ?_
  refine wpAny_For (h.go S fun v h' tk' σ₁ S₁ ⟨a, b, c, hm, hsm, n, hn, J, hJ, turn, fin⟩ => ?_) hs
  obtain ⟨hI, S₁⟩ := S₁
  obtain ⟨r, e, t, u, z, hr⟩ := (S₁.fx _ hm).mono S₁.kI
  dsimp only at e
  subst e
  refine wpAny_pyIter_range hr hsm ?_
  dsimp only at hr ⊢
  rw [hn]
  have W := Walks.range (prog := PySem.Challenge.pw_nn0015_01) (w := w) hh h'.objs.size a c n
  have S2 : StI w env h₀ { σ₁ with fr := [] } h' hI := ⟨S₁.ok, S₁.gl, S₁.k0, S₁.kI, S₁.offL, S₁.ns, S₁.cell, S₁.m, S₁.mn, S₁.fx, S₁.ow, S₁.nd, fun _ hv => nomatch hv⟩
  have nI : h'.get? h'.objs.size = none := none_at_end h'
  obtain ⟨S3, off⟩ := S2.pushed (o := { cls := .type "range_iterator", data := .fields #[rawInt a, rawInt n, rawInt c] })
  refine loop (s := { s with heap := _, toks := tk' }) (Drive.of_walks (bd := fun i σ' K => ∃ m', Put x (.i (a + i * c)) σ'.m m' ∧ K { σ' with m := m' }) W hk ?_ ?_ ?_) J S3 ?_ ?_ (fun _ hv => nomatch hv) ?_ hJ turn fin
  · intro i h st b hb
    cases List.mem_singleton.mp hb
    exact ⟨_, st⟩
  · intro i h st b hb
    cases List.mem_singleton.mp hb
    exact odd_fields (T := "range_iterator") (by decide) (by decide) ⟨_, st, rfl, rfl⟩
  · rintro i h₀ hI σ h v K hi st S hm ⟨t, rfl⟩ ⟨m', hp, hK⟩
    exact ⟨.i (a + i * c), m', { σ with m := m' }, ⟨t, rfl⟩, hp, rfl, fun p hp => .inl hp, hK⟩
  · intro b hb
    cases List.mem_singleton.mp hb
    exact none_of_sub S2.kI nI
  · intro b hb
    cases List.mem_singleton.mp hb
    exact off
  · show IsRangeIter _ _ _ _ _
    have e1 : a + ((0 : Nat) : Int) * c = a := by simp
    have e2 : (n : Int) - ((0 : Nat) : Int) = n := by simp
    rw [e1, e2]
    exact Heap.get?_push_size _ rfl

/-- a list, its ints one by one -/
theorem T_For_nums {x : Str} {px : Pos} {iter : Expr} {body : List Stmt} {pos : Pos} {Q : Flow → Sg → Prop} (hh : A.handled = none)
    (h : T w A env (eval iter env) (fun v σ₁ => ∃ ns, (v, .nums ns) ∈ σ₁.fx ∧ ∃ J : Nat → Sg → Prop, J 0 { σ₁ with fr := [] } ∧
      (∀ i σ', (hi : i < ns.length) → J i σ' → ∃ m', Put x (.i ns[i]) σ'.m m' ∧ T w A env (execs body env) (Turn (J (i + 1)) Q) { σ' with m := m' }) ∧ (∀ σ', J ns.length σ' → Q .next σ')) σ)
    (hk : env.kindOf x = some .local := by kernel_rfl) (hs : ∀ x, foldedSetIterable iter env x = pure x := by intro _; kernel_rfl) : T w A env (exec (.For (.Name x px) iter body [] pos) env) Q σ := by
  refine T.mk fun h₀ s S => ?_
  refine wpAny_For (h.go S fun v h' tk' σ₁ S₁ ⟨ns, hm, J, hJ, turn, fin⟩ => ?_) hs
  obtain ⟨hI, S₁⟩ := S₁
  have S2 : StI w env h₀ { σ₁ with fr := [] } h' hI := ⟨S₁.ok, S₁.gl, S₁.k0, S₁.kI, S₁.offL, S₁.ns, S₁.cell, S₁.m, S₁.mn, S₁.fx, S₁.ow, S₁.nd, fun _ hv => nomatch hv⟩
  obtain ⟨l, e, vs, hlI, hi⟩ := S₁.fx _ hm
  have hl : h'.IsList l vs.toArray := hlI.at fun o q => S₁.kI _ _ q
  dsimp only at e
  subst e
  refine wpAny_pyIter_list hl ?_
  dsimp only at hl ⊢
  have nI : h'.get? h'.objs.size = none := none_at_end h'
  have hne : l ≠ h'.objs.size := fun q => by
    obtain ⟨o, ho, _⟩ := hl
    rw [q, nI] at ho; cases ho
  have W := Walks.list (prog := PySem.Challenge.pw_nn0015_01) (w := w) hh h'.objs.size l hne vs.toArray
  have hlen : vs.toArray.size = ns.length := by simp [hi.length]
  rw [hlen] at W
  obtain ⟨S3, off⟩ := S2.pushed (o := { cls := .type "list_iterator", data := .fields #[.ref l, .int 0 0] })
  have hfp : ∀ b ∈ [h'.objs.size, l], b ∉ mutAddrs env { σ₁ with fr := [] } := fun b hb => by
    rcases List.mem_cons.mp hb with rfl | hb
    · exact off
    · cases List.mem_singleton.mp hb
      intro q
      obtain ⟨o, ho, _⟩ := hlI
      rw [S2.off l q] at ho; cases ho
  refine loop (s := { s with heap := _, toks := tk' }) (Drive.of_walks (bd := fun i σ' K => ∃ hi : i < ns.length, ∃ m', Put x (.i ns[i]) σ'.m m' ∧ K { σ' with m := m' }) W hk ?_ ?_ ?_) J S3 ?_ hfp (fun _ hv => nomatch hv) ?_ hJ (fun i σ' hi hJ => ⟨hi, turn i σ' hi hJ⟩) fin
  · rintro i h ⟨⟨o, ho, _⟩, o', ho', _⟩ b hb
    rcases List.mem_cons.mp hb with rfl | hb
    · exact ⟨o, ho⟩
    · cases List.mem_singleton.mp hb
      exact ⟨o', ho'⟩
  · rintro i h ⟨⟨o, ho, hc, hd⟩, _⟩ b hb
    cases List.mem_singleton.mp hb
    exact odd_fields (T := "list_iterator") (by decide) (by decide) ⟨_, ho, hc, hd⟩
  · rintro i h₀ hI σ h v K hilt st S hm hP ⟨hi', m', hp, hK⟩
    obtain ⟨t, hx⟩ := hi.get i ns[i] (by simp [hi'])
    have hv : v = .int ns[i] t := by
      have hP' : vs[i]? = some v := by simpa using hP
      rw [hx] at hP'; exact (Option.some.inj hP').symm
    exact ⟨.i ns[i], m', { σ with m := m' }, ⟨t, hv⟩, hp, rfl, fun p hp => .inl hp, hK⟩
  · intro b hb
    cases List.mem_singleton.mp hb
    exact none_of_sub S2.kI nI
  · exact ⟨⟨_, Heap.get?_push_size _ rfl, rfl, rfl⟩, hl.push _⟩
end
end Mine
end
section
open PySem PySem.W PyProof.Rows PySem.Calls
set_option Elab.async false
set_option linter.unusedVariables false
set_option maxRecDepth 100000
namespace Mine
section
variable {w : World} {A : Around} {env : Env} {σ : Sg}

theorem T_While {test : Expr} {body : List Stmt} {pos : Pos} {Q : Flow → Sg → Prop} (J : Nat → Sg → Prop) (n : Nat) (h0 : J n σ)
    (turn : ∀ n σ', J n σ' → T w A env (isTrue test env (eval test env)) (fun b σ₁ => (b = true → T w A env (execs body env) (Turn (fun σ₂ => ∃ m, m < n ∧ J m σ₂) Q) σ₁) ∧ (b = false → Q .next σ₁)) σ') :
    T w A env (exec (.While test body [] pos) env) Q σ := by
  refine T.mk fun h₀ s S => ?_
  refine wpAny_While (codeAny_whileLoop (fun k s' => ∃ h' tk' σ', s' = { s with heap := h', toks := tk' } ∧ St w env h₀ σ' h' ∧ J k σ') ?_ n ⟨s.heap, s.toks, σ, rfl, S, h0⟩)
  rintro k s' ⟨h', tk', σ', rfl, S', hJ⟩
  refine (turn k σ' hJ).go S' fun b h1 tk1 σ1 S1 q => ?_
  cases b with
  | true =>
    rw [if_pos rfl]
    refine (q.1 rfl).go S1 fun f h2 tk2 σ2 S2 q2 => ?_
    cases f with
    | next => obtain ⟨m, hm, hj⟩ := q2; exact ⟨m, hm, h2, tk2, σ2, rfl, S2, hj⟩
    | cont => obtain ⟨m, hm, hj⟩ := q2; exact ⟨m, hm, h2, tk2, σ2, rfl, S2, hj⟩
    | brk => exact ⟨h2, tk2, rfl, σ2, S2, q2⟩
    | ret v => exact ⟨h2, tk2, rfl, σ2, S2, q2⟩
  | false =>
    rw [if_neg (by decide)]
    exact wpAny_execs_nil ⟨h1, tk1, rfl, σ1, S1, q.2 rfl⟩

-- lists
theorem T_len {v : Value} {ns : List Int} {Q : Value → Sg → Prop} (hx : σ.Has v (.nums ns)) (hn : ns.length < 2 ^ 62) (h : ∀ t, Q (.int (ns.length : Int) t) σ) : T w A env (call (.builtin "len") [v]) Q σ := by
  refine T.mk fun h₀ s S => ?_
  obtain ⟨a, rfl, vs, hl, hi⟩ := hx.rep S
  have e : vs.toArray.size = ns.length := by simp [hi.length]
  refine call_len_list hl (by (first | lia | omega)) ?_
  rw [e]
  exact Fin.mk S (h _)
theorem T_len_rows {v : Value} {rs : List (List Int)} {Q : Value → Sg → Prop} (hx : σ.Has v (.rows rs)) (hn : rs.length < 2 ^ 62) (h : ∀ t, Q (.int (rs.length : Int) t) σ) : T w A env (call (.builtin "len") [v]) Q σ := by
  refine T.mk fun h₀ s S => ?_
  obtain ⟨a, rfl, vs, hl, hi⟩ := hx.rep S
  have e : vs.toArray.size = rs.length := by simp [hi.length]
  refine call_len_list hl (by (first | lia | omega)) ?_
  rw [e]
  exact Fin.mk S (h _)

theorem T_Sub {value slice : Expr} {pos : Pos} {Q : Value → Sg → Prop}
    (h : T w A env (eval value env) (fun o σ₁ => T w A env (eval slice env) (fun i σ₂ => T w A env (subscriptTail value slice o i) Q σ₂) σ₁) σ) : T w A env (eval (.Subscript value slice pos) env) Q σ := by
  refine T.mk fun h₀ s S => ?_
  exact Subscript_ (h.go S fun _ _ _ _ S1 q => q.go S1 fun _ _ _ _ S2 q => q.go S2 fun _ _ _ σ'' S'' q' => ⟨_, _, rfl, σ'', S'', q'⟩)
theorem T_item {value slice : Expr} {v : Value} {ns : List Int} {k x : Int} {u : Tok} {Q : Value → Sg → Prop} (hx : σ.Has v (.nums ns)) (h0 : 0 ≤ k) (hfit : k < 2 ^ 63) (hg : ns[k.toNat]? = some x) (h : ∀ t, Q (.int x t) σ)
    (hs : ∀ a, subscripted slice false (.ref a) (.int k u) = operate [.ref a, .int k u] (getItem (.ref a) (.int k u)) := by intro _; kernel_rfl) : T w A env (subscriptTail value slice v (.int k u)) Q σ := by
  refine T.mk fun h₀ s S => ?_
  obtain ⟨a, rfl, vs, hl, hi⟩ := hx.rep S
  obtain ⟨t, ht⟩ := hi.get _ _ hg
  exact tail_any hl.typeIs slot_list_getitem.lookup (wpAny_getItem_list hl h0 hfit (by simpa using ht) (Fin.here S (h t))) (hs a)
theorem T_itemLast {value slice : Expr} {v : Value} {ns : List Int} {x : Int} {u : Tok} {Q : Value → Sg → Prop} (hx : σ.Has v (.nums (ns ++ [x]))) (h : ∀ t, Q (.int x t) σ)
    (hs : ∀ a, subscripted slice false (.ref a) (.int (-1) u) = operate [.ref a, .int (-1) u] (getItem (.ref a) (.int (-1) u)) := by intro _; kernel_rfl) : T w A env (subscriptTail value slice v (.int (-1) u)) Q σ := by
  refine T.mk fun h₀ s S => ?_
  obtain ⟨a, rfl, vs, hl, hi⟩ := hx.rep S
  have hlen := hi.length
  simp only [List.length_append, List.length_cons, List.length_nil] at hlen
  have e : (-1 + (vs.toArray.size : Int)).toNat = ns.length := by simp only [List.size_toArray]; (first | lia | omega)
  obtain ⟨t, ht⟩ := hi.get ns.length x (by simp)
  exact tail_any hl.typeIs slot_list_getitem.lookup (wpAny_getItem_list_neg hl (by decide) (by simp only [List.size_toArray]; (first | lia | omega)) (by decide) (by rw [e]; simpa using ht) (Fin.here S (h t))) (hs a)

theorem paired_get {α β : Type} {F : α → β → Prop} : ∀ {xs : List α} {ys : List β} {i : Nat} {y : β}, Paired F xs ys → ys[i]? = some y → ∃ x, xs[i]? = some x ∧ F x y
  | _, _, _, _, .nil, e => by simp at e
  | _, _, 0, _, .cons h _, e => by
    simp at e; subst e
    exact ⟨_, rfl, h⟩
  | _, _, i + 1, _, .cons _ r, e => by
    obtain ⟨x, h1, h2⟩ := paired_get (i := i) r (by simpa using e)
    exact ⟨x, by simpa using h1, h2⟩
theorem paired_set {α β : Type} {F : α → β → Prop} : ∀ {xs : List α} {ys : List β} {x : α} {y : β} (i : Nat), Paired F xs ys → F x y → Paired F (xs.set i x) (ys.set i y)
  | _, _, _, _, _, .nil, _ => by simpa using Paired.nil
  | _, _, _, _, 0, .cons h r, e => .cons e r
  | _, _, _, _, i + 1, .cons h r, e => .cons h (paired_set i r e)

/-- what a list of lists holds stands fixed -/
theorem rows_fixed {h₀ h : Heap} {v : Value} {rs : List (List Int)} (S : St w env h₀ σ h) (hx : (v, .rows rs) ∈ σ.fx ∨ (v, .rows rs) ∈ σ.ow) :
    ∃ hI, StI w env h₀ σ h hI ∧ ∃ a vs, v = .ref a ∧ h.IsList a vs.toArray ∧ Paired (IsInts hI) vs rs := by
  obtain ⟨hI, S⟩ := S
  rcases hx with hm | hm
  · obtain ⟨a, e, vs, hl, hi⟩ := S.fx _ hm
    exact ⟨hI, S, a, vs, e, hl.at fun o q => S.kI _ _ q, hi⟩
  · obtain ⟨a, e, _, _, vs, hl, hi⟩ := S.ow _ hm
    exact ⟨hI, S, a, vs, e, hl, hi⟩
theorem StI.also {h₀ h hI : Heap} {v : Value} {d : D} (S : StI w env h₀ σ h hI) (r : Rep hI v d) : St w env h₀ { σ with fx := (v, d) :: σ.fx } h :=
  ⟨hI, S.ok, S.gl, S.k0, S.kI, S.offL, S.ns, S.cell, S.m, S.mn, fun p hp => (List.mem_cons.mp hp).elim (fun e => e ▸ r) (S.fx p), S.ow, S.nd, S.fr⟩
theorem T_itemRows {value slice : Expr} {v : Value} {rs : List (List Int)} {k : Int} {r : List Int} {u : Tok} {Q : Value → Sg → Prop} (hx : (v, .rows rs) ∈ σ.fx ∨ (v, .rows rs) ∈ σ.ow) (h0 : 0 ≤ k) (hfit : k < 2 ^ 63) (hg : rs[k.toNat]? = some r)
    (h : ∀ y, Q y { σ with fx := (y, .nums r) :: σ.fx })
    (hs : ∀ a, subscripted slice false (.ref a) (.int k u) = operate [.ref a, .int k u] (getItem (.ref a) (.int k u)) := by intro _; kernel_rfl) : T w A env (subscriptTail value slice v (.int k u)) Q σ := by
  refine T.mk fun h₀ s S => ?_
  obtain ⟨hI, S', a, vs, rfl, hl, hp⟩ := rows_fixed S hx
  obtain ⟨y, hy, b, us, e, hb, hu⟩ := paired_get hp hg
  exact tail_any hl.typeIs slot_list_getitem.lookup (wpAny_getItem_list hl h0 hfit (by simpa using hy) (⟨s.heap, s.toks, rfl, _, S'.also (d := .nums r) ⟨b, e, us, hb, hu⟩, h y⟩)) (hs a)

theorem T_AssignSub {o i value : Expr} {pos' pos : Pos} {Q : Flow → Sg → Prop}
    (h : T w A env (eval value env) (fun v σ₁ => T w A env (eval o env) (fun ov σ₂ => T w A env (eval i env) (fun iv σ₃ => T w A env (setItem ov iv v) (fun _ σ₄ => Q .next σ₄) σ₃) σ₂) σ₁) σ)
    (hs : swapsWith value (some (.Subscript o i pos')) pos.line env = pure false := by kernel_rfl) : T w A env (exec (.Assign [.Subscript o i pos'] value pos) env) Q σ := by
  refine T.mk fun h₀ s S => ?_
  exact wpAny_Assign_Subscript (h.go S fun _ _ _ _ S1 q => q.go S1 fun _ _ _ _ S2 q => q.go S2 fun _ _ _ _ S3 q => q.go S3 fun _ _ _ σ'' S'' q' => ⟨_, _, rfl, σ'', S'', q'⟩) hs

theorem ints_set : ∀ {vs : List Value} {ns : List Int} (i : Nat) (x : Int) (t : Tok), IntsAre vs ns → IntsAre (vs.set i (.int x t)) (ns.set i x)
  | _, _, _, _, _, .nil => by simpa using IntsAre.nil
  | _, _, 0, x, t, .cons n u r => .cons x t r
  | _, _, i + 1, x, t, .cons n u r => .cons n u (ints_set i x t r)

theorem T_set {v : Value} {ns : List Int} {k x : Int} {t u : Tok} {ow' : List (Value × D)} {Q : Unit → Sg → Prop} (c : Chg v (.nums ns) (.nums (ns.set k.toNat x)) σ.ow ow') (h0 : 0 ≤ k) (hk : k < ns.length) (hfit : k < 2 ^ 63)
    (h : Q () { σ with ow := ow' }) : T w A env (setItem v (.int k u) (.int x t)) Q σ := by
  refine T.mk fun h₀ s S => ?_
  obtain ⟨hI, S⟩ := S
  obtain ⟨a, e, hn, hL, vs, hl, hi⟩ := S.ow _ c.mem
  dsimp only at e
  subst e
  have hlen := hi.length
  refine wpAny_setItem_list hl h0 hfit (by simp only [List.size_toArray]; (first | lia | omega)) fun h' hl' hs => ⟨h', s.toks, rfl, _, St.chg S c hs.extBut ⟨vs.set k.toNat (.int x t), ?_, ints_set _ _ _ hi⟩, h⟩
  rw [List.setIfInBounds_toArray] at hl'
  exact hl'
theorem T_setRow {v y : Value} {rs : List (List Int)} {r : List Int} {k : Int} {u : Tok} {ow' : List (Value × D)} {Q : Unit → Sg → Prop} (hy : (y, .nums r) ∈ σ.fx) (c : Chg v (.rows rs) (.rows (rs.set k.toNat r)) σ.ow ow') (h0 : 0 ≤ k) (hk : k < rs.length) (hfit : k < 2 ^ 63)
    (h : Q () { σ with ow := ow' }) : T w A env (setItem v (.int k u) y) Q σ := by
  refine T.mk fun h₀ s S => ?_
  obtain ⟨hI, S⟩ := S
  obtain ⟨a, e, hn, hL, vs, hl, hi⟩ := S.ow _ c.mem
  dsimp only at e
  subst e
  have hlen := hi.length
  obtain ⟨b, eb, us, hb, hu⟩ := S.fx _ hy
  refine wpAny_setItem_list hl h0 hfit (by simp only [List.size_toArray]; (first | lia | omega)) fun h' hl' hs => ⟨h', s.toks, rfl, _, St.chg S c hs.extBut ⟨vs.set k.toNat y, ?_, paired_set _ hi ⟨b, us, eb, hb, hu⟩⟩, h⟩
  rw [List.setIfInBounds_toArray] at hl'
  exact hl'

-- displays
theorem T_List {elts : List Expr} {pos : Pos} {Q : Value → Sg → Prop} (h : T w A env (spliced (backTo pos (starEach elts env))) (fun vs σ₁ => T w A env (newList vs) Q σ₁) σ) : T w A env (eval (.List elts pos) env) Q σ := by
  refine T.mk fun h₀ s S => ?_
  exact List_ (h.go S fun _ _ _ _ S1 q => q.go S1 fun _ _ _ σ'' S'' q' => ⟨_, _, rfl, σ'', S'', q'⟩)
/-- ints, fixed -/
theorem T_newNums {vs : List Value} {ns : List Int} {Q : Value → Sg → Prop} (hi : IntsAre vs ns) (hsz : vs.length ≤ 1000) (h : ∀ v, Q v { σ with fx := (v, .app ns) :: σ.fx, fr := v :: σ.fr }) : T w A env (newList vs) Q σ := by
  refine T.mk fun h₀ s S => ?_
  refine wpAny_newList (Fin.mk (S.fixNew (d := .app ns) (sub_push _ _) (none_at_end _) fun h2 k _ => ⟨vs, ⟨_, k _ (Heap.get?_push_size _ rfl)⟩, hi⟩) (h _)) (by rw [sizeLine_eq]; (first | lia | omega))
/-- ints, one's own, to be appended to -/
theorem T_newApp {vs : List Value} {ns : List Int} {Q : Value → Sg → Prop} (hi : IntsAre vs ns) (hsz : vs.length ≤ 1000) (h : ∀ v, Q v { σ with ow := (v, .app ns) :: σ.ow }) : T w A env (newList vs) Q σ := by
  refine T.mk fun h₀ s S => ?_
  obtain ⟨hI, S⟩ := S
  refine wpAny_newList (Fin.mk (S.own (d := .app ns) (sub_push _ _) (none_at_end _) ⟨vs, ⟨_, Heap.get?_push_size _ rfl⟩, hi⟩) (h _)) (by rw [sizeLine_eq]; (first | lia | omega))
inductive RowsIn (fx : List (Value × D)) : List Value → List (List Int) → Prop
  | nil : RowsIn fx [] []
  | cons {v r vs rs} : (v, D.nums r) ∈ fx → RowsIn fx vs rs → RowsIn fx (v :: vs) (r :: rs)
theorem RowsIn.paired {hI : Heap} {fx : List (Value × D)} (hf : ∀ p ∈ fx, Rep hI p.1 p.2) {vs rs} (x : RowsIn fx vs rs) : Paired (IsInts hI) vs rs := by
  induction x with
  | nil => exact .nil
  | cons hm _ ih =>
    obtain ⟨b, e, us, hb, hu⟩ := hf _ hm
    exact .cons ⟨b, us, e, hb, hu⟩ ih
/-- lists, fixed -/
theorem T_newRows {vs : List Value} {rs : List (List Int)} {Q : Value → Sg → Prop} (hi : RowsIn σ.fx vs rs) (hsz : vs.length ≤ 1000) (h : ∀ v, Q v { σ with fx := (v, .rows rs) :: σ.fx, fr := v :: σ.fr }) : T w A env (newList vs) Q σ := by
  refine T.mk fun h₀ s S => ?_
  have hp : Paired (IsInts (hideAll (s.heap.push { cls := .type "list", data := .seq vs.toArray }) (mutAddrs env σ))) vs rs := by
    obtain ⟨hI, S⟩ := id S
    exact hi.paired fun p hp => (S.fx p hp).mono (S.hidden (sub_push _ _))
  refine wpAny_newList (Fin.mk (S.fixNew (d := .rows rs) (sub_push _ _) (none_at_end _) fun h2 k k2 => ⟨vs, ⟨_, k _ (Heap.get?_push_size _ rfl), rfl, _, rfl⟩, paired_mono (fun _ _ y => y.mono k2) hp⟩) (h _)) (by rw [sizeLine_eq]; (first | lia | omega))

-- append
theorem T_append {o e : Expr} {apos pos : Pos} {Q : Value → Sg → Prop}
    (h : T w A env (eval o env) (fun ov σ₁ => (∃ ns, (ov, .app ns) ∈ σ₁.ow) ∧ T w A env (eval e env) (fun x σ₂ => ∃ n t ns ow', x = .int n t ∧ Chg ov (.app ns) (.app (ns ++ [n])) σ₂.ow ow' ∧ ns.length ≤ 1000 ∧ Q .none { σ₂ with ow := ow' }) σ₁) σ)
    (he : starEach [e] env = (false, eval e env) :: starEach [] env := by kernel_rfl)
    (hm : eval (.Call (.Attribute o "append" apos) [e] [] pos) env = (do
      let ov ← eval o env
      standAt apos.atName
      let (f, first) ← holding [ov] (getMethod ov "append" (do return (← importBound o env).getD true))
      callWith pos f first (backTo pos (starEach [e] env)) []) := by kernel_rfl) : T w A env (eval (.Call (.Attribute o "append" apos) [e] [] pos) env) Q σ := by
  refine T.mk fun h₀ s S => ?_
  refine MethodCall_ (h.go S fun ov h1 tk1 σ₁ S1 ⟨⟨ns, hin⟩, q⟩ => ?_) hm
  obtain ⟨hI, S1'⟩ := id S1
  obtain ⟨a, ea, hn, hL, vs, ⟨n, ho⟩, hi⟩ := S1'.ow _ hin
  dsimp only at ea
  subst ea
  refine getMethod_list_append ho rfl rfl ?_
  refine callWith_method1 (first := [.ref a]) ?_ he
  rw [he]
  refine spliced_cons (q.go S1 fun x h2 tk2 σ₂ S2 ⟨n, t, ns, ow', ex, c, hlen, q⟩ => ?_)
  refine args_nil ?_
  subst ex
  obtain ⟨hI2, S2⟩ := S2
  obtain ⟨a', ea, hn, hL, vs, ⟨n', ho⟩, hi⟩ := S2.ow _ c.mem
  cases ea
  have hl := hi.length
  refine append_at ho (fun h3 hs ho3 => ⟨h3, tk2, rfl, _, St.chg S2 c hs.extBut ⟨vs ++ [.int n t], ⟨n' + 1, by simpa using ho3⟩, ?_⟩, q⟩) (by simp only [List.size_toArray]; rw [sizeLine_eq]; (first | lia | omega))
  exact hi.append (.cons n t .nil)
end
end Mine
end
section
open PySem PySem.W PyProof.Rows PySem.Calls
set_option Elab.async false
set_option linter.unusedVariables false
set_option maxRecDepth 100000
namespace Mine
section
variable {w : World} {A : Around} {env : Env} {σ : Sg}

theorem T_bindName {x : Str} {v : Value} {Q : Unit → Sg → Prop} (h : T w A env (storeName env x v) Q σ) : T w A env (bindName env x v) Q σ := by
  refine T.mk fun h₀ s S => ?_
  exact wpAny_bindName (h.run h₀ s S)
theorem T_inOrder_nil {Q : Unit → Sg → Prop} (h : Q () σ) : T w A env (assignInOrder [] []) Q σ := by
  refine T.mk fun h₀ s S => ?_
  exact wpAny_pure (Fin.here S h)
theorem T_inOrder_cons {t : Value → Sem Unit} {ts : List (Value → Sem Unit)} {x : Value} {xs : List Value} {Q : Unit → Sg → Prop} (h : T w A env (t x) (fun _ σ₁ => T w A env (assignInOrder ts xs) Q σ₁) σ) : T w A env (assignInOrder (t :: ts) (x :: xs)) Q σ := by
  refine T.mk fun h₀ s S => ?_
  show wpAny _ _ (do holding xs (t x); assignInOrder ts xs) _ _ _
  exact wpAny_bind (wpAny_holding (h.go S fun _ _ _ _ S1 q => q.go S1 fun _ _ _ σ'' S'' q' => ⟨_, _, rfl, σ'', S'', q'⟩))

/-- a written tuple's values, taken out again -/
theorem tuple_out (hh : A.handled = none) {es : List Expr} {k : Nat} {vpos : Pos} {n : Nat} {K : List Value → Shared → Prop} {E : Value → Shared → Prop} {h₀ : Heap} {s : Shared} {QQ : List Value → Sg → Prop}
    (h : T w A env (spliced (backTo vpos (starEach es env))) (fun vs σ₁ => vs.length = n ∧ n ≤ 100 ∧ QQ vs σ₁) σ) (S : St w env h₀ σ s.heap)
    (hK : ∀ vs h' tk' σ', St w env h₀ σ' h' → QQ vs σ' → K vs { s with heap := h', toks := tk' }) :
    wpAny (model PySem.Challenge.pw_nn0015_01 w) A (eval (.Tuple es k vpos) env) (fun v s₁ => wpAny (model PySem.Challenge.pw_nn0015_01 w) A (unpackItems v n none) K E s₁) E s := by
  refine Tuple_ (h.go S fun vs h1 tk1 σ₁ S1 ⟨hl, hn, q⟩ => ?_)
  refine wpAny_newObj_type ?_ (by show vs.toArray.size ≤ sizeLine; rw [List.size_toArray, sizeLine_eq]; (first | lia | omega))
  have e : n = vs.toArray.size := by rw [List.size_toArray]; exact hl.symm
  rw [e]
  refine unpackItems_tuple hh ⟨_, Heap.get?_push_size _ rfl, rfl, _, rfl⟩ fun h2 hx => ?_
  dsimp only at hx
  refine hK vs h2 tk1 σ₁ (S1.grow fun b o eb => hx b o ?_ (Heap.get?_push_of_some _ eb)) q
  rw [Heap.size_push]
  exact Nat.ne_of_lt (Nat.lt_succ_of_lt (Heap.lt_size eb))

theorem T_assign2 (hh : A.handled = none) {x1 x2 : Str} {p1 p2 tp vp pos : Pos} {k k' : Nat} {e1 e2 : Expr} {Q : Flow → Sg → Prop}
    (h : T w A env (spliced (backTo vp (starEach [e1, e2] env))) (fun vs σ₁ => ∃ v1 v2, vs = [v1, v2] ∧ T w A env (storeName env x2 v2) (fun _ σ₂ => T w A env (storeName env x1 v1) (fun _ σ₃ => Q .next σ₃) σ₂) σ₁) σ)
    (hs : swapsWithSole [.Tuple [.Name x1 p1, .Name x2 p2] k tp] (.Tuple [e1, e2] k' vp) pos.line env = pure false := by kernel_rfl)
    (hw : swappedStores [.Tuple [.Name x1 p1, .Name x2 p2] k tp] (.Tuple [e1, e2] k' vp) env = pure (some [x1, x2]) := by kernel_rfl) :
    T w A env (exec (.Assign [.Tuple [.Name x1 p1, .Name x2 p2] k tp] (.Tuple [e1, e2] k' vp) pos) env) Q σ := by
  refine T.mk fun h₀ s S => ?_
  refine Assign_Tuple_swapped (names := [x1, x2]) (tuple_out hh (QQ := fun vs σ₁ => ∃ v1 v2, vs = [v1, v2] ∧ T w A env (storeName env x2 v2) (fun _ σ₂ => T w A env (storeName env x1 v1) (fun _ σ₃ => Q .next σ₃) σ₂) σ₁)
    (h.mono fun vs σ' ⟨v1, v2, e, q⟩ => ⟨by rw [e]; rfl, by simp, v1, v2, e, q⟩) S fun vs h' tk' σ' S' ⟨v1, v2, e, q⟩ => ?_) hs hw
  subst e
  have q' : T w A env (assignInOrder ([x1, x2].reverse.map fun n => bindName env n) [v1, v2].reverse) (fun _ σ₃ => Q .next σ₃) σ' :=
    T_inOrder_cons (T_bindName (q.mono fun _ σ2 q2 => T_inOrder_cons (T_bindName (q2.mono fun _ σ3 q3 => T_inOrder_nil q3))))
  exact q'.go S' fun _ _ _ σ'' S'' q'' => ⟨_, _, rfl, σ'', S'', q''⟩
theorem T_assign3 (hh : A.handled = none) {x1 x2 x3 : Str} {p1 p2 p3 tp vp pos : Pos} {k k' : Nat} {e1 e2 e3 : Expr} {Q : Flow → Sg → Prop}
    (h : T w A env (spliced (backTo vp (starEach [e1, e2, e3] env))) (fun vs σ₁ => ∃ v1 v2 v3, vs = [v1, v2, v3] ∧ T w A env (storeName env x3 v3) (fun _ σ₂ => T w A env (storeName env x2 v2) (fun _ σ₃ => T w A env (storeName env x1 v1) (fun _ σ₄ => Q .next σ₄) σ₃) σ₂) σ₁) σ)
    (hs : swapsWithSole [.Tuple [.Name x1 p1, .Name x2 p2, .Name x3 p3] k tp] (.Tuple [e1, e2, e3] k' vp) pos.line env = pure false := by kernel_rfl)
    (hw : swappedStores [.Tuple [.Name x1 p1, .Name x2 p2, .Name x3 p3] k tp] (.Tuple [e1, e2, e3] k' vp) env = pure (some [x1, x2, x3]) := by kernel_rfl) :
    T w A env (exec (.Assign [.Tuple [.Name x1 p1, .Name x2 p2, .Name x3 p3] k tp] (.Tuple [e1, e2, e3] k' vp) pos) env) Q σ := by
  refine T.mk fun h₀ s S => ?_
  refine Assign_Tuple_swapped (names := [x1, x2, x3]) (tuple_out hh (QQ := fun vs σ₁ => ∃ v1 v2 v3, vs = [v1, v2, v3] ∧ T w A env (storeName env x3 v3) (fun _ σ₂ => T w A env (storeName env x2 v2) (fun _ σ₃ => T w A env (storeName env x1 v1) (fun _ σ₄ => Q .next σ₄) σ₃) σ₂) σ₁)
    (h.mono fun vs σ' ⟨v1, v2, v3, e, q⟩ => ⟨by rw [e]; rfl, by simp, v1, v2, v3, e, q⟩) S fun vs h' tk' σ' S' ⟨v1, v2, v3, e, q⟩ => ?_) hs hw
  subst e
  have q' : T w A env (assignInOrder ([x1, x2, x3].reverse.map fun n => bindName env n) [v1, v2, v3].reverse) (fun _ σ₃ => Q .next σ₃) σ' :=
    T_inOrder_cons (T_bindName (q.mono fun _ σ2 q2 => T_inOrder_cons (T_bindName (q2.mono fun _ σ3 q3 => T_inOrder_cons (T_bindName (q3.mono fun _ σ4 q4 => T_inOrder_nil q4))))))
  exact q'.go S' fun _ _ _ σ'' S'' q'' => ⟨_, _, rfl, σ'', S'', q''⟩

theorem T_assignName {x : Str} {px : Pos} {v : Value} {Q : Unit → Sg → Prop} (h : T w A env (storeName env x v) Q σ) : T w A env (assign (.Name x px) env v) Q σ := by
  refine T.mk fun h₀ s S => ?_
  exact assign_Name (h.run h₀ s S)
theorem T_assign4 (hh : A.handled = none) {x1 x2 x3 x4 : Str} {p1 p2 p3 p4 tp vp pos : Pos} {k k' : Nat} {e1 e2 e3 e4 : Expr} {Q : Flow → Sg → Prop}
    (h : T w A env (spliced (backTo vp (starEach [e1, e2, e3, e4] env))) (fun vs σ₁ => ∃ v1 v2 v3 v4, vs = [v1, v2, v3, v4] ∧ T w A env (storeName env x1 v1) (fun _ σ₂ => T w A env (storeName env x2 v2) (fun _ σ₃ => T w A env (storeName env x3 v3) (fun _ σ₄ => T w A env (storeName env x4 v4) (fun _ σ₅ => Q .next σ₅) σ₄) σ₃) σ₂) σ₁) σ)
    (hs : swapsWithSole [.Tuple [.Name x1 p1, .Name x2 p2, .Name x3 p3, .Name x4 p4] k tp] (.Tuple [e1, e2, e3, e4] k' vp) pos.line env = pure false := by kernel_rfl)
    (hw : swappedStores [.Tuple [.Name x1 p1, .Name x2 p2, .Name x3 p3, .Name x4 p4] k tp] (.Tuple [e1, e2, e3, e4] k' vp) env = pure none := by kernel_rfl) :
    T w A env (exec (.Assign [.Tuple [.Name x1 p1, .Name x2 p2, .Name x3 p3, .Name x4 p4] k tp] (.Tuple [e1, e2, e3, e4] k' vp) pos) env) Q σ := by
  refine T.mk fun h₀ s S => ?_
  refine Assign_Tuple (wpAny_mono (tuple_out (n := 4) (E := fun _ _ => False) hh (QQ := fun vs σ₁ => ∃ v1 v2 v3 v4, vs = [v1, v2, v3, v4] ∧ T w A env (storeName env x1 v1) (fun _ σ₂ => T w A env (storeName env x2 v2) (fun _ σ₃ => T w A env (storeName env x3 v3) (fun _ σ₄ => T w A env (storeName env x4 v4) (fun _ σ₅ => Q .next σ₅) σ₄) σ₃) σ₂) σ₁)
    (h.mono fun vs σ' ⟨v1, v2, v3, v4, e, q⟩ => ⟨by rw [e]; rfl, by simp, v1, v2, v3, v4, e, q⟩) S
    (K := fun vs s' => wpAny (model PySem.Challenge.pw_nn0015_01 w) A (assignInOrder [assign (.Name x1 p1) env, assign (.Name x2 p2) env, assign (.Name x3 p3) env, assign (.Name x4 p4) env] vs) (fun _ => Fin w env h₀ s Q .next) (fun _ _ => False) s') fun vs h' tk' σ' S' ⟨v1, v2, v3, v4, e, q⟩ => ?_) (fun v s₁ hv => ?_) fun _ _ f => f) hs hw
  · subst e
    have q' : T w A env (assignInOrder [assign (.Name x1 p1) env, assign (.Name x2 p2) env, assign (.Name x3 p3) env, assign (.Name x4 p4) env] [v1, v2, v3, v4]) (fun _ σ₃ => Q .next σ₃) σ' :=
      T_inOrder_cons (T_assignName (q.mono fun _ σ2 q2 => T_inOrder_cons (T_assignName (q2.mono fun _ σ3 q3 => T_inOrder_cons (T_assignName (q3.mono fun _ σ4 q4 => T_inOrder_cons (T_assignName (q4.mono fun _ σ5 q5 => T_inOrder_nil q5))))))))
    exact q'.go S' fun _ _ _ σ'' S'' q'' => ⟨_, _, rfl, σ'', S'', q''⟩
  · show wpAny _ _ (do standAt tp; unpack v (assignEach [.Name x1 p1, .Name x2 p2, .Name x3 p3, .Name x4 p4] env)) _ _ _
    refine wpAny_bind (wpAny_standAt ?_)
    show wpAny _ _ (do assignInOrder [assign (.Name x1 p1) env, assign (.Name x2 p2) env, assign (.Name x3 p3) env, assign (.Name x4 p4) env] (← holding [v] (unpackItems v 4 none))) _ _ _
    exact wpAny_bind (wpAny_holding hv)

-- slices
theorem T_slice {value : Expr} {lower upper : Option Expr} {p pos : Pos} {Q : Value → Sg → Prop}
    (h : T w A env (eval value env) (fun o σ₁ => T w A env (evalPart lower env) (fun vl σ₂ => T w A env (evalPart upper env) (fun vu σ₃ => ∃ ns lo hi, σ₃.Has o (.nums ns) ∧ ns.length ≤ 1000 ∧ IsPart vl lo ∧ IsPart vu hi ∧
      ∀ v, Q v { σ₃ with fx := (v, .nums (pickNums ns lo hi none)) :: σ₃.fx, fr := v :: σ₃.fr }) σ₂) σ₁) σ)
    (ht : ∀ o r, letTemporaryGo value o r = pure () := by intro _ _; kernel_rfl) : T w A env (eval (.Subscript value (.Slice lower upper none p) pos) env) Q σ := by
  refine T.mk fun h₀ s S => ?_
  refine wpAny_Subscript_list_slice (h.go S fun o h1 tk1 σ₁ S1 q => q.go S1 fun vl h2 tk2 σ₂ S2 q => q.go S2 fun vu h3 tk3 σ₃ S3 ⟨ns, lo, hi, hx, hn, pl, pu, q3⟩ => ?_) ht
  obtain ⟨a, rfl, vs, hl, hi'⟩ := hx.rep S3
  have hlen := hi'.length
  refine ⟨a, vs.toArray, lo, hi, rfl, hl, by rw [List.size_toArray, sizeLine_eq]; (first | lia | omega), pl, pu, ?_⟩
  have hnone : h3.get? (h3.objs.size + 1) = none := Heap.get?_none_of_le (Nat.le_succ _)
  refine Fin.mk (S3.fixNew (d := .nums (pickNums ns lo hi none)) (fun b o e => Heap.get?_push_of_some _ (Heap.get?_push_of_some _ e)) hnone fun h2 k _ => ⟨(slicePick vs.toArray lo hi none).toList, ?_, hi'.pick lo hi none⟩) (q3 _)
  rw [Array.toArray_toList]
  refine ⟨{ cls := .type "list", data := .seq (slicePick vs.toArray lo hi none) }, k _ ?_, rfl, _, rfl⟩
  have := Heap.get?_push_size (h3.push { cls := .type "slice", data := .fields #[vl, vu, .none] }) (o := { cls := .type "list", data := .seq (slicePick vs.toArray lo hi none) }) rfl
  rw [Heap.size_push] at this
  exact this
/-- a whole copy of a list of lists, one's own -/
theorem T_sliceRows {value : Expr} {p pos : Pos} {Q : Value → Sg → Prop}
    (h : T w A env (eval value env) (fun o σ₁ => ∃ rs, ((o, .rows rs) ∈ σ₁.fx ∨ (o, .rows rs) ∈ σ₁.ow) ∧ rs.length ≤ 1000 ∧ ∀ v, Q v { σ₁ with ow := (v, .rows rs) :: σ₁.ow }) σ)
    (ht : ∀ o r, letTemporaryGo value o r = pure () := by intro _ _; kernel_rfl) : T w A env (eval (.Subscript value (.Slice none none none p) pos) env) Q σ := by
  refine T.mk fun h₀ s S => ?_
  refine wpAny_Subscript_list_slice (h.go S fun o h1 tk1 σ₁ S1 ⟨rs, hx, hn, q⟩ => ?_) ht
  refine wpAny_pure (wpAny_pure ?_)
  obtain ⟨hI, S2, a, vs, rfl, hl, hp⟩ := rows_fixed S1 hx
  have hlen := hp.length
  refine ⟨a, vs.toArray, none, none, rfl, hl, by rw [List.size_toArray, sizeLine_eq]; (first | lia | omega), .none, .none, ?_⟩
  have hnone : h1.get? (h1.objs.size + 1) = none := Heap.get?_none_of_le (Nat.le_succ _)
  refine Fin.mk (S2.own (d := .rows rs) (fun b o e => Heap.get?_push_of_some _ (Heap.get?_push_of_some _ e)) hnone ⟨vs, ?_, hp⟩) (q _)
  have := Heap.get?_push_size (h1.push { cls := .type "slice", data := .fields #[.none, .none, .none] }) (o := { cls := .type "list", data := .seq (slicePick vs.toArray none none none) }) rfl
  rw [Heap.size_push] at this
  rw [slicePick_all] at this ⊢
  exact ⟨_, this, rfl, _, rfl⟩

-- sums and products of lists
theorem T_addNums {v u : Value} {ns ms : List Int} {Q : Value → Sg → Prop} (hv : σ.Has v (.nums ns)) (hu : σ.Has u (.nums ms)) (hn : ns.length + ms.length ≤ 1000)
    (h : ∀ r, Q r { σ with fx := (r, .nums (ns ++ ms)) :: σ.fx, fr := r :: σ.fr }) : T w A env (binaryOp .Add v u) Q σ := by
  refine T.mk fun h₀ s S => ?_
  obtain ⟨a, rfl, vs, hl, hi⟩ := hv.rep S
  obtain ⟨b, rfl, ws, hb, hj⟩ := hu.rep S
  have l1 := hi.length
  have l2 := hj.length
  obtain ⟨⟨cls, dd, data, sl⟩, ho, hc, n, hd⟩ := id hl
  obtain ⟨⟨cls2, dd2, data2, sl2⟩, ho2, hc2, n2, hd2⟩ := id hb
  simp only at hc hd hc2 hd2
  subst hc hd hc2 hd2
  have e : vs.toArray ++ ws.toArray = (vs ++ ws).toArray := by simp
  refine concat_meets ⟨_, ho, rfl⟩ ⟨_, ho2, rfl⟩ noFill_list_add seq_list_add PySem.F.slot_list_add PySem.F.entry_list_add (PySem.F.args_list_add_2 _ _) (list_addW a b vs.toArray ws.toArray n n2 dd dd2 sl sl2 (by simp only [List.size_toArray]; rw [sizeLine_eq]; (first | lia | omega))) ⟨ho, ho2, ?_⟩
  rw [e]
  refine Fin.mk (S.fixNew (d := .nums (ns ++ ms)) (sub_push _ _) (none_at_end _) fun h2 k _ => ⟨vs ++ ws, ⟨_, k _ (Heap.get?_push_size _ rfl), rfl, _, rfl⟩, hi.append hj⟩) (h _)
theorem paired_append {α β : Type} {F : α → β → Prop} : ∀ {xs us : List α} {ys ws : List β}, Paired F xs ys → Paired F us ws → Paired F (xs ++ us) (ys ++ ws)
  | _, _, _, _, .nil, q => q
  | _, _, _, _, .cons h r, q => .cons h (paired_append r q)
theorem T_addRows {v u : Value} {ns ms : List (List Int)} {Q : Value → Sg → Prop} (hv : (v, .rows ns) ∈ σ.fx) (hu : (u, .rows ms) ∈ σ.fx) (hn : ns.length + ms.length ≤ 1000)
    (h : ∀ r, Q r { σ with fx := (r, .rows (ns ++ ms)) :: σ.fx, fr := r :: σ.fr }) : T w A env (binaryOp .Add v u) Q σ := by
  refine T.mk fun h₀ s S => ?_
  obtain ⟨hI, S'⟩ := id S
  obtain ⟨a, ea, vs, hlI, hi⟩ := S'.fx _ hv
  obtain ⟨b, eb, ws, hbI, hj⟩ := S'.fx _ hu
  dsimp only at ea eb
  subst ea eb
  have hl := hlI.at fun o e => S'.kI _ o e
  have hb := hbI.at fun o e => S'.kI _ o e
  have l1 := hi.length
  have l2 := hj.length
  obtain ⟨⟨cls, dd, data, sl⟩, ho, hc, n, hd⟩ := id hl
  obtain ⟨⟨cls2, dd2, data2, sl2⟩, ho2, hc2, n2, hd2⟩ := id hb
  simp only at hc hd hc2 hd2
  subst hc hd hc2 hd2
  have e : vs.toArray ++ ws.toArray = (vs ++ ws).toArray := by simp
  refine concat_meets ⟨_, ho, rfl⟩ ⟨_, ho2, rfl⟩ noFill_list_add seq_list_add PySem.F.slot_list_add PySem.F.entry_list_add (PySem.F.args_list_add_2 _ _) (list_addW a b vs.toArray ws.toArray n n2 dd dd2 sl sl2 (by simp only [List.size_toArray]; rw [sizeLine_eq]; (first | lia | omega))) ⟨ho, ho2, ?_⟩
  rw [e]
  refine Fin.mk (S.fixNew (d := .rows (ns ++ ms)) (sub_push _ _) (none_at_end _) fun h2 k k2 => ⟨vs ++ ws, ⟨_, k _ (Heap.get?_push_size _ rfl), rfl, _, rfl⟩, paired_append (paired_mono (fun _ _ y => y.mono fun _ _ e => k2 _ _ (S'.hidden (sub_push _ _) _ _ e)) hi) (paired_mono (fun _ _ y => y.mono fun _ _ e => k2 _ _ (S'.hidden (sub_push _ _) _ _ e)) hj)⟩) (h _)

/-- [c] * k: of one's own -/
theorem ints_rep (c : Int) (t : Tok) : ∀ k : Nat, IntsAre (List.replicate k (.int c t)) (List.replicate k c)
  | 0 => .nil
  | k + 1 => .cons c t (ints_rep c t k)
theorem fold_one (x : Value) : ∀ (k : Nat) (acc : Array Value), List.foldl (fun x1 x2 => x1 ++ x2) acc (List.replicate k #[x]) = acc ++ (List.replicate k x).toArray
  | 0, acc => by simp
  | k + 1, acc => by
    rw [List.replicate_succ, List.foldl_cons, fold_one x k, List.replicate_succ]
    apply Array.ext'
    simp
theorem T_mulOne {v : Value} {c x : Int} {u : Tok} {d : D} {Q : Value → Sg → Prop} (hv : (v, .app [c]) ∈ σ.fx) (hx : 0 ≤ x) (hn : x ≤ 1000) (hd : d = .app (List.replicate x.toNat c) ∨ d = .nums (List.replicate x.toNat c))
    (h : ∀ r, Q r { σ with ow := (r, d) :: σ.ow }) : T w A env (binaryOp .Mult v (.int x u)) Q σ := by
  refine T.mk fun h₀ s S => ?_
  obtain ⟨hI, S'⟩ := id S
  obtain ⟨l, ea, vs, ⟨k, hlI⟩, hi⟩ := S'.fx _ hv
  dsimp only at ea
  subst ea
  have hl := S'.kI _ _ hlI
  obtain ⟨t, rfl⟩ : ∃ t, vs = [.int c t] := by
    cases hi with | cons _ t r => cases r; exact ⟨t, rfl⟩
  have hsz : (#[Value.int c t] : Array Value).size * x.toNat ≤ 2 ^ 24 := by
    show 1 * x.toNat ≤ _
    (first | lia | omega)
  refine wpAny_binaryOp_repeat_ref (T := "list") (U := "int") (by decide) ⟨_, hl, rfl⟩ (fun s' => typeIs_int s' x u) noFill_list_mul F.fills_int_mul F.slot_int_rmul repeat_list F.slot_int_index.lookup
    (call_meets F.slot_int_rmul (typeIs_int s x u) F.entry_int_rmul (F.args_int_rmul_2 _ _) (int___rmul___int_list x u l _ k)
      ⟨hl, rfl, ⟨_, hl, rfl⟩, call_meets F.slot_list_mul ⟨_, hl, rfl⟩ F.entry_list_mul (F.args_list_mul_2 _ _)
        (AutoListH.list___mul___list_int_3 l _ k x u (by simp [Builtin.List.listFitsIndex]; (first | lia | omega)) (by (first | lia | omega)) (by simp [Builtin.List.listTooLong, sizeLine]; (first | lia | omega)))
        ⟨hl, ?_⟩⟩)
  rw [show ([Value.int c t].toArray : Array Value).isEmpty = false from rfl, if_neg (by decide)]
  rw [show ([Value.int c t].toArray : Array Value) = #[.int c t] from rfl, fold_one]
  rw [show #[] ++ (List.replicate x.toNat (Value.int c t)).toArray = (List.replicate x.toNat (Value.int c t)).toArray from by simp]
  refine Fin.mk (S'.own (d := d) (sub_push _ _) (none_at_end _) ?_) (h _)
  rcases hd with rfl | rfl
  · exact ⟨_, ⟨_, Heap.get?_push_size _ rfl⟩, ints_rep c t _⟩
  · exact ⟨_, ⟨_, Heap.get?_push_size _ rfl, rfl, _, rfl⟩, ints_rep c t _⟩

-- lists compared
theorem T_eqNums {v u : Value} {ns ms : List Int} {Q : Value → Sg → Prop} (hv : σ.Has v (.nums ns)) (hu : σ.Has u (.nums ms)) (hA : A.units + 64 < cLine) (h : Q (.bool (decide (ns = ms))) σ) : T w A env (compareOp .Eq v u) Q σ := by
  refine T.mk fun h₀ s S => ?_
  obtain ⟨a, rfl, vs, hl, hi⟩ := hv.rep S
  obtain ⟨b, rfl, ws, hb, hj⟩ := hu.rep S
  exact ints_eq hl hi hb hj hA (Fin.here S h)
theorem T_neNums {v u : Value} {ns ms : List Int} {Q : Value → Sg → Prop} (hv : σ.Has v (.nums ns)) (hu : σ.Has u (.nums ms)) (hA : A.units + 64 < cLine) (h : Q (.bool (!decide (ns = ms))) σ) : T w A env (compareOp .NotEq v u) Q σ := by
  refine T.mk fun h₀ s S => ?_
  obtain ⟨a, rfl, vs, hl, hi⟩ := hv.rep S
  obtain ⟨b, rfl, ws, hb, hj⟩ := hu.rep S
  exact ints_ne hl hi hb hj hA (Fin.here S h)

-- built-ins of ints
theorem T_abs {a : Int} {t : Tok} {Q : Value → Sg → Prop} (h : ∀ t, Q (.int (if a < 0 then -a else a) t) σ) : T w A env (call (.builtin "abs") [.int a t]) Q σ := by
  refine T.mk fun h₀ s S => ?_
  exact call_abs_int fun u tk => Fin.mk S (h u)
theorem T_toInt {a : Int} {t : Tok} {Q : Value → Sg → Prop} (h : ∀ t, Q (.int a t) σ) : T w A env (call (.type "int") [.int a t]) Q σ := by
  refine T.mk fun h₀ s S => ?_
  exact call_int_int (Fin.here S (h t))
theorem T_bitLength {o : Expr} {apos pos : Pos} {Q : Value → Sg → Prop} (h : T w A env (eval o env) (fun v σ₁ => ∃ a t, v = .int a t ∧ ∀ t, Q (.int (Builtin.Int.intBits a) t) σ₁) σ)
    (hm : eval (.Call (.Attribute o "bit_length" apos) [] [] pos) env = (do
      let ov ← eval o env
      standAt apos.atName
      let (f, first) ← holding [ov] (getMethod ov "bit_length" (do return (← importBound o env).getD true))
      callWith pos f first (backTo pos (starEach [] env)) []) := by kernel_rfl) : T w A env (eval (.Call (.Attribute o "bit_length" apos) [] [] pos) env) Q σ := by
  refine T.mk fun h₀ s S => ?_
  refine MethodCall_ (h.go S fun v h1 tk1 σ₁ S1 ⟨a, t, e, q⟩ => ?_) hm
  subst e
  exact getMethod_int_bit_length (callWith_method0 (call_int_bit_length (Fin.mk S1 (q _))))
end
end Mine
end
section
open PySem PySem.W PyProof.Rows PySem.Calls
set_option Elab.async false
set_option linter.unusedVariables false
set_option maxRecDepth 100000
namespace Mine
theorem T_ldni {w : World} {A : Around} {env : Env} {σ : Sg} {x : Str} {n : Int} {Q : Value → Sg → Prop} (hm : (x, .i n) ∈ σ.m) (h : ∀ t, Q (.int n t) σ)
    (hn : (x == ("__classdict__" : Str)) = false := by decide +kernel) : T w A env (loadName env x) Q σ :=
  T_ldn hm nofun (fun v ⟨t, e⟩ => e ▸ h t) hn
theorem T_sti {w : World} {A : Around} {env : Env} {x : Str} {n : Int} {t : Tok} {m m' : List (Str × AV)} {fx ow : List (Value × D)} {fr : List Value} {Q : Unit → Sg → Prop} (p : Put x (.i n) m m') (h : Q () ⟨m', fx, fr, ow⟩)
    (hl : env.kindOf x = some .local := by kernel_rfl) : T w A env (storeName env x (.int n t)) Q ⟨m, fx, fr, ow⟩ := T_st (av := .i n) ⟨t, rfl⟩ p h hl
theorem T_stb {w : World} {A : Around} {env : Env} {x : Str} {b : Bool} {m m' : List (Str × AV)} {fx ow : List (Value × D)} {fr : List Value} {Q : Unit → Sg → Prop} (p : Put x (.b b) m m') (h : Q () ⟨m', fx, fr, ow⟩)
    (hl : env.kindOf x = some .local := by kernel_rfl) : T w A env (storeName env x (.bool b)) Q ⟨m, fx, fr, ow⟩ := T_st (av := .b b) rfl p h hl
theorem T_stv {w : World} {A : Around} {env : Env} {x : Str} {v : Value} {m m' : List (Str × AV)} {fx ow : List (Value × D)} {fr : List Value} {Q : Unit → Sg → Prop} (p : Put x (.v v) m m') (h : Q () ⟨m', fx, fr, ow⟩)
    (hl : env.kindOf x = some .local := by kernel_rfl) : T w A env (storeName env x (v)) Q ⟨m, fx, fr, ow⟩ := T_st (av := .v v) rfl p h hl
theorem T_stci {w : World} {A : Around} {env : Env} {x : Str} {n : Int} {t : Tok} {m m' : List (Str × AV)} {fx ow : List (Value × D)} {fr : List Value} {Q : Unit → Sg → Prop} (p : Put x (.i n) m m') (h : Q () ⟨m', fx, fr, ow⟩)
    (hl : env.kindOf x = some .cell := by kernel_rfl) (hc : (env.cells.lookup x).isSome = true := by kernel_rfl) : T w A env (storeName env x (.int n t)) Q ⟨m, fx, fr, ow⟩ := T_stC (av := .i n) ⟨t, rfl⟩ p h hl hc
theorem T_stcv {w : World} {A : Around} {env : Env} {x : Str} {v : Value} {m m' : List (Str × AV)} {fx ow : List (Value × D)} {fr : List Value} {Q : Unit → Sg → Prop} (p : Put x (.v v) m m') (h : Q () ⟨m', fx, fr, ow⟩)
    (hl : env.kindOf x = some .cell := by kernel_rfl) (hc : (env.cells.lookup x).isSome = true := by kernel_rfl) : T w A env (storeName env x (v)) Q ⟨m, fx, fr, ow⟩ := T_stC (av := .v v) rfl p h hl hc
/-- a state that says less -/
structure Wk (σ' σ : Sg) : Prop where
  m : ∀ p ∈ σ'.m, p.2 = .un ∨ p ∈ σ.m
  n : (σ'.m.map (·.1)).Nodup
  fx : ∀ p ∈ σ'.fx, p ∈ σ.fx
  ow : σ'.ow = σ.ow
  fr : ∀ v ∈ σ'.fr, v ∈ σ.fr
theorem Wk.refl {σ : Sg} (h : (σ.m.map (·.1)).Nodup) : Wk σ σ := ⟨fun _ h => .inr h, h, fun _ h => h, rfl, fun _ h => h⟩
theorem T_wk {w : World} {A : Around} {env : Env} {σ σ' : Sg} {α : Type} {t : Sem α} {Q : α → Sg → Prop} (k : Wk σ' σ) (h : T w A env t Q σ') : T w A env t Q σ := h.weaken k.m k.n k.fx k.ow k.fr
/-- a statement, and what holds behind it -/
theorem T_cut {w : World} {A : Around} {env : Env} {σ : Sg} {st : Stmt} {rest : List Stmt} {Q : Flow → Sg → Prop} (P : Sg → Prop)
    (h1 : T w A env (exec st env) (fun f σ₁ => f = .next ∧ ∃ σ₂, Wk σ₂ σ₁ ∧ P σ₂) σ) (h2 : ∀ σ₂, P σ₂ → T w A env (execs rest env) Q σ₂) : T w A env (execs (st :: rest) env) Q σ :=
  T_execs_cons (h1.mono fun f σ₁ ⟨e, σ₂, k, p⟩ => by subst e; exact T_wk k (h2 σ₂ p))
theorem T_lshiftE {w : World} {A : Around} {env : Env} {σ : Sg} {a b c : Int} {t u : Tok} {Q : Value → Sg → Prop} (hn : 0 ≤ b) (hn2 : b ≤ 1000000) (ha : a.natAbs < 2 ^ 64) (e : a * 2 ^ b.toNat = c) (h : ∀ t, Q (.int c t) σ) : T w A env (binaryOp .LShift (.int a t) (.int b u)) Q σ :=
  T_lshift hn hn2 ha (e ▸ h)
theorem T_rshiftE {w : World} {A : Around} {env : Env} {σ : Sg} {a b c : Int} {t u : Tok} {Q : Value → Sg → Prop} (hn : 0 ≤ b) (e : a / 2 ^ b.toNat = c) (h : ∀ t, Q (.int c t) σ) : T w A env (binaryOp .RShift (.int a t) (.int b u)) Q σ :=
  T_rshift hn (e ▸ h)
theorem T_irshiftE {w : World} {A : Around} {env : Env} {σ : Sg} {a b c : Int} {t u : Tok} {Q : Value → Sg → Prop} (hn : 0 ≤ b) (e : a / 2 ^ b.toNat = c) (h : ∀ t, Q (.int c t) σ) : T w A env (inplaceOp .RShift (.int a t) (.int b u)) Q σ :=
  T_irshift hn (e ▸ h)
theorem T_partNone {w : World} {A : Around} {env : Env} {σ : Sg} {Q : Value → Sg → Prop} (h : Q .none σ) : T w A env (evalPart none env) Q σ := T_pure h
theorem T_partSome {w : World} {A : Around} {env : Env} {σ : Sg} {e : Expr} {Q : Value → Sg → Prop} (h : T w A env (eval e env) Q σ) : T w A env (evalPart (some e) env) Q σ := h
theorem Gmulschool {w : World} {A : Around} {env : Env} {σ : Sg} {pos : Pos} {Q : Value → Sg → Prop} (h : Q (.ref 180) σ) (hx : env.kindOf "mul_school" = some .globalImplicit := by kernel_rfl) : T w A env (eval (.Name "mul_school" pos) env) Q σ := T_glob (v := .ref 180) (by kernel_rfl) h hx (by decide +kernel)
end Mine
end
section
namespace Mine
/-- the number that digits make, the least first -/
def val (w : Nat) : List Int → Int
  | [] => 0
  | n :: r => n + 2 ^ w * val w r
def Dig (w : Nat) (ns : List Int) : Prop := ∀ n ∈ ns, 0 ≤ n ∧ n < 2 ^ w
/-- the digits of x to the base 2 ^ w, no nought at the end -/
def row (w : Nat) (x : Nat) : List Int := if h : x = 0 ∨ w = 0 then [] else ((x % 2 ^ w : Nat) : Int) :: row w (x / 2 ^ w)
termination_by x
decreasing_by exact Nat.div_lt_self (by (first | lia | omega)) (Nat.one_lt_two_pow (by (first | lia | omega)))

theorem row_zero (w : Nat) : row w 0 = [] := by unfold row; simp
theorem row_pos {w x : Nat} (hw : 0 < w) (hx : 0 < x) : row w x = ((x % 2 ^ w : Nat) : Int) :: row w (x / 2 ^ w) := by
  rw [row]; rw [dif_neg (by (first | lia | omega))]

theorem two_pow_pos (w : Nat) : (0 : Int) < 2 ^ w := Int.pow_pos (by decide)
theorem cast_pow (w : Nat) : ((2 ^ w : Nat) : Int) = 2 ^ w := by simp

theorem val_append (w : Nat) (a b : List Int) : val w (a ++ b) = val w a + 2 ^ (w * a.length) * val w b := by
  induction a with
  | nil => simp [val]
  | cons n r ih =>
    simp only [List.cons_append, val, ih, List.length_cons, Nat.mul_add, Nat.mul_one, Int.pow_add]
    grind

theorem Dig.tail {w n r} (h : Dig w (n :: r)) : Dig w r := fun m hm => h m (.tail _ hm)
theorem Dig.head {w n r} (h : Dig w (n :: r)) : 0 ≤ n ∧ n < 2 ^ w := h n (.head _)
theorem Dig.nil {w} : Dig w [] := fun _ h => nomatch h
theorem Dig.append {w a b} (h : Dig w a) (h' : Dig w b) : Dig w (a ++ b) := fun n hn => (List.mem_append.mp hn).elim (h n) (h' n)
theorem Dig.one {w n} (h : 0 ≤ n ∧ n < 2 ^ w) : Dig w [n] := fun m hm => by cases List.mem_singleton.mp hm; exact h

theorem val_bounds {w : Nat} {ns : List Int} (h : Dig w ns) : 0 ≤ val w ns ∧ val w ns < 2 ^ (w * ns.length) := by
  induction ns with
  | nil => simp [val]
  | cons n r ih =>
    obtain ⟨h1, h2⟩ := h.head
    obtain ⟨h3, h4⟩ := ih h.tail
    have hB := two_pow_pos w
    simp only [val, List.length_cons, Nat.mul_add, Nat.mul_one, Int.pow_add]
    have e1 : 0 ≤ 2 ^ w * val w r := Int.mul_nonneg (by (first | lia | omega)) h3
    have e2 : 2 ^ w * val w r ≤ 2 ^ w * (2 ^ (w * r.length) - 1) := Int.mul_le_mul_of_nonneg_left (by (first | lia | omega)) (by (first | lia | omega))
    have e3 : 2 ^ w * ((2 : Int) ^ (w * r.length) - 1) = 2 ^ (w * r.length) * 2 ^ w - 2 ^ w := by grind
    constructor <;> (first | lia | omega)

theorem dig_row {w : Nat} (hw : 0 < w) (x : Nat) : Dig w (row w x) := by
  induction x using Nat.strongRecOn with
  | ind x ih =>
    by_cases hx : x = 0
    · rw [hx, row_zero]; exact .nil
    · rw [row_pos hw (by (first | lia | omega))]
      intro n hn
      rcases List.mem_cons.mp hn with rfl | hn
      · have := Nat.mod_lt x (Nat.two_pow_pos w)
        have e := cast_pow w
        (first | lia | omega)
      · exact ih _ (Nat.div_lt_self (by (first | lia | omega)) (Nat.one_lt_two_pow (by (first | lia | omega)))) n hn
theorem val_row {w : Nat} (hw : 0 < w) (x : Nat) : val w (row w x) = x := by
  induction x using Nat.strongRecOn with
  | ind x ih =>
    by_cases hx : x = 0
    · rw [hx, row_zero]; rfl
    · rw [row_pos hw (by (first | lia | omega)), val, ih _ (Nat.div_lt_self (by (first | lia | omega)) (Nat.one_lt_two_pow (by (first | lia | omega))))]
      have := Nat.mod_add_div x (2 ^ w)
      have e := cast_pow w
      rw [← e]
      exact_mod_cast this

theorem last_val {w : Nat} {ns : List Int} (h : Dig w ns) (h0 : ns ≠ []) (hl : 2 ^ (w * (ns.length - 1)) ≤ val w ns) : ∀ m, ns.getLast? = some m → m ≠ 0 := by
  intro m hm e
  subst e
  have e : ns = ns.dropLast ++ [0] := by
    rw [List.getLast?_eq_some_getLast h0] at hm
    have := List.dropLast_concat_getLast h0
    rw [Option.some.inj hm] at this
    exact this.symm
  have hd : Dig w ns.dropLast := fun n hn => h n ((List.dropLast_sublist ns).subset hn)
  have hb := (val_bounds hd).2
  rw [e, val_append] at hl
  simp only [val, Int.mul_zero, Int.add_zero, List.length_append, List.length_dropLast, List.length_cons, List.length_nil] at hl hb
  simp at hl
  (first | lia | omega)

theorem row_uniq {w : Nat} (hw : 0 < w) {ns : List Int} (h : Dig w ns) (hl : ∀ m, ns.getLast? = some m → m ≠ 0) : ns = row w (val w ns).toNat := by
  induction ns with
  | nil => simp [val, row_zero]
  | cons n r ih =>
    have ht := ih h.tail (fun m hm => hl m (by
      cases r with
      | nil => cases hm
      | cons a b => simpa using hm))
    obtain ⟨h1, h2⟩ := h.head
    obtain ⟨h3, _⟩ := val_bounds h.tail
    have hB := two_pow_pos w
    have hpos : 0 < val w (n :: r) := by
      cases r with
      | nil =>
        have := hl n rfl
        simp [val]; (first | lia | omega)
      | cons a b =>
        have hr : 0 < val w (a :: b) := by
          rcases Int.lt_or_eq_of_le h3 with q | q
          · exact q
          · rw [← q] at ht
            simp [row_zero] at ht
        have := Int.mul_pos hB hr
        rw [val]; (first | lia | omega)
    have hN : (val w (n :: r)).toNat = n.toNat + 2 ^ w * (val w r).toNat := by
      have e1 : val w (n :: r) = ((n.toNat + 2 ^ w * (val w r).toNat : Nat) : Int) := by
        rw [val]; push_cast
        rw [Int.toNat_of_nonneg h1, Int.toNat_of_nonneg h3]
      rw [e1]; exact Int.toNat_natCast _
    have hn : n.toNat < 2 ^ w := by have := cast_pow w; (first | lia | omega)
    rw [row_pos hw (by (first | lia | omega)), hN]
    have e1 : (n.toNat + 2 ^ w * (val w r).toNat) % 2 ^ w = n.toNat := by rw [Nat.add_mul_mod_self_left, Nat.mod_eq_of_lt hn]
    have e2 : (n.toNat + 2 ^ w * (val w r).toNat) / 2 ^ w = (val w r).toNat := by
      rw [Nat.add_mul_div_left _ _ (Nat.two_pow_pos w), Nat.div_eq_of_lt hn, Nat.zero_add]
    rw [e1, e2, ← ht, Int.toNat_of_nonneg h1]
/-- digits that end in no nought are the digits of their number -/
theorem row_of {w : Nat} (hw : 0 < w) {ns : List Int} (h : Dig w ns) (hl : ns = [] ∨ 2 ^ (w * (ns.length - 1)) ≤ val w ns) : ns = row w (val w ns).toNat := by
  by_cases h0 : ns = []
  · subst h0; simp [val, row_zero]
  · exact row_uniq hw h (last_val h h0 (hl.resolve_left h0))
theorem row_last {w x : Nat} (hw : 0 < w) : ∀ m, (row w x).getLast? = some m → m ≠ 0 := by
  induction x using Nat.strongRecOn with
  | ind x ih =>
    by_cases hx : x = 0
    · rw [hx, row_zero]; intro m hm; cases hm
    · rw [row_pos hw (by (first | lia | omega))]
      intro m hm
      have hlt := Nat.div_lt_self (n := x) (k := 2 ^ w) (by (first | lia | omega)) (Nat.one_lt_two_pow (by (first | lia | omega)))
      cases hr : row w (x / 2 ^ w) with
      | nil =>
        rw [hr] at hm
        simp at hm
        subst hm
        have e : x / 2 ^ w = 0 := by
          have := val_row hw (x / 2 ^ w)
          rw [hr] at this
          simp only [val] at this
          exact_mod_cast this.symm
        have q := Nat.div_add_mod x (2 ^ w)
        rw [e, Nat.mul_zero, Nat.zero_add] at q
        intro h0
        exact hx (by rw [← q]; exact_mod_cast h0)
      | cons a b =>
        rw [hr] at hm
        exact ih _ hlt m (by rw [hr]; simpa using hm)
/-- the bounds of a number by the count of its digits -/
theorem row_ge {w x : Nat} (hw : 0 < w) (hx : 0 < x) : 2 ^ (w * ((row w x).length - 1)) ≤ x := by
  induction x using Nat.strongRecOn with
  | ind x ih =>
    rw [row_pos hw hx]
    simp only [List.length_cons, Nat.add_sub_cancel]
    have hlt := Nat.div_lt_self (n := x) (k := 2 ^ w) hx (Nat.one_lt_two_pow (by (first | lia | omega)))
    by_cases h0 : x / 2 ^ w = 0
    · rw [h0, row_zero]; simp; (first | lia | omega)
    · have h0' := Nat.pos_of_ne_zero h0
      have := ih _ hlt h0'
      have hp := row_pos hw h0'
      have hl : (row w (x / 2 ^ w)).length = (row w (x / 2 ^ w)).length - 1 + 1 := by rw [hp]; simp
      rw [hl, Nat.mul_add, Nat.mul_one, Nat.pow_add]
      calc 2 ^ (w * ((row w (x / 2 ^ w)).length - 1)) * 2 ^ w ≤ (x / 2 ^ w) * 2 ^ w := Nat.mul_le_mul_right _ this
        _ ≤ x := Nat.div_mul_le_self ..
theorem row_lt {w x : Nat} (hw : 0 < w) : x < 2 ^ (w * (row w x).length) := by
  have := (val_bounds (dig_row hw x)).2
  rw [val_row hw] at this
  have e := cast_pow (w * (row w x).length)
  (first | lia | omega)
theorem row_len_le {w x k : Nat} (hw : 0 < w) (h : x < 2 ^ (w * k)) : (row w x).length ≤ k := by
  by_cases hx : x = 0
  · rw [hx, row_zero]; simp
  · have h1 := row_ge hw (show 0 < x by (first | lia | omega))
    rcases Nat.lt_or_ge k (row w x).length with q | q
    · exfalso
      have : 2 ^ (w * k) ≤ 2 ^ (w * ((row w x).length - 1)) := Nat.pow_le_pow_right (by decide) (Nat.mul_le_mul_left _ (by (first | lia | omega)))
      (first | lia | omega)
    · exact q
theorem row_nil_iff {w x : Nat} (hw : 0 < w) : row w x = [] ↔ x = 0 := by
  constructor
  · intro h
    have := val_row hw x
    rw [h] at this
    simp [val] at this
    (first | lia | omega)
  · rintro rfl; exact row_zero w
end Mine
end
section
namespace Mine
theorem val_split {w : Nat} {ns : List Int} {k : Nat} (hk : k < ns.length) : val w ns = val w (ns.take k) + 2 ^ (w * k) * (ns[k] + 2 ^ w * val w (ns.drop (k + 1))) := by
  conv => lhs; rw [← List.take_append_drop k ns]
  rw [val_append, List.drop_eq_getElem_cons hk, List.length_take, Nat.min_eq_left (by (first | lia | omega))]
  rfl
theorem lt_of_digit {w : Nat} {ns ms : List Int} (h : Dig w ns) (h' : Dig w ms) {k : Nat} (hk : k < ns.length) (hk' : k < ms.length) (e : ns.drop (k + 1) = ms.drop (k + 1)) (hd : ns[k] < ms[k]) : val w ns < val w ms := by
  rw [val_split hk, val_split hk', e]
  have h1 := (val_bounds (w := w) (ns := ns.take k) fun n hn => h n (List.mem_of_mem_take hn)).2
  have h2 := (val_bounds (w := w) (ns := ms.take k) fun n hn => h' n (List.mem_of_mem_take hn)).1
  rw [List.length_take, Nat.min_eq_left (by (first | lia | omega))] at h1
  have h3 : (2 : Int) ^ (w * k) * (ns[k] + 1 + 2 ^ w * val w (ms.drop (k + 1))) ≤ 2 ^ (w * k) * (ms[k] + 2 ^ w * val w (ms.drop (k + 1))) := Int.mul_le_mul_of_nonneg_left (by (first | lia | omega)) (Int.le_of_lt (two_pow_pos _))
  have h4 : (2 : Int) ^ (w * k) * (ns[k] + 1 + 2 ^ w * val w (ms.drop (k + 1))) = 2 ^ (w * k) * (ns[k] + 2 ^ w * val w (ms.drop (k + 1))) + 2 ^ (w * k) := by grind
  (first | lia | omega)
/-- which is the greater -/
def cmpI (x y : Nat) : Int := if x < y then -1 else if x = y then 0 else 1
theorem lt_of_len {w x y : Nat} (hw : 0 < w) (h : (row w x).length < (row w y).length) : x < y := by
  have hy : 0 < y := by
    rcases Nat.eq_zero_or_pos y with e | e
    · rw [e, row_zero] at h; simp at h
    · exact e
  have h1 := row_lt (x := x) hw
  have h2 := row_ge hw hy
  have h3 : 2 ^ (w * (row w x).length) ≤ 2 ^ (w * ((row w y).length - 1)) := Nat.pow_le_pow_right (by decide) (Nat.mul_le_mul_left _ (by (first | lia | omega)))
  (first | lia | omega)
theorem cmp_lt {x y : Nat} (h : x < y) : cmpI x y = -1 := if_pos h
theorem cmp_gt {x y : Nat} (h : y < x) : cmpI x y = 1 := by unfold cmpI; rw [if_neg (by (first | lia | omega)), if_neg (by (first | lia | omega))]
theorem cmp_eq {x y : Nat} (h : x = y) : cmpI x y = 0 := by unfold cmpI; rw [if_neg (by (first | lia | omega)), if_pos h]
theorem row_inj {w x y : Nat} (hw : 0 < w) (h : row w x = row w y) : x = y := by
  have h1 := val_row hw x
  have h2 := val_row hw y
  rw [h] at h1
  (first | lia | omega)
theorem lt_of_row {w x y : Nat} (hw : 0 < w) {k : Nat} (hk : k < (row w x).length) (hk' : k < (row w y).length) (e : (row w x).drop (k + 1) = (row w y).drop (k + 1)) (hd : (row w x)[k] < (row w y)[k]) : x < y := by
  have := lt_of_digit (dig_row hw x) (dig_row hw y) hk hk' e hd
  rw [val_row hw, val_row hw] at this
  (first | lia | omega)
theorem len64 {w x : Nat} (hw : 0 < w) (h : x < 2 ^ 64) : (row w x).length ≤ 64 :=
  row_len_le hw (Nat.lt_of_lt_of_le h (Nat.pow_le_pow_right (by decide) (by have := Nat.mul_le_mul_right 64 (show 1 ≤ w by (first | lia | omega)); (first | lia | omega))))
end Mine
end
section
namespace Mine
theorem Dig.take {w ns} (h : Dig w ns) (k : Nat) : Dig w (ns.take k) := fun n hn => h n (List.mem_of_mem_take hn)
theorem val_one (w : Nat) (n : Int) : val w [n] = n := by simp [val]
theorem val_snoc (w : Nat) (ns : List Int) (n : Int) : val w (ns ++ [n]) = val w ns + 2 ^ (w * ns.length) * n := by rw [val_append, val_one]
theorem take_snoc {ns : List Int} {k : Nat} (hk : k < ns.length) : ns.take (k + 1) = ns.take k ++ [ns[k]] := by rw [List.take_add_one, List.getElem?_eq_getElem hk]; rfl
theorem val_take_snoc {w : Nat} {ns : List Int} {k : Nat} (hk : k < ns.length) : val w (ns.take (k + 1)) = val w (ns.take k) + 2 ^ (w * k) * ns[k] := by
  rw [take_snoc hk, val_snoc, List.length_take, Nat.min_eq_left (by (first | lia | omega))]
/-- one turn of adding: a digit out, the rest carried -/
theorem carry_step {w : Nat} (c : Int) : 0 ≤ c % 2 ^ w ∧ c % 2 ^ w < 2 ^ w ∧ c % 2 ^ w + 2 ^ w * (c / 2 ^ w) = c :=
  ⟨Int.emod_nonneg _ (Int.ne_of_gt (two_pow_pos w)), Int.emod_lt_of_pos _ (two_pow_pos w), Int.emod_add_mul_ediv ..⟩
theorem pow_succ_len (w k : Nat) : (2 : Int) ^ (w * (k + 1)) = 2 ^ (w * k) * 2 ^ w := by rw [Nat.mul_add, Nat.mul_one, Int.pow_add]
theorem div_lt_two {w : Nat} {c : Int} (h0 : 0 ≤ c) (h : c < 2 * 2 ^ w) : 0 ≤ c / 2 ^ w ∧ c / 2 ^ w ≤ 1 := by
  have hB := two_pow_pos w
  constructor
  · exact Int.ediv_nonneg h0 (by (first | lia | omega))
  · have : c / 2 ^ w < 2 := Int.ediv_lt_of_lt_mul hB h
    (first | lia | omega)
/-- what the adding loop holds after i digits -/
structure AddInv (w : Nat) (a b : List Int) (i : Nat) (fs : List Int) (c : Int) : Prop where
  len : fs.length = i
  dig : Dig w fs
  c0 : 0 ≤ c
  c1 : c ≤ 1
  sum : val w fs + 2 ^ (w * i) * c = val w (a.take i) + val w (b.take i)
theorem AddInv.nil (w : Nat) (a b : List Int) : AddInv w a b 0 [] 0 := ⟨rfl, .nil, by (first | lia | omega), by (first | lia | omega), by simp [val]⟩
theorem AddInv.step {w : Nat} {a b fs : List Int} {i : Nat} {c d e : Int} (h : AddInv w a b i fs c) (hd : 0 ≤ d ∧ d < 2 ^ w) (he : 0 ≤ e ∧ e < 2 ^ w)
    (ha : val w (a.take (i + 1)) = val w (a.take i) + 2 ^ (w * i) * d) (hb : val w (b.take (i + 1)) = val w (b.take i) + 2 ^ (w * i) * e) :
    AddInv w a b (i + 1) (fs ++ [(c + (d + e)) % 2 ^ w]) ((c + (d + e)) / 2 ^ w) := by
  have := h.c0
  have := h.c1
  obtain ⟨h1, h2, h3⟩ := carry_step (w := w) (c + (d + e))
  obtain ⟨h4, h5⟩ := div_lt_two (w := w) (c := c + (d + e)) (by (first | lia | omega)) (by (first | lia | omega))
  refine ⟨by rw [List.length_append, h.len]; rfl, h.dig.append (.one ⟨h1, h2⟩), h4, h5, ?_⟩
  rw [val_snoc, h.len, ha, hb, pow_succ_len]
  have hs := h.sum
  have e1 : (2 : Int) ^ (w * i) * ((c + (d + e)) % 2 ^ w) + 2 ^ (w * i) * 2 ^ w * ((c + (d + e)) / 2 ^ w) = 2 ^ (w * i) * (c + (d + e)) := by
    conv => rhs; rw [← h3]
    grind
  have e2 : (2 : Int) ^ (w * i) * (c + (d + e)) = 2 ^ (w * i) * c + 2 ^ (w * i) * d + 2 ^ (w * i) * e := by grind
  (first | lia | omega)
theorem AddInv.fin {w x y : Nat} (hw : 0 < w) {fs : List Int} {c : Int} (h : AddInv w (row w x) (row w y) (row w x).length fs c) (hl : (row w y).length ≤ (row w x).length) :
    (if 0 < c then fs ++ [c] else fs) = row w (x + y) := by
  have hs := h.sum
  rw [List.take_length, List.take_of_length_le hl, val_row hw, val_row hw] at hs
  have h0 := h.c0
  have h1 := h.c1
  have hB := two_pow_pos w
  have key : ∀ ns : List Int, Dig w ns → (ns = [] ∨ 2 ^ (w * (ns.length - 1)) ≤ val w ns) → val w ns = x + y → ns = row w (x + y) := fun ns h1 h2 h3 => by
    have := row_of hw h1 h2
    rw [h3] at this
    rw [this]; congr 1
  by_cases hc : 0 < c
  · have : c = 1 := by (first | lia | omega)
    subst this
    rw [if_pos hc]
    refine key _ (h.dig.append (.one ⟨by (first | lia | omega), ?_⟩)) (.inr ?_) ?_
    · have : (2 : Int) ^ 1 ≤ 2 ^ w := by exact_mod_cast Nat.pow_le_pow_right (by decide) hw
      (first | lia | omega)
    · rw [val_snoc, List.length_append, h.len]
      have := (val_bounds h.dig).1
      simp
      (first | lia | omega)
    · rw [val_snoc, h.len]; (first | lia | omega)
  · have : c = 0 := by (first | lia | omega)
    subst this
    rw [if_neg hc]
    refine key _ h.dig ?_ (by (first | lia | omega))
    by_cases hx : x = 0
    · left
      have := h.len
      rw [hx, row_zero] at this
      exact List.eq_nil_of_length_eq_zero this
    · right
      have := row_ge hw (show 0 < x by (first | lia | omega))
      rw [h.len]
      have e := cast_pow (w * ((row w x).length - 1))
      (first | lia | omega)
theorem getElem_dig {w : Nat} {ns : List Int} (h : Dig w ns) {i : Nat} (hi : i < ns.length) : 0 ≤ ns[i] ∧ ns[i] < 2 ^ w := h _ (List.getElem_mem hi)
end Mine
end
section
open PySem PySem.W PyProof.Rows PySem.Calls
set_option Elab.async false
set_option linter.unusedVariables false
set_option linter.unusedSimpArgs false
set_option linter.unusedSectionVars false
set_option maxRecDepth 100000
set_option maxHeartbeats 4000000
namespace Mine
section
variable {w : World} {A : Around} {env : Env} {σ : Sg}
theorem T_not {b : Bool} {Q : Value → Sg → Prop} (h : Q (.bool (!b)) σ) : T w A env (unaryOp .Not (.bool b)) Q σ := by
  refine T.mk fun _ _ S => ?_
  exact wpAny_of_eq (a := .bool (!b)) (by rfl) (Fin.here S h)
theorem T_newNum {vs : List Value} {ns : List Int} {Q : Value → Sg → Prop} (hi : IntsAre vs ns) (hsz : vs.length ≤ 1000) (h : ∀ v, Q v { σ with fx := (v, .nums ns) :: σ.fx, fr := v :: σ.fr }) : T w A env (newList vs) Q σ := by
  refine T.mk fun h₀ s S => ?_
  refine wpAny_newList (Fin.mk (S.fixNew (d := .nums ns) (sub_push _ _) (none_at_end _) fun h2 k _ => ⟨vs, ⟨_, k _ (Heap.get?_push_size _ rfl), rfl, _, rfl⟩, hi⟩) (h _)) (by rw [sizeLine_eq]; (first | lia | omega))
def notSlice : Expr → Bool
  | .Slice .. => false
  | _ => true
theorem T_SubN {value slice : Expr} {pos : Pos} {Q : Value → Sg → Prop}
    (h : T w A env (eval value env) (fun o σ₁ => T w A env (eval slice env) (fun i σ₂ => T w A env (subscriptTail value slice o i) Q σ₂) σ₁) σ) (hn : notSlice slice = true := by decide +kernel) : T w A env (eval (.Subscript value slice pos) env) Q σ := T_Sub h

-- the same rules upon a state that is written out
section
variable {m : List (Str × AV)} {fx ow : List (Value × D)} {fr : List Value} {k : Nat} {f : Addr} {args : List Value} {reads : List (Value × D)} {Q : Value → Sg → Prop}
theorem T_pn {ns : List Int} (C : Pure w k f args reads (.nums ns)) (hA : Room A k) (hr : ∀ p ∈ reads, (⟨m, fx, fr, ow⟩ : Sg).Has p.1 p.2) (h : ∀ v, Q v ⟨m, (v, .nums ns) :: fx, v :: fr, ow⟩) : T w A env (call (.ref f) args) Q ⟨m, fx, fr, ow⟩ := T_pure_n C hA hr h
theorem T_pr {rs : List (List Int)} (C : Pure w k f args reads (.rows rs)) (hA : Room A k) (hr : ∀ p ∈ reads, (⟨m, fx, fr, []⟩ : Sg).Has p.1 p.2) (h : ∀ v, Q v ⟨m, (v, .rows rs) :: fx, fr, []⟩) : T w A env (call (.ref f) args) Q ⟨m, fx, fr, []⟩ := T_pure_r C hA hr rfl h
theorem T_ir {value slice : Expr} {v : Value} {rs : List (List Int)} {k : Int} {r : List Int} {u : Tok} (hx : (v, .rows rs) ∈ fx ∨ (v, .rows rs) ∈ ow) (h0 : 0 ≤ k) (hfit : k < 2 ^ 63) (hg : rs[k.toNat]? = some r) (h : ∀ y, Q y ⟨m, (y, .nums r) :: fx, fr, ow⟩)
    (hs : ∀ a, subscripted slice false (.ref a) (.int k u) = operate [.ref a, .int k u] (getItem (.ref a) (.int k u)) := by intro _; kernel_rfl) : T w A env (subscriptTail value slice v (.int k u)) Q ⟨m, fx, fr, ow⟩ := T_itemRows hx h0 hfit hg h hs
theorem T_sr {v y : Value} {rs : List (List Int)} {r : List Int} {k : Int} {u : Tok} {ow' : List (Value × D)} {Q : Unit → Sg → Prop} (hy : (y, .nums r) ∈ fx) (c : Chg v (.rows rs) (.rows (rs.set k.toNat r)) ow ow') (h0 : 0 ≤ k) (hk : k < rs.length) (hfit : k < 2 ^ 63)
    (h : Q () ⟨m, fx, fr, ow'⟩) : T w A env (setItem v (.int k u) y) Q ⟨m, fx, fr, ow⟩ := T_setRow hy c h0 hk hfit h
end
end
end Mine
end
section
open PySem PySem.W PyProof.Rows PySem.Calls
set_option Elab.async false
set_option linter.unusedVariables false
set_option linter.unusedSimpArgs false
set_option linter.unusedSectionVars false
set_option maxRecDepth 100000
set_option maxHeartbeats 4000000
namespace Mine
-- named continuations, so that what stays is written once
section
variable {w : World} {A : Around} {env : Env} {σ : Sg}
def Then (w : World) (A : Around) (env : Env) (rest : List Stmt) (Q : Flow → Sg → Prop) (f : Flow) (σ : Sg) : Prop := match f with
  | .next => T w A env (execs rest env) Q σ
  | f => Q f σ
theorem Then.n {rest Q} (h : T w A env (execs rest env) Q σ) : Then w A env rest Q .next σ := h
theorem Then.r {rest Q v} (h : Q (.ret v) σ) : Then w A env rest Q (.ret v) σ := h
theorem Then.b {rest Q} (h : Q .brk σ) : Then w A env rest Q .brk σ := h
theorem Then.c {rest Q} (h : Q .cont σ) : Then w A env rest Q .cont σ := h
theorem X_one {st : Stmt} {Q : Flow → Sg → Prop} (h : T w A env (exec st env) Q σ) : T w A env (execs [st] env) Q σ :=
  T_execs_cons (h.mono fun f σ' q => by
    cases f with
    | next => exact T_execs_nil q
    | _ => exact q)
theorem X_cons {st : Stmt} {rest : List Stmt} {Q : Flow → Sg → Prop} (h : T w A env (exec st env) (Then w A env rest Q) σ) : T w A env (execs (st :: rest) env) Q σ :=
  T_execs_cons (h.mono fun f σ' q => by cases f <;> exact q)
/-- what a value is stored by -/
def Sto (w : World) (A : Around) (env : Env) (x : Str) (Q : Flow → Sg → Prop) (v : Value) (σ : Sg) : Prop := T w A env (storeName env x v) (fun _ σ₂ => Q .next σ₂) σ
def Rets (Q : Flow → Sg → Prop) (v : Value) (σ : Sg) : Prop := Q (.ret v) σ
theorem Rets.go {Q v} (h : Q (.ret v) σ) : Rets Q v σ := h
theorem X_Return {e : Expr} {pos : Pos} {Q : Flow → Sg → Prop} (h : T w A env (eval e env) (Rets Q) σ) : T w A env (exec (.Return (some e) pos) env) Q σ := T_Return h
theorem X_Assign {x : Str} {px : Pos} {value : Expr} {pos : Pos} {Q : Flow → Sg → Prop} (h : T w A env (eval value env) (Sto w A env x Q) σ)
    (hs : swapsWith value (some (.Name x px)) pos.line env = pure false := by kernel_rfl) : T w A env (exec (.Assign [.Name x px] value pos) env) Q σ := T_Assign h hs
section
variable {x : Str} {m m' : List (Str × AV)} {fx ow : List (Value × D)} {fr : List Value} {Q : Flow → Sg → Prop}
theorem Sto.i {n : Int} {t : Tok} (p : Put x (.i n) m m') (h : Q .next ⟨m', fx, fr, ow⟩) (hl : env.kindOf x = some .local := by kernel_rfl) : Sto w A env x Q (.int n t) ⟨m, fx, fr, ow⟩ := T_sti p h hl
theorem Sto.b {n : Bool} (p : Put x (.b n) m m') (h : Q .next ⟨m', fx, fr, ow⟩) (hl : env.kindOf x = some .local := by kernel_rfl) : Sto w A env x Q (.bool n) ⟨m, fx, fr, ow⟩ := T_stb p h hl
theorem Sto.v {v : Value} (p : Put x (.v v) m m') (h : Q .next ⟨m', fx, fr, ow⟩) (hl : env.kindOf x = some .local := by kernel_rfl) : Sto w A env x Q v ⟨m, fx, fr, ow⟩ := T_stv p h hl
theorem Sto.ci {n : Int} {t : Tok} (p : Put x (.i n) m m') (h : Q .next ⟨m', fx, fr, ow⟩) (hl : env.kindOf x = some .cell := by kernel_rfl) (hc : (env.cells.lookup x).isSome = true := by kernel_rfl) : Sto w A env x Q (.int n t) ⟨m, fx, fr, ow⟩ := T_stci p h hl hc
theorem Sto.cv {v : Value} (p : Put x (.v v) m m') (h : Q .next ⟨m', fx, fr, ow⟩) (hl : env.kindOf x = some .cell := by kernel_rfl) (hc : (env.cells.lookup x).isSome = true := by kernel_rfl) : Sto w A env x Q v ⟨m, fx, fr, ow⟩ := T_stcv p h hl hc
end
/-- the two ways of a test -/
def Br (w : World) (A : Around) (env : Env) (body orelse : List Stmt) (Q : Flow → Sg → Prop) (b : Bool) (σ : Sg) : Prop :=
  (b = true → T w A env (execs body env) Q σ) ∧ (b = false → T w A env (execs orelse env) Q σ)
theorem Br.mk {body orelse Q b} (h1 : b = true → T w A env (execs body env) Q σ) (h2 : b = false → T w A env (execs orelse env) Q σ) : Br w A env body orelse Q b σ := ⟨h1, h2⟩
theorem X_If {test : Expr} {body orelse : List Stmt} {pos : Pos} {Q : Flow → Sg → Prop} (h : T w A env (isTrue test env (eval test env)) (Br w A env body orelse Q) σ) :
    T w A env (exec (.If test body orelse pos) env) Q σ := T_If h
def BrE (w : World) (A : Around) (env : Env) (body orelse : Expr) (Q : Value → Sg → Prop) (b : Bool) (σ : Sg) : Prop :=
  (b = true → T w A env (eval body env) Q σ) ∧ (b = false → T w A env (eval orelse env) Q σ)
theorem BrE.mk {body orelse Q b} (h1 : b = true → T w A env (eval body env) Q σ) (h2 : b = false → T w A env (eval orelse env) Q σ) : BrE w A env body orelse Q b σ := ⟨h1, h2⟩
theorem X_IfExp {test body orelse : Expr} {pos : Pos} {Q : Value → Sg → Prop} (h : T w A env (isTrue test env (eval test env)) (BrE w A env body orelse Q) σ) :
    T w A env (eval (.IfExp test body orelse pos) env) Q σ := T_IfExp h

-- expressions that change nothing
/-- e has the value av, and the state stays -/
def EV (w : World) (A : Around) (env : Env) (σ : Sg) (e : Expr) (av : AV) : Prop := ∀ Q : Value → Sg → Prop, (∀ v, av.Is v → Q v σ) → T w A env (eval e env) Q σ
def okName (x : Str) (av : AV) : Bool := !(x == ("__debug__" : Str)) && !(x == ("__classdict__" : Str)) && match av with | .un => false | _ => true
theorem okName_iff {x av} (h : okName x av = true) : (x == ("__debug__" : Str)) = false ∧ (x == ("__classdict__" : Str)) = false ∧ av ≠ .un := by
  unfold okName at h
  simp only [Bool.and_eq_true, Bool.not_eq_true'] at h
  exact ⟨h.1.1, h.1.2, fun e => by subst e; cases h.2⟩
theorem EV_name {x : Str} {pos : Pos} {av : AV} (hm : (x, av) ∈ σ.m) (hx : okName x av = true := by kernel_rfl) : EV w A env σ (.Name x pos) av := fun Q h =>
  have k := okName_iff hx
  T_ld hm k.2.2 h k.1 k.2.1
theorem EV_int {i : Int} {k : Nat} {pos : Pos} : EV w A env σ (.Constant (.int i) k pos) (.i i) := fun Q h => T_int fun t => h _ ⟨t, rfl⟩
theorem EV_neg {e : Expr} {a : Int} {pos : Pos} (h : EV w A env σ e (.i a)) : EV w A env σ (.UnaryOp .USub e pos) (.i (-a)) := fun Q k =>
  T_UnaryOp (h _ fun v ⟨t, e⟩ => by subst e; exact T_neg fun t => k _ ⟨t, rfl⟩)
theorem EV_add {l r : Expr} {a b : Int} {pos : Pos} (hl : EV w A env σ l (.i a)) (hr : EV w A env σ r (.i b)) : EV w A env σ (.BinOp l .Add r pos) (.i (a + b)) := fun Q k =>
  T_BinOp (hl _ fun v ⟨t, e⟩ => by subst e; exact hr _ fun u ⟨t', e'⟩ => by subst e'; exact T_add fun t => k _ ⟨t, rfl⟩)
theorem EV_sub {l r : Expr} {a b : Int} {pos : Pos} (hl : EV w A env σ l (.i a)) (hr : EV w A env σ r (.i b)) : EV w A env σ (.BinOp l .Sub r pos) (.i (a - b)) := fun Q k =>
  T_BinOp (hl _ fun v ⟨t, e⟩ => by subst e; exact hr _ fun u ⟨t', e'⟩ => by subst e'; exact T_sub fun t => k _ ⟨t, rfl⟩)
theorem T_evi {e : Expr} {n : Int} {Q : Value → Sg → Prop} (h : EV w A env σ e (.i n)) (k : ∀ t, Q (.int n t) σ) : T w A env (eval e env) Q σ := h Q fun v ⟨t, e⟩ => e ▸ k t
theorem T_evv {e : Expr} {u : Value} {Q : Value → Sg → Prop} (h : EV w A env σ e (.v u)) (k : Q u σ) : T w A env (eval e env) Q σ := h Q fun v e => (show v = u from e) ▸ k
theorem T_evb {e : Expr} {b : Bool} {Q : Value → Sg → Prop} (h : EV w A env σ e (.b b)) (k : Q (.bool b) σ) : T w A env (eval e env) Q σ := h Q fun v e => (show v = .bool b from e) ▸ k
/-- the test e turns out as b, and the state stays -/
def BV (w : World) (A : Around) (env : Env) (σ : Sg) (e : Expr) (b : Bool) : Prop := ∀ (whole : Sem Value) (Q : Bool → Sg → Prop), Q b σ → T w A env (isTrue e env whole) Q σ
section
variable {l r : Expr} {a b : Int} {pos : Pos}
theorem BV_cmp {op : CmpOp} {c : Bool} (hl : EV w A env σ l (.i a)) (hr : EV w A env σ r (.i b)) (hc : ∀ (t u : Tok) (Q : Value → Sg → Prop), Q (.bool c) σ → T w A env (compareOp op (.int a t) (.int b u)) Q σ) (hm : behindInMarks op r = false) :
    BV w A env σ (.Compare l [op] [r] pos) c := fun whole Q k =>
  T_isTrue_Cmp (hl _ fun v ⟨t, e⟩ => by subst e; exact hr _ fun u ⟨t', e'⟩ => by subst e'; exact hc _ _ _ (T_truthy_bool k)) hm
theorem BV_lt (hl : EV w A env σ l (.i a)) (hr : EV w A env σ r (.i b)) (hm : behindInMarks .Lt r = false := by kernel_rfl) : BV w A env σ (.Compare l [.Lt] [r] pos) (decide (a < b)) := BV_cmp hl hr (fun _ _ _ k => T_lt k) hm
theorem BV_gt (hl : EV w A env σ l (.i a)) (hr : EV w A env σ r (.i b)) (hm : behindInMarks .Gt r = false := by kernel_rfl) : BV w A env σ (.Compare l [.Gt] [r] pos) (decide (b < a)) := BV_cmp hl hr (fun _ _ _ k => T_gt k) hm
theorem BV_ge (hl : EV w A env σ l (.i a)) (hr : EV w A env σ r (.i b)) (hm : behindInMarks .GtE r = false := by kernel_rfl) : BV w A env σ (.Compare l [.GtE] [r] pos) (decide (b ≤ a)) := BV_cmp hl hr (fun _ _ _ k => T_ge k) hm
theorem T_bv {e : Expr} {c : Bool} {whole : Sem Value} {Q : Bool → Sg → Prop} (h : BV w A env σ e c) (k : Q c σ) : T w A env (isTrue e env whole) Q σ := h whole Q k
end
def notStar : Expr → Bool
  | .Starred .. => false
  | _ => true
theorem notStar_eq {e : Expr} {r : List Expr} (h : notStar e = true) : starEach (e :: r) env = (false, eval e env) :: starEach r env := by
  cases e <;> first | rfl | exact nomatch h
def ArgsK (v : Value) (Q : List Value → Sg → Prop) (vs : List Value) (σ : Sg) : Prop := Q (v :: vs) σ
def Arg1 (w : World) (A : Around) (env : Env) (pos : Pos) (rest : List Expr) (Q : List Value → Sg → Prop) (v : Value) (σ : Sg) : Prop := T w A env (spliced (backTo pos (starEach rest env))) (ArgsK v Q) σ
theorem ArgsK.go {v vs Q} (h : Q (v :: vs) σ) : ArgsK v Q vs σ := h
theorem Arg1.go {pos rest Q v} (h : T w A env (spliced (backTo pos (starEach rest env))) (ArgsK v Q) σ) : Arg1 w A env pos rest Q v σ := h
theorem X_spc {pos : Pos} {e : Expr} {rest : List Expr} {Q : List Value → Sg → Prop} (h : T w A env (eval e env) (Arg1 w A env pos rest Q) σ) (hs : notStar e = true := by kernel_rfl) :
    T w A env (spliced (backTo pos (starEach (e :: rest) env))) Q σ := T_sp_cons h (notStar_eq hs)
/-- the call itself -/
def CallK (w : World) (A : Around) (env : Env) (f : Value) (Q : Value → Sg → Prop) (vs : List Value) (σ : Sg) : Prop := T w A env (call f vs) Q σ
theorem CallK.go {f vs Q} (h : T w A env (call f vs) Q σ) : CallK w A env f Q vs σ := h
def calleeOk (x : Str) (f : Value) : Bool := match f with
  | .ref a => gtab.lookup x == some (.ref a) && fns.contains a
  | .builtin b => btab.lookup x == some (.builtin b)
  | .type b => btab.lookup x == some (.type b)
  | _ => false
def callOk (x : Str) (f : Value) (env : Env) (es : List Expr) : Bool := calleeOk x f && env.kindOf x == some .globalImplicit && !(x == ("__debug__" : Str)) && !es.isEmpty && es.all notStar
theorem anyStar {pos : Pos} : ∀ {es : List Expr}, es.all notStar = true → (backTo pos (starEach es env)).any (·.1) = false
  | [], _ => rfl
  | e :: r, h => by
    rw [List.all_cons, Bool.and_eq_true] at h
    rw [notStar_eq h.1]
    exact anyStar h.2
theorem X_call {x : Str} {p1 pos : Pos} {es : List Expr} {Q : Value → Sg → Prop} (f : Value) (h : T w A env (spliced (backTo pos (starEach es env))) (CallK w A env f Q) σ) (hc : callOk x f env es = true := by kernel_rfl) :
    T w A env (eval (.Call (.Name x p1) es [] pos) env) Q σ := by
  unfold callOk at hc
  simp only [Bool.and_eq_true, Bool.not_eq_true', beq_iff_eq] at hc
  obtain ⟨⟨⟨⟨c, hx⟩, hd⟩, he⟩, hs⟩ := hc
  cases es with
  | nil => cases he
  | cons e rest =>
    rw [List.all_cons, Bool.and_eq_true] at hs
    refine T_Call ?_ (by rfl)
    unfold calleeOk at c
    split at c
    · rw [Bool.and_eq_true] at c
      exact T_glob (eq_of_beq c.1) (T_callWith_fn (List.contains_iff_mem.mp c.2) h (notStar_eq hs.1)) hx hd
    · exact T_bi (eq_of_beq c) (T_callWith_bi h (notStar_eq hs.1) (anyStar hs.2)) hx hd
    · exact T_bi (eq_of_beq c) (T_callWith_ty h (notStar_eq hs.1) (anyStar hs.2)) hx hd
    · cases c
/-- what the names of defs and of built-in functions stand for -/
def ctab : List (Str × Value) := ("len", .builtin "len") :: ("abs", .builtin "abs") :: ("sum", .builtin "sum") :: ("range", .type "range") :: ("int", .type "int") :: gtab
theorem X_callT {x : Str} {p1 pos : Pos} {es : List Expr} {Q : Value → Sg → Prop} {f : Value} (h : T w A env (spliced (backTo pos (starEach es env))) (CallK w A env f Q) σ) (hf : ctab.lookup x = some f := by with_unfolding_all rfl)
    (hc : callOk x f env es = true := by kernel_rfl) : T w A env (eval (.Call (.Name x p1) es [] pos) env) Q σ := X_call f h hc
/-- what a list is made of -/
def NewK (w : World) (A : Around) (env : Env) (Q : Value → Sg → Prop) (vs : List Value) (σ : Sg) : Prop := T w A env (newList vs) Q σ
theorem NewK.go {vs Q} (h : T w A env (newList vs) Q σ) : NewK w A env Q vs σ := h
theorem X_List {elts : List Expr} {pos : Pos} {Q : Value → Sg → Prop} (h : T w A env (spliced (backTo pos (starEach elts env))) (NewK w A env Q) σ) : T w A env (eval (.List elts pos) env) Q σ := T_List h
-- operators
def Bin1 (w : World) (A : Around) (env : Env) (r : Expr) (op : Operator) (Q : Value → Sg → Prop) (a : Value) (σ : Sg) : Prop := T w A env (eval r env) (fun b σ₂ => T w A env (binaryOp op a b) Q σ₂) σ
def Bin2 (w : World) (A : Around) (env : Env) (op : Operator) (a : Value) (Q : Value → Sg → Prop) (b : Value) (σ : Sg) : Prop := T w A env (binaryOp op a b) Q σ
theorem Bin1.go {r op Q a} (h : T w A env (eval r env) (Bin2 w A env op a Q) σ) : Bin1 w A env r op Q a σ := h
theorem Bin2.go {op Q a b} (h : T w A env (binaryOp op a b) Q σ) : Bin2 w A env op a Q b σ := h
theorem X_BinOp {l : Expr} {op : Operator} {r : Expr} {pos : Pos} {Q : Value → Sg → Prop} (h : T w A env (eval l env) (Bin1 w A env r op Q) σ) : T w A env (eval (.BinOp l op r pos) env) Q σ := T_BinOp h
def Cmp1 (w : World) (A : Around) (env : Env) (r : Expr) (op : CmpOp) (Q : Value → Sg → Prop) (a : Value) (σ : Sg) : Prop := T w A env (eval r env) (fun b σ₂ => T w A env (compareOp op a b) Q σ₂) σ
def Cmp2 (w : World) (A : Around) (env : Env) (op : CmpOp) (a : Value) (Q : Value → Sg → Prop) (b : Value) (σ : Sg) : Prop := T w A env (compareOp op a b) Q σ
theorem Cmp1.go {r op Q a} (h : T w A env (eval r env) (Cmp2 w A env op a Q) σ) : Cmp1 w A env r op Q a σ := h
theorem Cmp2.go {op Q a b} (h : T w A env (compareOp op a b) Q σ) : Cmp2 w A env op a Q b σ := h
def Tru (w : World) (A : Around) (env : Env) (Q : Bool → Sg → Prop) (v : Value) (σ : Sg) : Prop := T w A env (truthy v) Q σ
theorem Tru.b {Q b} (h : Q b σ) : Tru w A env Q (.bool b) σ := T_truthy_bool h
theorem X_Cmp {l : Expr} {op : CmpOp} {r : Expr} {pos : Pos} {Q : Value → Sg → Prop} (h : T w A env (eval l env) (Cmp1 w A env r op Q) σ) (hm : behindInMarks op r = false := by kernel_rfl) : T w A env (eval (.Compare l [op] [r] pos) env) Q σ := T_Cmp h hm
theorem X_isTrue_Cmp {l : Expr} {op : CmpOp} {r : Expr} {pos : Pos} {whole : Sem Value} {Q : Bool → Sg → Prop} (h : T w A env (eval l env) (Cmp1 w A env r op (Tru w A env Q)) σ) (hm : behindInMarks op r = false := by kernel_rfl) :
    T w A env (isTrue (.Compare l [op] [r] pos) env whole) Q σ := T_isTrue_Cmp h hm
def NotK (Q : Bool → Sg → Prop) (b : Bool) (σ : Sg) : Prop := Q (!b) σ
theorem NotK.go {Q b} (h : Q (!b) σ) : NotK Q b σ := h
theorem X_isTrue_Not {x : Expr} {pos : Pos} {whole : Sem Value} {Q : Bool → Sg → Prop} (h : T w A env (isTrue x env (eval x env)) (NotK Q) σ) : T w A env (isTrue (.UnaryOp .Not x pos) env whole) Q σ := T_isTrue_Not h
-- items
def Sub1 (w : World) (A : Around) (env : Env) (value slice : Expr) (Q : Value → Sg → Prop) (o : Value) (σ : Sg) : Prop := T w A env (eval slice env) (fun i σ₂ => T w A env (subscriptTail value slice o i) Q σ₂) σ
def Sub2 (w : World) (A : Around) (env : Env) (value slice : Expr) (o : Value) (Q : Value → Sg → Prop) (i : Value) (σ : Sg) : Prop := T w A env (subscriptTail value slice o i) Q σ
theorem Sub1.go {value slice Q o} (h : T w A env (eval slice env) (Sub2 w A env value slice o Q) σ) : Sub1 w A env value slice Q o σ := h
theorem Sub2.go {value slice Q o i} (h : T w A env (subscriptTail value slice o i) Q σ) : Sub2 w A env value slice o Q i σ := h
theorem X_SubN {value slice : Expr} {pos : Pos} {Q : Value → Sg → Prop} (h : T w A env (eval value env) (Sub1 w A env value slice Q) σ) (hn : notSlice slice = true := by decide +kernel) : T w A env (eval (.Subscript value slice pos) env) Q σ := T_SubN h hn
theorem T_nmi {x : Str} {pos : Pos} {n : Int} {Q : Value → Sg → Prop} (hm : (x, .i n) ∈ σ.m) (k : ∀ t, Q (.int n t) σ) (hx : okName x (.i n) = true := by kernel_rfl) : T w A env (eval (.Name x pos) env) Q σ := T_evi (EV_name hm hx) k
theorem T_nmv {x : Str} {pos : Pos} {u : Value} {Q : Value → Sg → Prop} (hm : (x, .v u) ∈ σ.m) (k : Q u σ) (hx : okName x (.v u) = true := by kernel_rfl) : T w A env (eval (.Name x pos) env) Q σ := T_evv (EV_name hm hx) k
theorem T_nmb {x : Str} {pos : Pos} {b : Bool} {Q : Value → Sg → Prop} (hm : (x, .b b) ∈ σ.m) (k : Q (.bool b) σ) (hx : okName x (.b b) = true := by kernel_rfl) : T w A env (eval (.Name x pos) env) Q σ := T_evb (EV_name hm hx) k
/-- a store, and what comes behind it -/
def StU (w : World) (A : Around) (env : Env) (x : Str) (v : Value) (K : Sg → Prop) (σ : Sg) : Prop := T w A env (storeName env x v) (fun _ σ' => K σ') σ
section
variable {x : Str} {m m' : List (Str × AV)} {fx ow : List (Value × D)} {fr : List Value} {K : Sg → Prop}
theorem StU.i {n : Int} {t : Tok} (p : Put x (.i n) m m') (h : K ⟨m', fx, fr, ow⟩) (hl : env.kindOf x = some .local := by kernel_rfl) : StU w A env x (.int n t) K ⟨m, fx, fr, ow⟩ := T_sti p h hl
theorem StU.b {n : Bool} (p : Put x (.b n) m m') (h : K ⟨m', fx, fr, ow⟩) (hl : env.kindOf x = some .local := by kernel_rfl) : StU w A env x (.bool n) K ⟨m, fx, fr, ow⟩ := T_stb p h hl
theorem StU.v {v : Value} (p : Put x (.v v) m m') (h : K ⟨m', fx, fr, ow⟩) (hl : env.kindOf x = some .local := by kernel_rfl) : StU w A env x v K ⟨m, fx, fr, ow⟩ := T_stv p h hl
end
def Pair2 (w : World) (A : Around) (env : Env) (x1 x2 : Str) (Q : Flow → Sg → Prop) (vs : List Value) (σ : Sg) : Prop := ∃ v1 v2, vs = [v1, v2] ∧ StU w A env x2 v2 (StU w A env x1 v1 (Q .next)) σ
theorem Pair2.go {x1 x2 Q v1 v2} (h : StU w A env x2 v2 (StU w A env x1 v1 (Q .next)) σ) : Pair2 w A env x1 x2 Q [v1, v2] σ := ⟨_, _, rfl, h⟩
def Pair3 (w : World) (A : Around) (env : Env) (x1 x2 x3 : Str) (Q : Flow → Sg → Prop) (vs : List Value) (σ : Sg) : Prop := ∃ v1 v2 v3, vs = [v1, v2, v3] ∧ StU w A env x3 v3 (StU w A env x2 v2 (StU w A env x1 v1 (Q .next))) σ
theorem Pair3.go {x1 x2 x3 Q v1 v2 v3} (h : StU w A env x3 v3 (StU w A env x2 v2 (StU w A env x1 v1 (Q .next))) σ) : Pair3 w A env x1 x2 x3 Q [v1, v2, v3] σ := ⟨_, _, _, rfl, h⟩
def Pair4 (w : World) (A : Around) (env : Env) (x1 x2 x3 x4 : Str) (Q : Flow → Sg → Prop) (vs : List Value) (σ : Sg) : Prop := ∃ v1 v2 v3 v4, vs = [v1, v2, v3, v4] ∧ StU w A env x1 v1 (StU w A env x2 v2 (StU w A env x3 v3 (StU w A env x4 v4 (Q .next)))) σ
theorem Pair4.go {x1 x2 x3 x4 Q v1 v2 v3 v4} (h : StU w A env x1 v1 (StU w A env x2 v2 (StU w A env x3 v3 (StU w A env x4 v4 (Q .next)))) σ) : Pair4 w A env x1 x2 x3 x4 Q [v1, v2, v3, v4] σ := ⟨_, _, _, _, rfl, h⟩
section
variable {x1 x2 x3 x4 : Str} {p1 p2 p3 p4 tp vp pos : Pos} {k k' : Nat} {e1 e2 e3 e4 : Expr} {Q : Flow → Sg → Prop}
theorem X_assign2 (hh : A.handled = none) (h : T w A env (spliced (backTo vp (starEach [e1, e2] env))) (Pair2 w A env x1 x2 Q) σ)
    (hs : swapsWithSole [.Tuple [.Name x1 p1, .Name x2 p2] k tp] (.Tuple [e1, e2] k' vp) pos.line env = pure false := by kernel_rfl)
    (hw : swappedStores [.Tuple [.Name x1 p1, .Name x2 p2] k tp] (.Tuple [e1, e2] k' vp) env = pure (some [x1, x2]) := by kernel_rfl) :
    T w A env (exec (.Assign [.Tuple [.Name x1 p1, .Name x2 p2] k tp] (.Tuple [e1, e2] k' vp) pos) env) Q σ := T_assign2 hh h hs hw
theorem X_assign3 (hh : A.handled = none) (h : T w A env (spliced (backTo vp (starEach [e1, e2, e3] env))) (Pair3 w A env x1 x2 x3 Q) σ)
    (hs : swapsWithSole [.Tuple [.Name x1 p1, .Name x2 p2, .Name x3 p3] k tp] (.Tuple [e1, e2, e3] k' vp) pos.line env = pure false := by kernel_rfl)
    (hw : swappedStores [.Tuple [.Name x1 p1, .Name x2 p2, .Name x3 p3] k tp] (.Tuple [e1, e2, e3] k' vp) env = pure (some [x1, x2, x3]) := by kernel_rfl) :
    T w A env (exec (.Assign [.Tuple [.Name x1 p1, .Name x2 p2, .Name x3 p3] k tp] (.Tuple [e1, e2, e3] k' vp) pos) env) Q σ := T_assign3 hh h hs hw
theorem X_assign4 (hh : A.handled = none) (h : T w A env (spliced (backTo vp (starEach [e1, e2, e3, e4] env))) (Pair4 w A env x1 x2 x3 x4 Q) σ)
    (hs : swapsWithSole [.Tuple [.Name x1 p1, .Name x2 p2, .Name x3 p3, .Name x4 p4] k tp] (.Tuple [e1, e2, e3, e4] k' vp) pos.line env = pure false := by kernel_rfl)
    (hw : swappedStores [.Tuple [.Name x1 p1, .Name x2 p2, .Name x3 p3, .Name x4 p4] k tp] (.Tuple [e1, e2, e3, e4] k' vp) env = pure none := by kernel_rfl) :
    T w A env (exec (.Assign [.Tuple [.Name x1 p1, .Name x2 p2, .Name x3 p3, .Name x4 p4] k tp] (.Tuple [e1, e2, e3, e4] k' vp) pos) env) Q σ := T_assign4 hh h hs hw
end
def Inp (w : World) (A : Around) (env : Env) (op : Operator) (x : Str) (a : Value) (Q : Flow → Sg → Prop) (b : Value) (σ : Sg) : Prop := T w A env (inplaceOp op a b) (fun r σ₃ => Sto w A env x Q r σ₃) σ
theorem Inp.go {op x a Q b} (h : T w A env (inplaceOp op a b) (Sto w A env x Q) σ) : Inp w A env op x a Q b σ := h
theorem X_aug {x : Str} {px : Pos} {op : Operator} {value : Expr} {pos : Pos} {a : Int} {Q : Flow → Sg → Prop} (hm : (x, .i a) ∈ σ.m) (h : ∀ t, T w A env (eval value env) (Inp w A env op x (.int a t) Q) σ) (hx : okName x (.i a) = true := by kernel_rfl) :
    T w A env (exec (.AugAssign (.Name x px) op value pos) env) Q σ := T_AugAssign (T_ldni hm h (okName_iff hx).2.1)
end
end Mine
end
section
open PySem PySem.W PyProof.Rows PySem.Calls
set_option Elab.async false
set_option linter.unusedVariables false
set_option linter.unusedSimpArgs false
set_option linter.unusedSectionVars false
set_option maxRecDepth 100000
set_option maxHeartbeats 4000000
namespace Mine
theorem drop_zero_step {ns : List Int} {e : Nat} (h : ∀ m ∈ ns.drop (e + 1), m = 0) (h0 : ns[e]? = some 0) : ∀ m ∈ ns.drop e, m = 0 := by
  obtain ⟨hl, h1⟩ := List.getElem?_eq_some_iff.mp h0
  rw [List.drop_eq_getElem_cons hl]
  intro m hm
  rcases List.mem_cons.mp hm with rfl | hm
  · exact h1
  · exact h m hm
theorem val_zero {w : Nat} {ns : List Int} (h : ∀ m ∈ ns, m = 0) : val w ns = 0 := by
  induction ns with
  | nil => rfl
  | cons n r ih => rw [val, ih fun m hm => h m (.tail _ hm), h n (.head _)]; simp
theorem take_row {w : Nat} (hw : 0 < w) {ns : List Int} (hd : Dig w ns) {e : Nat} (he : e ≤ ns.length) (h : ∀ m ∈ ns.drop e, m = 0) (hl : e = 0 ∨ ∃ m, ns[e - 1]? = some m ∧ m ≠ 0) : ns.take e = row w (val w ns).toNat := by
  have e1 : val w ns = val w (ns.take e) := by
    conv => lhs; rw [← List.take_append_drop e ns]
    rw [val_append, val_zero h]; simp
  rw [e1]
  refine row_uniq hw (fun n hn => hd n (List.mem_of_mem_take hn)) fun m hm => ?_
  rcases hl with rfl | ⟨m', h1, h2⟩
  · simp at hm
  · have : (ns.take e).getLast? = ns[e - 1]? := by
      rw [List.getLast?_eq_getElem?, List.length_take, Nat.min_eq_left he, List.getElem?_take]
      by_cases h0 : e = 0
      · subst h0
        simp at hm
      · rw [if_pos (by (first | lia | omega))]
    rw [this, h1] at hm
    cases hm; exact h2
theorem pick_upto (ns : List Int) (n : Nat) : pickNums ns none (some (n : Int)) none = ns.take n := by
  have e : sliceBounds none (some (n : Int)) none ns.length = (((0 : Nat) : Int), ((min n ns.length : Nat) : Int), 1) := by
    simp only [sliceBounds, Option.getD_none]
    have h2 : ¬ ((n : Int) < 0) := by (first | lia | omega)
    simp only [h2, if_false, show (1 : Int) > 0 by decide, if_true]
    congr 1
    congr 1; (first | lia | omega)
  unfold pickNums
  rw [e]
  simp only [sliceRange_one]
  have := pick_run (ns.toArray) 0 (min n ns.length - 0)
  simp only [List.getElem?_toArray] at this
  rw [this]
  simp

theorem range_dn {n : Nat} (hn : n ≤ 1000) : Builtin.Range.small ((n : Int) - 1) (-1) (-1) = true ∧ Builtin.Range.rangeSize ((n : Int) - 1) (-1) (-1) = n := by
  have e : Builtin.Range.rangeSize ((n : Int) - 1) (-1) (-1) = n := by
    unfold Builtin.Range.rangeSize
    rw [if_neg (by decide)]
    simp only [Int.neg_neg, Int.ediv_one]
    split <;> (first | lia | omega)
  refine ⟨?_, e⟩
  unfold Builtin.Range.small
  rw [e]
  simp only [Builtin.Range.rangeFitsLong, Bool.and_eq_true, Bool.or_eq_true, decide_eq_true_eq, beq_iff_eq, show ¬ ((-1 : Int) > 0) by decide, if_false]
  refine ⟨⟨⟨⟨?_, ?_⟩, ?_⟩, ?_⟩, ?_⟩ <;> first | (first | lia | omega) | (right; (first | lia | omega)) | decide

theorem bitAnd_mask {c : Int} (h : 0 ≤ c) (w : Nat) : Builtin.bitAnd c (2 ^ w - 1) = c % 2 ^ w := by
  have h1 := two_pow_pos w
  rw [bitAnd_pp h (by (first | lia | omega))]
  have e : ((2 : Int) ^ w - 1).toNat = 2 ^ w - 1 := by
    have := cast_pow w
    (first | lia | omega)
  rw [e, Nat.and_two_pow_sub_one_eq_mod]
  have e2 : c = (c.toNat : Int) := (Int.toNat_of_nonneg h).symm
  conv => rhs; rw [e2]
  rw [← cast_pow]
  simp
theorem range_up {a b : Nat} (ha : a ≤ 1000) (hn : b ≤ 1000) : Builtin.Range.small (a : Int) b 1 = true ∧ Builtin.Range.rangeSize (a : Int) b 1 = ((b - a : Nat) : Int) := by
  refine ⟨small_one (by (first | lia | omega)) (by (first | lia | omega)) (by (first | lia | omega)) (by (first | lia | omega)), ?_⟩
  rw [rangeSize_one]
  split <;> (first | lia | omega)
theorem range_0 {b : Nat} (hn : b ≤ 1000) : Builtin.Range.small 0 (b : Int) 1 = true ∧ Builtin.Range.rangeSize 0 (b : Int) 1 = (b : Int) := by
  have := range_up (a := 0) (b := b) (by (first | lia | omega)) hn
  simpa using this


theorem val_take_over {w : Nat} {ns : List Int} {i : Nat} (h : ns.length ≤ i) : val w (ns.take (i + 1)) = val w (ns.take i) + 2 ^ (w * i) * 0 := by
  rw [List.take_of_length_le (by (first | lia | omega)), List.take_of_length_le h]; (first | lia | omega)
/-- what the taking loop holds after i digits -/
structure SubInv (w : Nat) (a b : List Int) (i : Nat) (fs : List Int) (c : Int) : Prop where
  len : fs.length = i
  dig : Dig w fs
  c01 : c = 0 ∨ c = 1
  sum : val w fs - 2 ^ (w * i) * c = val w (a.take i) - val w (b.take i)
theorem SubInv.nil (w : Nat) (a b : List Int) : SubInv w a b 0 [] 0 := ⟨rfl, .nil, .inl rfl, by simp [val]⟩
theorem SubInv.neg {w : Nat} {a b fs : List Int} {i : Nat} {c d e : Int} (h : SubInv w a b i fs c) (hd : 0 ≤ d ∧ d < 2 ^ w) (he : 0 ≤ e ∧ e < 2 ^ w)
    (ha : val w (a.take (i + 1)) = val w (a.take i) + 2 ^ (w * i) * d) (hb : val w (b.take (i + 1)) = val w (b.take i) + 2 ^ (w * i) * e) (hl : d - c - e < 0) :
    SubInv w a b (i + 1) (fs ++ [d - c - e + 2 ^ w]) 1 := by
  have := h.c01
  refine ⟨by rw [List.length_append, h.len]; rfl, h.dig.append (.one ⟨by (first | lia | omega), by (first | lia | omega)⟩), .inr rfl, ?_⟩
  rw [val_snoc, h.len, ha, hb, pow_succ_len]
  have hs := h.sum
  grind
theorem SubInv.pos {w : Nat} {a b fs : List Int} {i : Nat} {c d e : Int} (h : SubInv w a b i fs c) (hd : 0 ≤ d ∧ d < 2 ^ w) (he : 0 ≤ e ∧ e < 2 ^ w)
    (ha : val w (a.take (i + 1)) = val w (a.take i) + 2 ^ (w * i) * d) (hb : val w (b.take (i + 1)) = val w (b.take i) + 2 ^ (w * i) * e) (hl : ¬ d - c - e < 0) :
    SubInv w a b (i + 1) (fs ++ [d - c - e]) 0 := by
  have := h.c01
  refine ⟨by rw [List.length_append, h.len]; rfl, h.dig.append (.one ⟨by (first | lia | omega), by (first | lia | omega)⟩), .inl rfl, ?_⟩
  rw [val_snoc, h.len, ha, hb, pow_succ_len]
  have hs := h.sum
  grind
theorem row_len_mono {w x y : Nat} (hw : 0 < w) (h : y ≤ x) : (row w y).length ≤ (row w x).length := by
  rcases Nat.lt_or_ge (row w x).length (row w y).length with q | q
  · have := lt_of_len hw q; (first | lia | omega)
  · exact q
theorem SubInv.fin {w x y : Nat} (hw : 0 < w) {fs : List Int} {c : Int} (h : SubInv w (row w x) (row w y) (row w x).length fs c) (hl : y ≤ x) : (val w fs).toNat = x - y := by
  have hs := h.sum
  rw [List.take_length, List.take_of_length_le (row_len_mono hw hl), val_row hw, val_row hw] at hs
  have h2 := (val_bounds h.dig).2
  rw [h.len] at h2
  rcases h.c01 with rfl | rfl <;> (first | lia | omega)

-- shifts to the left
structure ShlInv (w few sp : Nat) (a : List Int) (i : Nat) (fs : List Int) (c : Int) : Prop where
  len : fs.length = sp + i
  dig : Dig w fs
  c0 : 0 ≤ c
  c1 : c < 2 ^ few
  sum : val w fs + 2 ^ (w * (sp + i)) * c = 2 ^ (w * sp + few) * val w (a.take i)
theorem val_rep (w k : Nat) : val w (List.replicate k 0) = 0 := val_zero fun m hm => List.eq_of_mem_replicate hm
theorem dig_rep (w k : Nat) : Dig w (List.replicate k 0) := fun n hn => by rw [List.eq_of_mem_replicate hn]; exact ⟨Int.le_refl 0, two_pow_pos w⟩
theorem ShlInv.nil (w few sp : Nat) (a : List Int) : ShlInv w few sp a 0 (List.replicate sp 0) 0 := ⟨by simp, dig_rep w sp, Int.le_refl 0, two_pow_pos _, by rw [val_rep]; simp [val]⟩
theorem bitOr_apart {c o : Int} {few : Nat} (hc : 0 ≤ c) (hc' : c < 2 ^ few) (ho : 0 ≤ o) : Builtin.bitOr c (o * 2 ^ few) = c + o * 2 ^ few := by
  have hp := two_pow_pos few
  have ho' : 0 ≤ o * 2 ^ few := Int.mul_nonneg ho (by (first | lia | omega))
  rw [bitOr_and, bitAnd_pp hc ho']
  have e : (o * 2 ^ few).toNat = 2 ^ few * o.toNat := by
    have e1 : o * 2 ^ few = ((2 ^ few * o.toNat : Nat) : Int) := by
      push_cast
      rw [Int.toNat_of_nonneg ho, Int.mul_comm]
    rw [e1]; exact Int.toNat_natCast _
  have e3 : c.toNat &&& 2 ^ few * o.toNat = 0 := by
    apply Nat.eq_of_testBit_eq
    intro i
    rw [Nat.testBit_and, Nat.zero_testBit, Nat.testBit_two_pow_mul]
    by_cases hi : few ≤ i
    · have : c.toNat < 2 ^ i := Nat.lt_of_lt_of_le (by have := cast_pow few; (first | lia | omega)) (Nat.pow_le_pow_right (by decide) hi)
      rw [Nat.testBit_lt_two_pow this, Bool.false_and]
    · simp [hi]
  rw [e, e3]
  (first | lia | omega)
theorem ShlInv.step {w few sp : Nat} {a fs : List Int} {i : Nat} {c d : Int} (h : ShlInv w few sp a i fs c) (hd : 0 ≤ d ∧ d < 2 ^ w)
    (ha : val w (a.take (i + 1)) = val w (a.take i) + 2 ^ (w * i) * d) :
    ShlInv w few sp a (i + 1) (fs ++ [(c + d * 2 ^ few) % 2 ^ w]) ((c + d * 2 ^ few) / 2 ^ w) := by
  have := h.c0
  have := h.c1
  obtain ⟨h1, h2, h3⟩ := carry_step (w := w) (c + d * 2 ^ few)
  have hp := two_pow_pos few
  have hd0 : 0 ≤ d * 2 ^ few := Int.mul_nonneg hd.1 (by (first | lia | omega))
  refine ⟨by rw [List.length_append, h.len]; simp; (first | lia | omega), h.dig.append (.one ⟨h1, h2⟩), Int.ediv_nonneg (by (first | lia | omega)) (Int.le_of_lt (two_pow_pos w)), ?_, ?_⟩
  · refine Int.ediv_lt_of_lt_mul (two_pow_pos w) ?_
    have e1 : d * 2 ^ few ≤ (2 ^ w - 1) * 2 ^ few := Int.mul_le_mul_of_nonneg_right (by (first | lia | omega)) (by (first | lia | omega))
    have e2 : ((2 : Int) ^ w - 1) * 2 ^ few = 2 ^ few * 2 ^ w - 2 ^ few := by grind
    (first | lia | omega)
  · rw [val_snoc, h.len, ha, ← Nat.add_assoc, pow_succ_len]
    have hs := h.sum
    have e1 : (2 : Int) ^ (w * (sp + i)) * ((c + d * 2 ^ few) % 2 ^ w) + 2 ^ (w * (sp + i)) * 2 ^ w * ((c + d * 2 ^ few) / 2 ^ w) = 2 ^ (w * (sp + i)) * (c + d * 2 ^ few) := by
      conv => rhs; rw [← h3]
      grind
    have e2 : (2 : Int) ^ (w * (sp + i)) = 2 ^ (w * sp) * 2 ^ (w * i) := by rw [Nat.mul_add, Int.pow_add]
    have e3 : (2 : Int) ^ (w * sp + few) = 2 ^ (w * sp) * 2 ^ few := by rw [Int.pow_add]
    rw [e3] at hs ⊢
    have e4 : (2 : Int) ^ (w * (sp + i)) * (c + d * 2 ^ few) = 2 ^ (w * (sp + i)) * c + 2 ^ (w * sp) * 2 ^ few * (2 ^ (w * i) * d) := by rw [e2]; grind
    have e5 : (2 : Int) ^ (w * sp) * 2 ^ few * (val w (a.take i) + 2 ^ (w * i) * d) = 2 ^ (w * sp) * 2 ^ few * val w (a.take i) + 2 ^ (w * sp) * 2 ^ few * (2 ^ (w * i) * d) := by grind
    (first | lia | omega)
theorem ShlInv.fin {w few sp x : Nat} (hw : 0 < w) (hf : few < w) (hx : 0 < x) {fs : List Int} {c : Int} (h : ShlInv w few sp (row w x) (row w x).length fs c) :
    (if 0 < c then fs ++ [c] else fs) = row w (x * 2 ^ (w * sp + few)) := by
  have hs := h.sum
  rw [List.take_length, val_row hw] at hs
  have h0 := h.c0
  have h1 := h.c1
  have hB := two_pow_pos w
  have eN : ((x * 2 ^ (w * sp + few) : Nat) : Int) = 2 ^ (w * sp + few) * x := by push_cast; rw [Int.mul_comm]
  have key : ∀ ns : List Int, Dig w ns → (ns = [] ∨ 2 ^ (w * (ns.length - 1)) ≤ val w ns) → val w ns = 2 ^ (w * sp + few) * x → ns = row w (x * 2 ^ (w * sp + few)) := fun ns h1 h2 h3 => by
    have := row_of hw h1 h2
    rw [h3, ← eN] at this
    rw [this]; congr 1
  by_cases hc : 0 < c
  · rw [if_pos hc]
    refine key _ (h.dig.append (.one ⟨h0, ?_⟩)) (.inr ?_) ?_
    · have : (2 : Int) ^ few ≤ 2 ^ w := by exact_mod_cast Nat.pow_le_pow_right (by decide) (by (first | lia | omega))
      (first | lia | omega)
    · rw [val_snoc, List.length_append, h.len]
      have := (val_bounds h.dig).1
      have e1 : (2 : Int) ^ (w * (sp + (row w x).length)) * 1 ≤ 2 ^ (w * (sp + (row w x).length)) * c := Int.mul_le_mul_of_nonneg_left (by (first | lia | omega)) (Int.le_of_lt (two_pow_pos _))
      simp
      (first | lia | omega)
    · rw [val_snoc, h.len]; (first | lia | omega)
  · have : c = 0 := by (first | lia | omega)
    subst this
    rw [if_neg hc]
    refine key _ h.dig (.inr ?_) (by (first | lia | omega))
    have hg := row_ge hw hx
    have hl : 0 < (row w x).length := by
      cases q : row w x with
      | nil => have := (row_nil_iff hw).mp q; (first | lia | omega)
      | cons a b => simp
    rw [h.len]
    have e1 : w * (sp + (row w x).length - 1) = w * sp + w * ((row w x).length - 1) := by
      rw [← Nat.mul_add]; congr 1; (first | lia | omega)
    have e2 : (2 : Int) ^ (w * (sp + (row w x).length - 1)) ≤ 2 ^ (w * sp + few) * x := by
      rw [e1, Int.pow_add, Int.pow_add]
      have e3 : ((2 : Int) ^ (w * ((row w x).length - 1))) ≤ x := by exact_mod_cast hg
      have e4 : (1 : Int) ≤ 2 ^ few := by have := two_pow_pos few; (first | lia | omega)
      have e5 : (2 : Int) ^ (w * sp) * 2 ^ (w * ((row w x).length - 1)) ≤ 2 ^ (w * sp) * x := Int.mul_le_mul_of_nonneg_left e3 (Int.le_of_lt (two_pow_pos _))
      have e6 : (2 : Int) ^ (w * sp) * x * 1 ≤ 2 ^ (w * sp) * x * 2 ^ few := Int.mul_le_mul_of_nonneg_left e4 (Int.mul_nonneg (Int.le_of_lt (two_pow_pos _)) (by (first | lia | omega)))
      have e7 : (2 : Int) ^ (w * sp) * x * 2 ^ few = 2 ^ (w * sp) * 2 ^ few * x := by grind
      (first | lia | omega)
    (first | lia | omega)
-- what a call reads
theorem rd1 {σ : Sg} {v : Value} {d : D} (h : σ.Has v d) : ∀ p ∈ [(v, d)], σ.Has p.1 p.2 := fun p hp => by cases List.mem_singleton.mp hp; exact h
theorem rd2 {σ : Sg} {v u : Value} {d e : D} (h : σ.Has v d) (h' : σ.Has u e) : ∀ p ∈ [(v, d), (u, e)], σ.Has p.1 p.2 := fun p hp => by
  rcases List.mem_cons.mp hp with rfl | hp
  · exact h
  · cases List.mem_singleton.mp hp; exact h'
theorem cmp_nonneg {x y : Nat} (h : y ≤ x) : ¬ cmpI x y < 0 := by
  unfold cmpI
  rw [if_neg (by (first | lia | omega))]
  split <;> decide
theorem getElem_take {w : Nat} {ns : List Int} {i : Nat} (hi : i < ns.length) : ns[((0 : Int) + i * 1).toNat]? = some ns[i] := by
  have e0 : ((0 : Int) + i * 1).toNat = i := by (first | lia | omega)
  rw [e0]; exact List.getElem?_eq_getElem hi
theorem T_floordivN {w : World} {A : Around} {env : Env} {σ : Sg} {a b c : Nat} {t u : Tok} {Q : Value → Sg → Prop} (e : a / b = c) (hb : 0 < b) (hb' : b < 1073741824) (h : ∀ t, Q (.int (c : Int) t) σ) : T w A env (binaryOp .FloorDiv (.int a t) (.int b u)) Q σ :=
  T_floordiv (by (first | lia | omega)) (by (first | lia | omega)) fun t => by rw [← Int.natCast_ediv, e]; exact h t
theorem T_modN {w : World} {A : Around} {env : Env} {σ : Sg} {a b c : Nat} {t u : Tok} {Q : Value → Sg → Prop} (e : a % b = c) (hb : 0 < b) (h : ∀ t, Q (.int (c : Int) t) σ) : T w A env (binaryOp .Mod (.int a t) (.int b u)) Q σ :=
  T_mod (by (first | lia | omega)) fun t => by rw [← Int.natCast_emod, e]; exact h t
/-- a number, cut into whole limbs and the rest -/
theorem parts (n : Nat) {w : Nat} (hw : 0 < w) : ∃ sp few, n / w = sp ∧ n % w = few ∧ sp ≤ n ∧ few < w ∧ w * sp + few = n :=
  ⟨_, _, rfl, rfl, Nat.div_le_self .., Nat.mod_lt _ hw, Nat.div_add_mod n w⟩
end Mine
end
section
open PySem PySem.W PyProof.Rows PySem.Calls
set_option Elab.async false
set_option linter.unusedVariables false
set_option linter.unusedSimpArgs false
set_option linter.unusedSectionVars false
set_option maxRecDepth 100000
set_option maxHeartbeats 4000000
namespace Mine
-- shifts to the right
theorem getD_lt {w : Nat} {ns : List Int} (h : Dig w ns) (i : Nat) : 0 ≤ ns.getD i 0 ∧ ns.getD i 0 < 2 ^ w := by
  by_cases hi : i < ns.length
  · rw [List.getD_eq_getElem?_getD, List.getElem?_eq_getElem hi]; exact getElem_dig h hi
  · rw [List.getD_eq_getElem?_getD, List.getElem?_eq_none (by (first | lia | omega))]; exact ⟨Int.le_refl 0, two_pow_pos w⟩
theorem val_take_getD {w : Nat} {ns : List Int} {i : Nat} : val w (ns.take (i + 1)) = val w (ns.take i) + 2 ^ (w * i) * ns.getD i 0 := by
  by_cases hi : i < ns.length
  · rw [List.getD_eq_getElem?_getD, List.getElem?_eq_getElem hi]; exact val_take_snoc hi
  · rw [List.getD_eq_getElem?_getD, List.getElem?_eq_none (by (first | lia | omega))]; exact val_take_over (by (first | lia | omega))
theorem shr_dig {w few : Nat} {d e : Int} (hf : few < w) (hd : 0 ≤ d ∧ d < 2 ^ w) (he : 0 ≤ e) :
    Builtin.bitAnd (Builtin.bitOr (d / 2 ^ few) (e * 2 ^ (w - few))) (2 ^ w - 1) = d / 2 ^ few + e % 2 ^ few * 2 ^ (w - few) ∧ 0 ≤ d / 2 ^ few + e % 2 ^ few * 2 ^ (w - few) ∧ d / 2 ^ few + e % 2 ^ few * 2 ^ (w - few) < 2 ^ w := by
  have hp := two_pow_pos few
  have hq := two_pow_pos (w - few)
  have ew : (2 : Int) ^ w = 2 ^ few * 2 ^ (w - few) := by rw [← Int.pow_add]; congr 1; (first | lia | omega)
  have q0 : 0 ≤ d / 2 ^ few := Int.ediv_nonneg hd.1 (by (first | lia | omega))
  have q1 : d / 2 ^ few < 2 ^ (w - few) := Int.ediv_lt_of_lt_mul hp (by rw [Int.mul_comm, ← ew]; exact hd.2)
  obtain ⟨r0, r1, r2⟩ := carry_step (w := few) e
  have s0 : 0 ≤ e % 2 ^ few * 2 ^ (w - few) := Int.mul_nonneg r0 (by (first | lia | omega))
  have s1 : e % 2 ^ few * 2 ^ (w - few) ≤ (2 ^ few - 1) * 2 ^ (w - few) := Int.mul_le_mul_of_nonneg_right (by (first | lia | omega)) (by (first | lia | omega))
  have s2 : ((2 : Int) ^ few - 1) * 2 ^ (w - few) = 2 ^ w - 2 ^ (w - few) := by rw [ew]; grind
  refine ⟨?_, by (first | lia | omega), by (first | lia | omega)⟩
  have h0 : 0 ≤ e * 2 ^ (w - few) := Int.mul_nonneg he (by (first | lia | omega))
  rw [bitOr_apart q0 q1 he, bitAnd_mask (by (first | lia | omega))]
  have e1 : d / 2 ^ few + e * 2 ^ (w - few) = d / 2 ^ few + e % 2 ^ few * 2 ^ (w - few) + 2 ^ w * (e / 2 ^ few) := by
    conv => lhs; rw [← r2]
    rw [ew]; grind
  rw [e1, Int.add_mul_emod_self_left]
  exact Int.emod_eq_of_lt (by (first | lia | omega)) (by (first | lia | omega))
structure ShrInv (w few : Nat) (b : List Int) (i : Nat) (fs : List Int) : Prop where
  len : fs.length = i
  dig : Dig w fs
  sum : 2 ^ few * val w fs + b.getD 0 0 % 2 ^ few = val w (b.take i) + 2 ^ (w * i) * (b.getD i 0 % 2 ^ few)
theorem ShrInv.nil (w few : Nat) (b : List Int) : ShrInv w few b 0 [] := ⟨rfl, .nil, by simp [val]⟩
theorem ShrInv.step {w few : Nat} {b fs : List Int} {i : Nat} (hf : few < w) (hb : Dig w b) (h : ShrInv w few b i fs) :
    ShrInv w few b (i + 1) (fs ++ [b.getD i 0 / 2 ^ few + b.getD (i + 1) 0 % 2 ^ few * 2 ^ (w - few)]) := by
  obtain ⟨h1, h2, h3⟩ := shr_dig hf (getD_lt hb i) (getD_lt hb (i + 1)).1
  refine ⟨by rw [List.length_append, h.len]; rfl, h.dig.append (.one ⟨h2, h3⟩), ?_⟩
  rw [val_snoc, h.len, val_take_getD, pow_succ_len]
  have hs := h.sum
  have ew : (2 : Int) ^ w = 2 ^ few * 2 ^ (w - few) := by rw [← Int.pow_add]; congr 1; (first | lia | omega)
  obtain ⟨r0, r1, r2⟩ := carry_step (w := few) (b.getD i 0)
  rw [ew]
  generalize b.getD i 0 / 2 ^ few = q at *
  generalize b.getD i 0 % 2 ^ few = r at *
  generalize b.getD i 0 = d at *
  generalize b.getD (i + 1) 0 % 2 ^ few = z at *
  generalize (2 : Int) ^ few = f at *
  generalize (2 : Int) ^ (w - few) = g at *
  generalize (2 : Int) ^ (w * i) = p at *
  subst r2
  grind
theorem ShrInv.fin {w few : Nat} {b fs : List Int} (h : ShrInv w few b b.length fs) : val w fs = val w b / 2 ^ few := by
  have hs := h.sum
  rw [List.take_length, List.getD_eq_getElem?_getD (i := b.length), List.getElem?_eq_none (Nat.le_refl _)] at hs
  obtain ⟨r0, r1, r2⟩ := carry_step (w := few) (b.getD 0 0)
  simp only [Option.getD_none, Int.zero_emod, Int.mul_zero, Int.add_zero] at hs
  rw [← hs, Int.mul_add_ediv_left _ _ (Int.ne_of_gt (two_pow_pos few)), Int.ediv_eq_zero_of_lt r0 r1, Int.add_zero]
theorem val_drop {w x : Nat} (hw : 0 < w) (sp : Nat) : val w ((row w x).drop sp) = ((x / 2 ^ (w * sp) : Nat) : Int) := by
  have hx := val_row hw x
  have hd : Dig w ((row w x).take sp) := (dig_row hw x).take sp
  obtain ⟨b1, b2⟩ := val_bounds hd
  by_cases hl : sp ≤ (row w x).length
  · conv at hx => lhs; rw [← List.take_append_drop sp (row w x)]
    rw [val_append, List.length_take, Nat.min_eq_left hl] at hx
    rw [List.length_take, Nat.min_eq_left hl] at b2
    rw [Int.natCast_ediv, ← hx]
    push_cast
    rw [Int.add_mul_ediv_left _ _ (Int.ne_of_gt (two_pow_pos _)), Int.ediv_eq_zero_of_lt b1 b2, Int.zero_add]
  · rw [List.drop_eq_nil_of_le (by (first | lia | omega))]
    have h1 := row_lt (x := x) hw
    have h2 : 2 ^ (w * (row w x).length) ≤ 2 ^ (w * sp) := Nat.pow_le_pow_right (by decide) (Nat.mul_le_mul_left _ (by (first | lia | omega)))
    rw [Nat.div_eq_of_lt (by (first | lia | omega))]
    rfl
theorem val_take_row {w x : Nat} (hw : 0 < w) (sp : Nat) : val w ((row w x).take sp) = ((x % 2 ^ (w * sp) : Nat) : Int) := by
  have hx := val_row hw x
  have h2 := val_drop hw sp (x := x)
  by_cases hl : sp ≤ (row w x).length
  · conv at hx => lhs; rw [← List.take_append_drop sp (row w x)]
    rw [val_append, h2, List.length_take, Nat.min_eq_left hl] at hx
    have := Nat.mod_add_div x (2 ^ (w * sp))
    have e : ((x % 2 ^ (w * sp) : Nat) : Int) + 2 ^ (w * sp) * ((x / 2 ^ (w * sp) : Nat) : Int) = x := by rw [← cast_pow]; exact_mod_cast this
    (first | lia | omega)
  · rw [List.take_of_length_le (by (first | lia | omega)), hx]
    have h1 := row_lt (x := x) hw
    have h2 : 2 ^ (w * (row w x).length) ≤ 2 ^ (w * sp) := Nat.pow_le_pow_right (by decide) (Nat.mul_le_mul_left _ (by (first | lia | omega)))
    rw [Nat.mod_eq_of_lt (by (first | lia | omega))]
theorem ShrInv.last {w few sp x : Nat} (hw : 0 < w) {fs : List Int} (h : ShrInv w few ((row w x).drop sp) ((row w x).length - sp) fs) : (val w fs).toNat = x / 2 ^ (w * sp + few) := by
  have h' : ShrInv w few ((row w x).drop sp) ((row w x).drop sp).length fs := by rw [List.length_drop]; exact h
  rw [h'.fin, val_drop hw, ← cast_pow few, ← Int.natCast_ediv, Int.toNat_natCast, Nat.div_div_eq_div_mul, ← Nat.pow_add]
-- the low bits
theorem low_val {w few sp x : Nat} (hw : 0 < w) (hf : few < w) (hl : sp < (row w x).length) : Dig w ((row w x).take sp ++ [(row w x)[sp] % 2 ^ few]) ∧ (val w ((row w x).take sp ++ [(row w x)[sp] % 2 ^ few])).toNat = x % 2 ^ (w * sp + few) := by
  have hd := getElem_dig (dig_row hw x) hl
  obtain ⟨r0, r1, r2⟩ := carry_step (w := few) (row w x)[sp]
  have hfw : (2 : Int) ^ few ≤ 2 ^ w := by exact_mod_cast Nat.pow_le_pow_right (by decide) (by (first | lia | omega))
  refine ⟨((dig_row hw x).take sp).append (.one ⟨r0, by (first | lia | omega)⟩), ?_⟩
  rw [val_snoc, List.length_take, Nat.min_eq_left (by (first | lia | omega)), val_take_row hw]
  -- the digit at sp
  have e1 : (row w x)[sp] % 2 ^ few = ((x / 2 ^ (w * sp) % 2 ^ few : Nat) : Int) := by
    have h1 := val_drop hw sp (x := x)
    rw [List.drop_eq_getElem_cons hl, val] at h1
    rw [Int.natCast_emod, ← h1, cast_pow]
    have ew : (2 : Int) ^ w = 2 ^ few * 2 ^ (w - few) := by rw [← Int.pow_add]; congr 1; (first | lia | omega)
    rw [ew, Int.mul_assoc, Int.add_mul_emod_self_left]
  rw [e1, ← cast_pow, Nat.pow_add, Nat.mod_mul]
  have : ((x % 2 ^ (w * sp) : Nat) : Int) + ((2 ^ (w * sp) : Nat) : Int) * ((x / 2 ^ (w * sp) % 2 ^ few : Nat) : Int) = ((x % 2 ^ (w * sp) + 2 ^ (w * sp) * (x / 2 ^ (w * sp) % 2 ^ few) : Nat) : Int) := by push_cast; rfl
  rw [this, Int.toNat_natCast]
theorem low_all {w few sp x : Nat} (hw : 0 < w) (hl : (row w x).length ≤ sp) : x % 2 ^ (w * sp + few) = x := by
  have h1 := row_lt (x := x) hw
  have h2 : 2 ^ (w * (row w x).length) ≤ 2 ^ (w * sp + few) := Nat.pow_le_pow_right (by decide) (by have := Nat.mul_le_mul_left w hl; (first | lia | omega))
  exact Nat.mod_eq_of_lt (by (first | lia | omega))
theorem pick_all (ns : List Int) : pickNums ns none none none = ns := by
  have h := pick_upto ns ns.length
  rw [List.take_length] at h
  have e : sliceBounds none none none ns.length = sliceBounds none (some (ns.length : Int)) none ns.length := by
    simp only [sliceBounds, Option.getD_none, show ¬ ((ns.length : Int) < 0) by (first | lia | omega), if_false, show (1 : Int) > 0 by decide, if_true]
    congr 1; congr 1; (first | lia | omega)
  unfold pickNums at *
  rw [e]; exact h
-- bits
theorem lt_intBits {x : Int} (h : 0 ≤ x) : x < 2 ^ Builtin.Int.intBits x := by
  have := (intBits_le_iff (m := Builtin.Int.intBits x) (x := x)).mp (Nat.le_refl _)
  have e := cast_pow (Builtin.Int.intBits x)
  (first | lia | omega)
theorem mulok_small {a b : Int} (ha : -(2 ^ 64) < a) (ha' : a < 2 ^ 64) : IntMulOk a b := .of_left (intBits_le_64 ha ha')
theorem bits_val {w : Nat} {ns : List Int} {l : Int} (h : Dig w (ns ++ [l])) : val w (ns ++ [l]) < 2 ^ (((ns.length : Int) * w + (Builtin.Int.intBits l : Int)).toNat) := by
  have e : ((ns.length : Int) * w + (Builtin.Int.intBits l : Int)).toNat = w * ns.length + Builtin.Int.intBits l := by
    have : ((ns.length : Int) * w) = ((w * ns.length : Nat) : Int) := by push_cast; rw [Int.mul_comm]
    (first | lia | omega)
  rw [e, val_snoc, Int.pow_add]
  have h1 := (val_bounds (w := w) (ns := ns) fun n hn => h n (List.mem_append_left _ hn)).2
  have hl := h l (List.mem_append_right _ (.head _))
  have h2 := lt_intBits hl.1
  have h3 : (2 : Int) ^ (w * ns.length) * (l + 1) ≤ 2 ^ (w * ns.length) * 2 ^ Builtin.Int.intBits l := Int.mul_le_mul_of_nonneg_left (by (first | lia | omega)) (Int.le_of_lt (two_pow_pos _))
  have h4 : (2 : Int) ^ (w * ns.length) * (l + 1) = 2 ^ (w * ns.length) * l + 2 ^ (w * ns.length) := by grind
  (first | lia | omega)
theorem Dig.drop' {w ns} (h : Dig w ns) (k : Nat) : Dig w (ns.drop k) := fun n hn => h n (List.mem_of_mem_drop hn)
end Mine
end
section
open PySem PySem.W PyProof.Rows PySem.Calls
set_option Elab.async false
set_option linter.unusedVariables false
set_option linter.unusedSimpArgs false
set_option linter.unusedSectionVars false
set_option maxRecDepth 100000
set_option maxHeartbeats 4000000
namespace Mine
-- the ring
def md (n : Nat) : Nat := 2 ^ n + 1
theorem md_pos (n : Nat) : 0 < md n := Nat.succ_pos _
def res (n : Nat) (z : Int) : Nat := (z % (md n : Int)).toNat
def rr (w n : Nat) (z : Int) : List Int := row w (res n z)
theorem res_cast (n : Nat) (z : Int) : ((res n z : Nat) : Int) = z % (md n : Int) := Int.toNat_of_nonneg (Int.emod_nonneg _ (by have := md_pos n; (first | lia | omega)))
theorem res_lt (n : Nat) (z : Int) : res n z < md n := by
  have h1 := res_cast n z
  have h2 := Int.emod_lt_of_pos z (show (0 : Int) < (md n : Int) by have := md_pos n; (first | lia | omega))
  (first | lia | omega)
theorem md_le {n : Nat} (hn : n ≤ 16) : md n ≤ 65537 := by
  have := Nat.pow_le_pow_right (n := 2) (by decide) hn
  unfold md; (first | lia | omega)
theorem res_64 {n : Nat} (hn : n ≤ 16) (z : Int) : res n z < 2 ^ 64 := by
  have := res_lt n z
  have := md_le hn
  (first | lia | omega)
theorem res_of {n : Nat} {z : Int} {x : Nat} (hx : x < md n) (h : ((x : Int) - z) % (md n : Int) = 0) : res n z = x := by
  have h1 := res_cast n z
  have h2 := Int.emod_eq_of_lt (show (0 : Int) ≤ x by (first | lia | omega)) (show (x : Int) < md n by (first | lia | omega))
  have h3 := Int.emod_eq_emod_iff_emod_sub_eq_zero.mpr h
  (first | lia | omega)
theorem res_eq {n : Nat} {z u : Int} (h : (z - u) % (md n : Int) = 0) : res n z = res n u := by
  unfold res
  rw [Int.emod_eq_emod_iff_emod_sub_eq_zero.mpr h]
theorem rr_eq {w n : Nat} {z u : Int} (h : (z - u) % (md n : Int) = 0) : rr w n z = rr w n u := by
  unfold rr; rw [res_eq h]
/-- what differs from a number by a multiple -/
theorem res_dvd (n : Nat) (z : Int) : ∃ k : Int, (res n z : Int) = z + (md n : Int) * k := by
  have h1 := res_cast n z
  have h2 := Int.emod_add_mul_ediv z (md n : Int)
  refine ⟨-(z / (md n : Int)), ?_⟩
  rw [h1, Int.mul_neg]
  (first | lia | omega)
theorem md_mul (n : Nat) (k : Int) : ((md n : Int) * k) % (md n : Int) = 0 := Int.mul_emod_right ..
theorem res_mk {n : Nat} {z : Int} {x : Nat} (hx : x < md n) (k : Int) (h : (x : Int) = z + (md n : Int) * k) : res n z = x :=
  res_of hx (by rw [h, show z + (md n : Int) * k - z = (md n : Int) * k by (first | lia | omega), md_mul])
theorem rr_mk {w n : Nat} {z u : Int} (k : Int) (h : z = u + (md n : Int) * k) : rr w n z = rr w n u :=
  rr_eq (by rw [h, show u + (md n : Int) * k - u = (md n : Int) * k by (first | lia | omega), md_mul])
theorem row_rr {w n : Nat} {z : Int} {x : Nat} (hx : x < md n) (k : Int) (h : (x : Int) = z + (md n : Int) * k) : row w x = rr w n z := by
  unfold rr; rw [res_mk hx k h]
theorem row_one {w : Nat} (hw : 0 < w) : row w 1 = [1] := by
  rw [row_pos hw (by decide), Nat.mod_eq_of_lt (Nat.one_lt_two_pow (by (first | lia | omega))), Nat.div_eq_of_lt (Nat.one_lt_two_pow (by (first | lia | omega))), row_zero]
  rfl
theorem rr_zero (w n : Nat) : rr w n 0 = [] := by
  unfold rr res
  rw [Int.zero_emod]
  exact row_zero w
theorem ring_add_big {w n : Nat} {a b : Int} (h : md n ≤ res n a + res n b) : row w (res n a + res n b - md n) = rr w n (a + b) := by
  obtain ⟨k, hk⟩ := res_dvd n a
  obtain ⟨l, hl⟩ := res_dvd n b
  have := res_lt n a
  have := res_lt n b
  refine row_rr (by (first | lia | omega)) (k + l - 1) ?_
  rw [Int.mul_sub, Int.mul_add]
  (first | lia | omega)
theorem ring_add_small {w n : Nat} {a b : Int} (h : res n a + res n b < md n) : row w (res n a + res n b) = rr w n (a + b) := by
  obtain ⟨k, hk⟩ := res_dvd n a
  obtain ⟨l, hl⟩ := res_dvd n b
  refine row_rr h (k + l) ?_
  rw [Int.mul_add]
  (first | lia | omega)
theorem ring_sub_pos {w n : Nat} {a b : Int} (h : res n b ≤ res n a) : row w (res n a - res n b) = rr w n (a - b) := by
  obtain ⟨k, hk⟩ := res_dvd n a
  obtain ⟨l, hl⟩ := res_dvd n b
  have := res_lt n a
  refine row_rr (by (first | lia | omega)) (k - l) ?_
  rw [Int.mul_sub]
  (first | lia | omega)
theorem ring_sub_neg {w n : Nat} {a b : Int} (h : res n a < res n b) : row w (res n a + md n - res n b) = rr w n (a - b) := by
  obtain ⟨k, hk⟩ := res_dvd n a
  obtain ⟨l, hl⟩ := res_dvd n b
  have := res_lt n b
  refine row_rr (by (first | lia | omega)) (k - l + 1) ?_
  rw [Int.mul_add, Int.mul_sub]
  (first | lia | omega)
theorem ring_neg_pos {w n : Nat} {a : Int} (h : 0 < res n a) : row w (md n - res n a) = rr w n (-a) := by
  obtain ⟨k, hk⟩ := res_dvd n a
  have := res_lt n a
  refine row_rr (by (first | lia | omega)) (1 - k) ?_
  rw [Int.mul_sub]
  (first | lia | omega)
theorem ring_neg_zero {w n : Nat} {a : Int} (h : res n a = 0) : [] = rr w n (-a) := by
  obtain ⟨k, hk⟩ := res_dvd n a
  rw [← row_zero w]
  refine row_rr (md_pos n) (-k) ?_
  rw [Int.mul_neg]
  (first | lia | omega)
theorem cmp_ge {x y : Nat} : 0 ≤ cmpI x y ↔ y ≤ x := by
  unfold cmpI
  split
  · constructor <;> intro h
    · exact absurd h (by decide)
    · (first | lia | omega)
  · split
    · constructor <;> intro h <;> (first | lia | omega)
    · constructor <;> intro h <;> (first | lia | omega)
-- lists in a weaker state
def All {α : Type} (l l' : List α) : Prop := ∀ p ∈ l, p ∈ l'
theorem All.nil {α : Type} {l' : List α} : All [] l' := fun _ h => nomatch h
theorem All.cons {α : Type} {p : α} {l l' : List α} (h : p ∈ l') (r : All l l') : All (p :: l) l' := fun q hq => by
  rcases List.mem_cons.mp hq with rfl | hq
  · exact h
  · exact r q hq
theorem Wk.of {m : List (Str × AV)} {fx fx' ow : List (Value × D)} {fr fr' : List Value} (hn : nodupB (m.map (·.1)) = true) (hf : All fx' fx) (hr : All fr' fr) : Wk ⟨m, fx', fr', ow⟩ ⟨m, fx, fr, ow⟩ :=
  ⟨fun _ h => .inr h, nodupB_iff hn, hf, rfl, hr⟩
theorem Wk.trans {a b c : Sg} (h : Wk a b) (h' : Wk b c) : Wk a c := by
  refine ⟨fun p hp => ?_, h.n, fun p hp => h'.fx p (h.fx p hp), h.ow.trans h'.ow, fun v hv => h'.fr v (h.fr v hv)⟩
  rcases h.m p hp with e | e
  · exact .inl e
  · exact h'.m p e
theorem rd0 {σ : Sg} : ∀ p ∈ ([] : List (Value × D)), σ.Has p.1 p.2 := fun _ h => nomatch h
end Mine
end
section
open PySem PySem.W PyProof.Rows PySem.Calls
set_option Elab.async false
set_option linter.unusedVariables false
set_option linter.unusedSimpArgs false
set_option linter.unusedSectionVars false
set_option maxRecDepth 100000
set_option maxHeartbeats 4000000
namespace Mine
structure FoldInv (n x : Nat) (f : Int) (z : Nat) (m : Bool) : Prop where
  eq : ∃ k : Int, (x : Int) = f + (if m then -(z : Int) else z) + (md n : Int) * k
theorem FoldInv.nil (n x : Nat) : FoldInv n x 0 x false := ⟨0, by simp⟩
theorem fold_parts (n z : Nat) : (z : Int) = ((z % 2 ^ n : Nat) : Int) + (md n : Int) * ((z / 2 ^ n : Nat) : Int) - ((z / 2 ^ n : Nat) : Int) := by
  have h := Nat.mod_add_div z (2 ^ n)
  have e : ((z % 2 ^ n : Nat) : Int) + 2 ^ n * ((z / 2 ^ n : Nat) : Int) = z := by rw [← cast_pow]; exact_mod_cast h
  have e2 : (md n : Int) = 2 ^ n + 1 := by unfold md; push_cast; rfl
  rw [e2, ← e]
  generalize ((z % 2 ^ n : Nat) : Int) = p
  generalize ((z / 2 ^ n : Nat) : Int) = q
  grind
theorem FoldInv.plus {n x z : Nat} {f : Int} (h : FoldInv n x f z false) : FoldInv n x (f + ((z % 2 ^ n : Nat) : Int)) (z / 2 ^ n) true := by
  obtain ⟨k, hk⟩ := h.eq
  have hp := fold_parts n z
  refine ⟨k + ((z / 2 ^ n : Nat) : Int), ?_⟩
  rw [Int.mul_add]
  simp only [if_true, Bool.false_eq_true, if_false] at hk ⊢
  (first | lia | omega)
theorem FoldInv.minus {n x z : Nat} {f : Int} (h : FoldInv n x f z true) : FoldInv n x (f - ((z % 2 ^ n : Nat) : Int)) (z / 2 ^ n) false := by
  obtain ⟨k, hk⟩ := h.eq
  have hp := fold_parts n z
  refine ⟨k - ((z / 2 ^ n : Nat) : Int), ?_⟩
  rw [Int.mul_sub]
  simp only [if_true, Bool.false_eq_true, if_false] at hk ⊢
  (first | lia | omega)
theorem FoldInv.fin {n x w : Nat} {f : Int} {m : Bool} (h : FoldInv n x f 0 m) : rr w n f = rr w n x := by
  obtain ⟨k, hk⟩ := h.eq
  refine rr_mk (-k) ?_
  rw [Int.mul_neg]
  cases m <;> simp at hk <;> (first | lia | omega)
theorem row_low {w n z : Nat} : row w (z % 2 ^ n) = rr w n ((z % 2 ^ n : Nat) : Int) := by
  have := Nat.mod_lt z (Nat.two_pow_pos n)
  exact row_rr (by unfold md; (first | lia | omega)) 0 (by (first | lia | omega))
theorem T_modE {w : World} {A : Around} {env : Env} {σ : Sg} {a b c : Int} {t u : Tok} {Q : Value → Sg → Prop} (e : a % b = c) (hb : 0 < b) (h : ∀ t, Q (.int c t) σ) : T w A env (binaryOp .Mod (.int a t) (.int b u)) Q σ :=
  T_mod hb (e ▸ h)
theorem two_pow_md (n : Nat) : (2 : Int) ^ n = (md n : Int) - 1 := by unfold md; push_cast; (first | lia | omega)
theorem rr_shl {w n k : Nat} (z : Int) : rr w n ((res n z * 2 ^ k : Nat) : Int) = rr w n (z * 2 ^ k) := by
  obtain ⟨j, hj⟩ := res_dvd n z
  refine rr_mk (j * 2 ^ k) ?_
  push_cast
  rw [hj]
  grind
theorem rr_neg_shl {w n k : Nat} (z : Int) (h : n ≤ k) : rr w n (-(z * 2 ^ (k - n))) = rr w n (z * 2 ^ k) := by
  have e : (2 : Int) ^ k = 2 ^ (k - n) * 2 ^ n := by rw [← Int.pow_add]; congr 1; (first | lia | omega)
  rw [e, two_pow_md n]; clear e
  refine rr_mk (-(z * 2 ^ (k - n))) ?_
  generalize (2 : Int) ^ (k - n) = p
  generalize (md n : Int) = m
  grind
theorem rr_mul {w n : Nat} (a b : Int) : rr w n ((res n a * res n b : Nat) : Int) = rr w n (a * b) := by
  obtain ⟨j, hj⟩ := res_dvd n a
  obtain ⟨l, hl⟩ := res_dvd n b
  refine rr_mk (a * l + j * b + (md n : Int) * j * l) ?_
  push_cast
  rw [hj, hl]
  grind
end Mine
end
section
open PySem PySem.W PyProof.Rows PySem.Calls
set_option Elab.async false
set_option linter.unusedVariables false
set_option linter.unusedSimpArgs false
set_option linter.unusedSectionVars false
set_option maxRecDepth 100000
set_option maxHeartbeats 4000000
namespace Mine
theorem St.freeze {w : World} {env : Env} {σ : Sg} {h₀ h : Heap} {v : Value} {d : D} {ow' : List (Value × D)} (S : St w env h₀ σ h) (e : σ.ow = (v, d) :: ow') :
    St w env h₀ { σ with fx := (v, d) :: σ.fx, fr := v :: σ.fr, ow := ow' } h := by
  obtain ⟨hI, S⟩ := S
  have hmem : (v, d) ∈ σ.ow := by rw [e]; exact .head _
  have hsub : ∀ p ∈ ow', p ∈ σ.ow := fun p hp => by rw [e]; exact .tail _ hp
  have nd := S.nd
  rw [e, List.map_cons, List.nodup_cons] at nd
  have hmut : ∀ b ∈ mutAddrs env { σ with ow := ow' }, b ∈ mutAddrs env σ := fun b hb => by
    rcases List.mem_cons.mp hb with rfl | hb
    · exact .head _
    · rcases List.mem_append.mp hb with hb | hb
      · exact List.mem_cons_of_mem _ (List.mem_append_left _ hb)
      · obtain ⟨p, hp, q⟩ := List.mem_filterMap.mp hb
        exact List.mem_cons_of_mem _ (List.mem_append_right _ (List.mem_filterMap.mpr ⟨p, hsub p hp, q⟩))
  have sub : Sub hI (hideAll h (mutAddrs env { σ with ow := ow' })) := fun b o q => hideAll_get _ (S.kI _ _ q) fun hb => by rw [S.off b (hmut b hb)] at q; cases q
  obtain ⟨a, ea, hn, hL, r⟩ := S.ow _ hmem
  dsimp only at ea
  have hoff : a ∉ mutAddrs env { σ with ow := ow' } := fun hm => by
    rcases List.mem_cons.mp hm with q | hm
    · exact hL q
    · rcases List.mem_append.mp hm with hm | hm
      · obtain ⟨x, _, q⟩ := List.mem_filterMap.mp hm
        by_cases hk : env.kindOf x = some .cell
        · rw [if_pos hk] at q
          exact (S.cell x a q).2.2.1 _ hmem ea
        · rw [if_neg hk] at q; cases q
      · obtain ⟨p, hp, q⟩ := List.mem_filterMap.mp hm
        obtain ⟨b, eb, _⟩ := S.ow p (hsub p hp)
        rw [eb] at q; cases q
        exact nd.1 (List.mem_map.mpr ⟨p, hp, eb.trans ea.symm⟩)
  refine ⟨hideAll h (mutAddrs env { σ with ow := ow' }), S.ok, S.gl, fun b o q => sub _ _ (S.k0 _ _ q), fun b o q => of_hideAll _ q, hideAll_none _ (.head _), S.ns, ?_, S.m, S.mn, ?_, ?_, nd.2, ?_⟩
  · intro x c q
    obtain ⟨h1, h2, h3, h4⟩ := S.cell x c q
    refine ⟨h1, h2, fun p hp => h3 p (hsub p hp), fun hk => hideAll_none _ (List.mem_cons_of_mem _ (List.mem_append_left _ (List.mem_filterMap.mpr ⟨x, List.mem_map.mpr ⟨(x, c), mem_cells q, rfl⟩, ?_⟩)))⟩
    rw [if_pos hk]; exact q
  · intro p hp
    rcases List.mem_cons.mp hp with rfl | hp
    · exact ⟨a, ea, r.mono sub fun o q => hideAll_get _ q hoff⟩
    · exact (S.fx p hp).mono sub
  · intro p hp
    obtain ⟨b, eb, h1, h2, h3⟩ := S.ow p (hsub p hp)
    exact ⟨b, eb, hideAll_none _ (List.mem_cons_of_mem _ (List.mem_append_right _ (List.mem_filterMap.mpr ⟨p, hp, by rw [eb]⟩))), h2, h3.mono sub fun o q => q⟩
  · intro u hu
    rcases List.mem_cons.mp hu with rfl | hu
    · exact ⟨a, ea, none_of_sub S.k0 hn⟩
    · exact S.fr u hu
theorem T_freeze {w : World} {A : Around} {env : Env} {m : List (Str × AV)} {fx ow : List (Value × D)} {fr : List Value} {v : Value} {d : D} {α : Type} {t : Sem α} {Q : α → Sg → Prop}
    (h : T w A env t Q ⟨m, (v, d) :: fx, v :: fr, ow⟩) : T w A env t Q ⟨m, fx, fr, (v, d) :: ow⟩ :=
  ⟨fun h₀ s S => h.run h₀ s (S.freeze rfl)⟩

section
variable {w : World} {A : Around} {env : Env} {σ : Sg} {h₀ hI : Heap}

/-- pairs, taken by two names -/
theorem Drive.of_pairs {x y : Str} {px py tp : Pos} {k : Nat} {I : Addr} {fp wr : List Addr} {n : Nat} {Pt : Nat → Array Value → Prop} {Sti : Nat → Heap → Prop} {Mid : Nat → Addr → Heap → Prop} {bd : Nat → Sg → (Sg → Prop) → Prop}
    (hh : A.handled = none) (W : WalksU PySem.Challenge.pw_nn0015_01 w A I fp wr n Pt Sti Mid) (hx : env.kindOf x = some .local) (hy : env.kindOf y = some .local)
    (hex : ∀ i h, Sti i h → ∀ b ∈ fp, ∃ o, h.get? b = some o) (hodd : ∀ i h, Sti i h → ∀ b ∈ wr, Odd h b) (hoddM : ∀ i T h, Mid i T h → ∀ b ∈ wr, Odd h b) (h2 : ∀ i vals, Pt i vals → ∃ v0 v1, vals = #[v0, v1])
    (hb : ∀ i h₀ hI σ h v0 v1 K, i < n → Sti i h → StI w env h₀ σ h hI → (∀ b ∈ fp, b ∉ mutAddrs env σ) → Pt i #[v0, v1] → bd i σ K →
      ∃ av0 m' av1 m'' σ', av0.Is v0 ∧ av1.Is v1 ∧ Put x av0 σ.m m' ∧ Put y av1 m' m'' ∧ σ' = { σ with m := m'', fx := σ'.fx } ∧ (∀ p ∈ σ'.fx, p ∈ σ.fx ∨ Rep hI p.1 p.2) ∧ K σ') :
    Drive w A env (.Tuple [.Name x px, .Name y py] k tp) I fp wr n Sti bd where
  sub := W.sub
  frame := W.frame
  ex := hex
  odd := hodd
  item i h₀ hI σ K s Q E hi st S hw hm hbd hQ := by
    refine W.item i s _ _ hi st fun T vals h1 tk1 hP hT hMid k1 => ⟨.ref T, rfl, ?_⟩
    have hmw : ∀ b ∈ wr, b ∉ mutAddrs env σ := fun b hb => hm b (W.sub b hb)
    have S1 := S.but hw (hodd _ _ st) hmw k1
    obtain ⟨v0, v1, rfl⟩ := h2 i vals hP
    obtain ⟨av0, m', av1, m'', σ', ha0, ha1, hp0, hp1, e, hfx, hK⟩ := hb i h₀ hI σ s.heap v0 v1 K hi st S hm hP hbd
    refine W.go _ _ _ i T _ _ _ hMid fun h2 st2 k2 => ?_
    have S2 := S1.but hw (hoddM _ _ _ hMid) hmw k2
    have ht2 : h2.IsTuple T #[v0, v1] := by
      obtain ⟨o, ho, r⟩ := hT
      exact ⟨o, k2 T o (W.apart i T h1 hMid) ho, r⟩
    refine wpAny_assign_Tuple hh ht2 rfl rfl fun h3 hx3 => ?_
    replace hx3 : Heap.ExtBut h2.objs.size h2 h3 := hx3
    have up3 : Sub h2 h3 := fun b o q => hx3 b o (Nat.ne_of_lt (Heap.lt_size q)) q
    have S3 := S2.grow up3
    show wpAny _ A (do holding [v1] (assign (.Name x px) env v0); do holding [] (assign (.Name y py) env v1); pure ()) _ _ _
    refine wpAny_bind (wpAny_holding (StI.store (s := { s with heap := h3, toks := tk1 }) S3 hx ha0 hp0 fun h4 S4 hs4 => ?_))
    refine wpAny_bind (wpAny_holding (StI.store (s := { s with heap := h4, toks := tk1 + 1 }) S4 hy ha1 hp1 fun h5 S5 hs5 => wpAny_pure ?_))
    have hL : env.locals ∉ fp := fun q => hm _ q (.head _)
    refine hQ h5 _ σ' (W.frame _ _ _ st2 fun b hb o eo => hs5.extBut b o (fun q => hL (q ▸ hb)) (hs4.extBut b o (fun q => hL (q ▸ hb)) (up3 b o eo))) ?_ (by rw [e]) (by rw [e]) hK
    rw [e]
    refine ⟨S5.ok, S5.gl, S5.k0, S5.kI, S5.offL, S5.ns, S5.cell, S5.m, S5.mn, fun p hp => ?_, S5.ow, S5.nd, S5.fr⟩
    rcases hfx p hp with q | q
    · exact S5.fx p q
    · exact q
  done s Q E st hQ := W.done s Q E st hQ

/-- the names that a target takes are the frame's own -/
def localB (t : Expr) (env : Env) : Bool := match t with
  | .Name x _ => decide (env.kindOf x = some .local)
  | .Tuple [.Name x _, .Name y _] _ _ => decide (env.kindOf x = some .local) && decide (env.kindOf y = some .local)
  | _ => false
abbrev LocalT (t : Expr) (env : Env) : Prop := localB t env = true
theorem local1 {x : Str} {p : Pos} {env : Env} (h : LocalT (.Name x p) env) : env.kindOf x = some .local := of_decide_eq_true h
theorem local2 {x y : Str} {p q tp : Pos} {k : Nat} {env : Env} (h : LocalT (.Tuple [.Name x p, .Name y q] k tp) env) : env.kindOf x = some .local ∧ env.kindOf y = some .local :=
  have h' := Bool.and_eq_true_iff.mp h
  ⟨of_decide_eq_true h'.1, of_decide_eq_true h'.2⟩
/-- what is iterated stands open -/
structure Opened (w : World) (A : Around) (env : Env) (target : Expr) (h₀ h hI : Heap) (σ : Sg) (I : Addr) (fp wr : List Addr) (n : Nat) (Sti : Nat → Heap → Prop) (bd : Nat → Sg → (Sg → Prop) → Prop) : Prop where
  S : StI w env h₀ σ h hI
  drive : ∀ cenv, LocalT target cenv → Drive w A cenv target I fp wr n Sti bd
  st : Sti 0 h
  new : ∀ b ∈ wr, hI.get? b = none
  off : ∀ b ∈ fp, b ∉ mutAddrs env σ
  ex : ∀ b ∈ fp, ∃ o, h.get? b = some o
  self : ∀ i (s : Shared) (Q : Value → Shared → Prop) (E : Value → Shared → Prop), Sti i s.heap → Q (.ref I) s → wpAny (model PySem.Challenge.pw_nn0015_01 w) A (pyIter (.ref I)) Q E s

def Opens (w : World) (A : Around) (env : Env) (target iter : Expr) (σ : Sg) (P : Nat → (Nat → Sg → (Sg → Prop) → Prop) → Sg → Prop) : Prop :=
  ∀ (h₀ : Heap) (s : Shared) (K : Value → Shared → Prop) (E : Value → Shared → Prop), St w env h₀ σ s.heap →
    (∀ I fp wr n Sti bd h' tk' σ₁ hI, Opened w A env target h₀ h' hI σ₁ I fp wr n Sti bd → P n bd σ₁ → K (.ref I) { s with heap := h', toks := tk' }) →
    wpAny (model PySem.Challenge.pw_nn0015_01 w) A (eval iter env) (fun x s₁ => wpAny (model PySem.Challenge.pw_nn0015_01 w) A (pyIter x) K E s₁) E s

theorem T_For_any {target iter : Expr} {body : List Stmt} {pos : Pos} {Q : Flow → Sg → Prop}
    (h : Opens w A env target iter σ (fun n bd σ₁ => ∃ J : Nat → Sg → Prop, J 0 { σ₁ with fr := [] } ∧
      (∀ i σ', i < n → J i σ' → bd i σ' fun σ'' => T w A env (execs body env) (Turn (J (i + 1)) Q) σ'') ∧ (∀ σ', J n σ' → Q .next σ')))
    (hl : localB target env = true := by kernel_rfl) (hs : ∀ x, foldedSetIterable iter env x = pure x := by intro _; kernel_rfl) : T w A env (exec (.For target iter body [] pos) env) Q σ := by
  refine T.mk fun h₀ s S => ?_
  refine wpAny_For (h h₀ s _ _ S fun I fp wr n Sti bd h' tk' σ₁ hI O ⟨J, hJ, turn, fin⟩ => ?_) hs
  have S2 : StI w env h₀ { σ₁ with fr := [] } h' hI := ⟨O.S.ok, O.S.gl, O.S.k0, O.S.kI, O.S.offL, O.S.ns, O.S.cell, O.S.m, O.S.mn, O.S.fx, O.S.ow, O.S.nd, fun _ hv => nomatch hv⟩
  exact loop (s := { s with heap := h', toks := tk' }) (O.drive env hl) J S2 O.new O.off (fun _ hv => nomatch hv) O.st hJ turn fin

-- the things that may be iterated
def bdNums (x : Str) (ns : List Int) (i : Nat) (σ' : Sg) (K : Sg → Prop) : Prop := ∃ hi : i < ns.length, ∃ m', Put x (.i ns[i]) σ'.m m' ∧ K { σ' with m := m' }
def bdRows (x : Str) (vl : Value) (rs : List (List Int)) (i : Nat) (σ' : Sg) (K : Sg → Prop) : Prop :=
  (vl, .rows rs) ∈ σ'.fx ∧ ∃ hi : i < rs.length, ∀ u, ∃ m', Put x (.v u) σ'.m m' ∧ K { σ' with m := m', fx := (u, .nums rs[i]) :: σ'.fx }
def bdRange (x : Str) (a c : Int) (i : Nat) (σ' : Sg) (K : Sg → Prop) : Prop := ∃ m', Put x (.i (a + i * c)) σ'.m m' ∧ K { σ' with m := m' }
def bdEnumN (x y : Str) (ns : List Int) (i : Nat) (σ' : Sg) (K : Sg → Prop) : Prop := ∃ hi : i < ns.length, ∃ m' m'', Put x (.i i) σ'.m m' ∧ Put y (.i ns[i]) m' m'' ∧ K { σ' with m := m'' }
def bdEnumR (x y : Str) (vl : Value) (rs : List (List Int)) (i : Nat) (σ' : Sg) (K : Sg → Prop) : Prop :=
  (vl, .rows rs) ∈ σ'.fx ∧ ∃ hi : i < rs.length, ∀ u, ∃ m' m'', Put x (.i i) σ'.m m' ∧ Put y (.v u) m' m'' ∧ K { σ' with m := m'', fx := (u, .nums rs[i]) :: σ'.fx }
def bdZip (x y : Str) (vl vr : Value) (rs ss : List (List Int)) (i : Nat) (σ' : Sg) (K : Sg → Prop) : Prop :=
  (vl, .rows rs) ∈ σ'.fx ∧ (vr, .rows ss) ∈ σ'.fx ∧ ∃ (hi : i < rs.length) (hj : i < ss.length), ∀ u u', ∃ m' m'', Put x (.v u) σ'.m m' ∧ Put y (.v u') m' m'' ∧ K { σ' with m := m'', fx := (u, .nums rs[i]) :: (u', .nums ss[i]) :: σ'.fx }

theorem list_same {h : Heap} {a : Addr} {xs ys : Array Value} (x : h.IsList a xs) (y : h.IsList a ys) : xs = ys := by
  obtain ⟨o, ho, _, n, hd⟩ := x
  obtain ⟨o', ho', _, n', hd'⟩ := y
  rw [ho] at ho'; cases ho'
  rw [hd] at hd'; cases hd'
  rfl
theorem list_off {h : Heap} {l : Addr} {vs : Array Value} {hh : Heap} (S : StI w env h₀ σ h hh) (hl : hh.IsList l vs) : l ∉ mutAddrs env σ := fun q => by
  obtain ⟨o, ho, _⟩ := hl
  rw [S.off l q] at ho; cases ho
theorem no_there {h : Heap} {l : Addr} {vs : Array Value} (hl : h.IsList l vs) : l ≠ h.objs.size := fun q => by
  obtain ⟨o, ho, _⟩ := hl
  rw [q, none_at_end] at ho; cases ho

theorem open_list {x : Str} {px : Pos} {s : Shared} {K E : Value → Shared → Prop} {l : Addr} {vs : Array Value} {bd : Nat → Sg → (Sg → Prop) → Prop} (hh : A.handled = none) (S : StI w env h₀ σ s.heap hI) (hlI : hI.IsList l vs)
    (hb : ∀ cenv i h₀ hI σ h v K, i < vs.size → h.IsList l vs → StI w cenv h₀ σ h hI → l ∉ mutAddrs cenv σ → vs[i]? = some v → bd i σ K → ∃ av m' σ', av.Is v ∧ Put x av σ.m m' ∧ σ' = { σ with m := m', fx := σ'.fx } ∧ (∀ p ∈ σ'.fx, p ∈ σ.fx ∨ Rep hI p.1 p.2) ∧ K σ')
    (k : ∀ I fp wr Sti h' tk', Opened w A env (.Name x px) h₀ h' hI σ I fp wr vs.size Sti bd → K (.ref I) { s with heap := h', toks := tk' }) :
    wpAny (model PySem.Challenge.pw_nn0015_01 w) A (pyIter (.ref l)) K E s := by
  have hl : s.heap.IsList l vs := hlI.at fun o q => S.kI _ _ q
  refine wpAny_pyIter_list hl ?_
  have nI : s.heap.get? s.heap.objs.size = none := none_at_end _
  have W := Walks.list (prog := PySem.Challenge.pw_nn0015_01) (w := w) hh s.heap.objs.size l (no_there hl) vs
  obtain ⟨S3, off⟩ := S.pushed (o := { cls := .type "list_iterator", data := .fields #[.ref l, .int 0 0] })
  have hex : ∀ (i : Nat) (h : Heap), (h.IsListIter s.heap.objs.size l i ∧ h.IsList l vs) → ∀ b ∈ [s.heap.objs.size, l], ∃ o, h.get? b = some o := by
    rintro i h ⟨⟨o, ho, _⟩, o', ho', _⟩ b hb
    rcases List.mem_cons.mp hb with rfl | hb
    · exact ⟨o, ho⟩
    · cases List.mem_singleton.mp hb
      exact ⟨o', ho'⟩
  have hst : (s.heap.push { cls := .type "list_iterator", data := .fields #[.ref l, .int 0 0] }).IsListIter s.heap.objs.size l 0 ∧ (s.heap.push { cls := .type "list_iterator", data := .fields #[.ref l, .int 0 0] }).IsList l vs := ⟨⟨_, Heap.get?_push_size _ rfl, rfl, rfl⟩, hl.push _⟩
  refine k _ _ _ _ _ _ ⟨S3, fun cenv hx => Drive.of_walks W (local1 hx) hex ?_ ?_, hst, ?_, ?_, hex _ _ hst, W.self⟩
  · rintro i h ⟨⟨o, ho, hc, hd⟩, _⟩ b hb
    cases List.mem_singleton.mp hb
    exact odd_fields (T := "list_iterator") (by decide) (by decide) ⟨_, ho, hc, hd⟩
  · intro i h₀ hI σ h v K hi st S hm hP hbd
    exact hb cenv i h₀ hI σ h v K hi st.2 S (hm l (by simp)) hP hbd
  · intro b hb
    cases List.mem_singleton.mp hb
    exact none_of_sub S.kI nI
  · intro b hb
    rcases List.mem_cons.mp hb with rfl | hb
    · exact off
    · cases List.mem_singleton.mp hb
      exact list_off S hlI

theorem opens_nums {x : Str} {px : Pos} {iter : Expr} {P : Nat → (Nat → Sg → (Sg → Prop) → Prop) → Sg → Prop} (hh : A.handled = none)
    (h : T w A env (eval iter env) (fun v σ₁ => ∃ ns, (v, .nums ns) ∈ σ₁.fx ∧ P ns.length (bdNums x ns) σ₁) σ) : Opens w A env (.Name x px) iter σ P := by
  intro h₀ s K E S k
  refine h.go S fun v h' tk' σ₁ S₁ ⟨ns, hm, p⟩ => ?_
  obtain ⟨hI, S₁⟩ := S₁
  obtain ⟨l, e, vs, hlI, hi⟩ := S₁.fx _ hm
  dsimp only at e
  subst e
  have hlen : vs.toArray.size = ns.length := by simp [hi.length]
  refine open_list (s := { s with heap := h', toks := tk' }) (bd := bdNums x ns) hh S₁ hlI ?_ fun I fp wr Sti h2 tk2 O => k I fp wr _ Sti (bdNums x ns) h2 tk2 σ₁ hI O (hlen ▸ p)
  rintro cenv i h₀ hI σ h v K hilt hl S hm hP ⟨hi', m', hp, hK⟩
  obtain ⟨t, hx⟩ := hi.get i ns[i] (by simp [hi'])
  have hv : v = .int ns[i] t := by
    have hP' : vs[i]? = some v := by simpa using hP
    rw [hx] at hP'; exact (Option.some.inj hP').symm
  exact ⟨.i ns[i], m', { σ with m := m' }, ⟨t, hv⟩, hp, rfl, fun p hp => .inl hp, hK⟩

/-- the item of a list of lists -/
theorem rows_at {cenv : Env} {h₀ hI h : Heap} {σ : Sg} {vl : Value} {l : Addr} {vs : Array Value} {rs : List (List Int)} {i : Nat} {v : Value} (S : StI w cenv h₀ σ h hI) (el : vl = .ref l) (hm : (vl, .rows rs) ∈ σ.fx) (hl : h.IsList l vs) (hP : vs[i]? = some v) (hi : i < rs.length) : Rep hI v (.nums rs[i]) := by
  obtain ⟨l', e, us, hus, hp⟩ := S.fx _ hm
  dsimp only at e
  rw [el] at e; cases e
  have := list_same hl (hus.at fun o q => S.kI _ _ q)
  subst this
  obtain ⟨y, hy, b, ws, eb, hb, hw⟩ := paired_get (i := i) (y := rs[i]) hp (by simp [hi])
  have hP' : us[i]? = some v := by simpa using hP
  rw [hy] at hP'; cases hP'
  exact ⟨b, eb, ws, hb, hw⟩
theorem opens_rows {x : Str} {px : Pos} {iter : Expr} {P : Nat → (Nat → Sg → (Sg → Prop) → Prop) → Sg → Prop} (hh : A.handled = none)
    (h : T w A env (eval iter env) (fun v σ₁ => ∃ rs, (v, .rows rs) ∈ σ₁.fx ∧ P rs.length (bdRows x v rs) σ₁) σ) : Opens w A env (.Name x px) iter σ P := by
  intro h₀ s K E S k
  refine h.go S fun v h' tk' σ₁ S₁ ⟨rs, hm, p⟩ => ?_
  obtain ⟨hI, S₁⟩ := S₁
  obtain ⟨l, e, vs, hlI, hi⟩ := S₁.fx _ hm
  dsimp only at e
  have hlen : vs.toArray.size = rs.length := by simp [hi.length]
  rw [show pyIter v = pyIter (.ref l) by rw [e]]
  refine open_list (s := { s with heap := h', toks := tk' }) (bd := bdRows x v rs) hh S₁ hlI ?_ fun I fp wr Sti h2 tk2 O => k I fp wr _ Sti (bdRows x v rs) h2 tk2 σ₁ hI O (hlen ▸ p)
  rintro cenv i h₀ hI σ h u K hilt hl S hoff hP ⟨hm', hi', hK⟩
  obtain ⟨m', hp, hK⟩ := hK u
  exact ⟨.v u, m', { σ with m := m', fx := (u, .nums rs[i]) :: σ.fx }, rfl, hp, rfl, fun q hq => (List.mem_cons.mp hq).elim (fun eq => .inr (eq ▸ rows_at S e hm' hl hP hi')) .inl, hK⟩
end
end Mine
end
section
open PySem PySem.W PyProof.Rows PySem.Calls
set_option Elab.async false
set_option linter.unusedVariables false
set_option linter.unusedSimpArgs false
set_option linter.unusedSectionVars false
set_option maxRecDepth 100000
set_option maxHeartbeats 4000000
namespace Mine
section
variable {w : World} {A : Around} {env : Env} {σ : Sg} {h₀ hI : Heap}

theorem opens_range {x : Str} {px : Pos} {iter : Expr} {P : Nat → (Nat → Sg → (Sg → Prop) → Prop) → Sg → Prop} (hh : A.handled = none)
    (h : T w A env (eval iter env) (fun v σ₁ => ∃ a b c, (v, .range a b c) ∈ σ₁.fx ∧ Builtin.Range.small a b c = true ∧ ∃ n : Nat, Builtin.Range.rangeSize a b c = n ∧ P n (bdRange x a c) σ₁) σ) : Opens w A env (.Name x px) iter σ P := by
  intro h₀ s K E S k
  refine h.go S fun v h' tk' σ₁ S₁ ⟨a, b, c, hm, hsm, n, hn, p⟩ => ?_
  obtain ⟨hI, S₁⟩ := S₁
  obtain ⟨r, e, t, u, z, hr⟩ := (S₁.fx _ hm).mono S₁.kI
  dsimp only at e
  subst e
  refine wpAny_pyIter_range hr hsm ?_
  dsimp only at hr ⊢
  rw [hn]
  have W := Walks.range (prog := PySem.Challenge.pw_nn0015_01) (w := w) hh h'.objs.size a c n
  have nI : h'.get? h'.objs.size = none := none_at_end h'
  obtain ⟨S3, off⟩ := S₁.pushed (o := { cls := .type "range_iterator", data := .fields #[rawInt a, rawInt n, rawInt c] })
  have hst : IsRangeIter (h'.push { cls := .type "range_iterator", data := .fields #[rawInt a, rawInt n, rawInt c] }) h'.objs.size (a + ((0 : Nat) : Int) * c) ((n : Int) - ((0 : Nat) : Int)) c := by
    have e1 : a + ((0 : Nat) : Int) * c = a := by simp
    have e2 : (n : Int) - ((0 : Nat) : Int) = n := by simp
    rw [e1, e2]
    exact Heap.get?_push_size _ rfl
  refine k _ _ _ _ _ (bdRange x a c) _ _ _ _ ⟨S3, fun cenv hx => Drive.of_walks W (local1 hx) ?_ ?_ ?_, hst, ?_, ?_, ?_, W.self⟩ p
  · intro i h st b hb
    cases List.mem_singleton.mp hb
    exact ⟨_, st⟩
  · intro i h st b hb
    cases List.mem_singleton.mp hb
    exact odd_fields (T := "range_iterator") (by decide) (by decide) ⟨_, st, rfl, rfl⟩
  · rintro i h₀ hI σ h v K hi st S hm ⟨t, rfl⟩ ⟨m', hp, hK⟩
    exact ⟨.i (a + i * c), m', { σ with m := m' }, ⟨t, rfl⟩, hp, rfl, fun p hp => .inl hp, hK⟩
  · intro b hb
    cases List.mem_singleton.mp hb
    exact none_of_sub S₁.kI nI
  · intro b hb
    cases List.mem_singleton.mp hb
    exact off
  · intro b hb
    cases List.mem_singleton.mp hb
    exact ⟨_, hst⟩

/-- a type of one argument, called by its name -/
theorem eval_ty1 {ty : String} {x : Str} {e : Expr} {pos p1 : Pos} {s : Shared} {K E : _} {QL : Value → Sg → Prop} (hm : btab.lookup x = some (.type ty)) (h : T w A env (eval e env) QL σ) (S : St w env h₀ σ s.heap)
    (k : ∀ l h' tk' σ₁, St w env h₀ σ₁ h' → QL l σ₁ → wpAny (model PySem.Challenge.pw_nn0015_01 w) A (call (.type ty) [l]) K E { s with heap := h', toks := tk' })
    (hx : env.kindOf x = some .globalImplicit) (hd : (x == ("__debug__" : Str)) = false) (he : starEach [e] env = [(false, eval e env)])
    (hc : eval (.Call (.Name x p1) [e] [] pos) env = (do callWith pos (← eval (.Name x p1) env) [] (backTo pos (starEach [e] env)) (backToKw pos (keywordEach [] env)))) :
    wpAny (model PySem.Challenge.pw_nn0015_01 w) A (eval (.Call (.Name x p1) [e] [] pos) env) K E s := by
  refine Call_ ((T_bi (w := w) (A := A) (env := env) (σ := σ) (pos := p1) (v := .type ty) (Q := fun v σ' => v = .type ty ∧ σ' = σ) hm ⟨rfl, rfl⟩ hx hd).go S fun f h1 tk1 σ1 S1 q => ?_) hc
  obtain ⟨e1, e2⟩ := q
  subst e1 e2
  have he' : starEach [e] env = (false, eval e env) :: starEach [] env := he
  refine callWith_type1 ((T_sp_cons (pos := pos) (rest := []) (Q := fun vs σ' => ∃ l, vs = [l] ∧ QL l σ') (h.mono fun v σ' q => T_sp_nil ⟨v, rfl, q⟩) he').go S1 fun vs h2 tk2 σ2 S2 q => ?_) he' (by rfl)
  obtain ⟨l, el, q⟩ := q
  subst el
  exact k l h2 tk2 σ2 S2 q
theorem eval_ty2 {ty : String} {x : Str} {e e' : Expr} {pos p1 : Pos} {s : Shared} {K E : _} {QL : Value → Value → Sg → Prop} (hm : btab.lookup x = some (.type ty)) (h : T w A env (eval e env) (fun l σ₁ => T w A env (eval e' env) (fun r σ₂ => QL l r σ₂) σ₁) σ) (S : St w env h₀ σ s.heap)
    (k : ∀ l r h' tk' σ₁, St w env h₀ σ₁ h' → QL l r σ₁ → wpAny (model PySem.Challenge.pw_nn0015_01 w) A (call (.type ty) [l, r]) K E { s with heap := h', toks := tk' })
    (hx : env.kindOf x = some .globalImplicit) (hd : (x == ("__debug__" : Str)) = false) (he : starEach [e, e'] env = [(false, eval e env), (false, eval e' env)]) (he2 : starEach [e'] env = [(false, eval e' env)])
    (hc : eval (.Call (.Name x p1) [e, e'] [] pos) env = (do callWith pos (← eval (.Name x p1) env) [] (backTo pos (starEach [e, e'] env)) (backToKw pos (keywordEach [] env)))) :
    wpAny (model PySem.Challenge.pw_nn0015_01 w) A (eval (.Call (.Name x p1) [e, e'] [] pos) env) K E s := by
  refine Call_ ((T_bi (w := w) (A := A) (env := env) (σ := σ) (pos := p1) (v := .type ty) (Q := fun v σ' => v = .type ty ∧ σ' = σ) hm ⟨rfl, rfl⟩ hx hd).go S fun f h1 tk1 σ1 S1 q => ?_) hc
  obtain ⟨e1, e2⟩ := q
  subst e1 e2
  have he' : starEach [e, e'] env = (false, eval e env) :: starEach [e'] env := by rw [he, he2]
  have he2' : starEach [e'] env = (false, eval e' env) :: starEach [] env := he2
  refine callWith_type1 ((T_sp_cons (pos := pos) (rest := [e']) (Q := fun vs σ' => ∃ l r, vs = [l, r] ∧ QL l r σ') (h.mono fun v σ' q => T_sp_cons (q.mono fun u σ'' q => T_sp_nil ⟨v, u, rfl, q⟩) he2') he').go S1 fun vs h2 tk2 σ2 S2 q => ?_) he' (by rw [he2]; rfl)
  obtain ⟨l, r, el, q⟩ := q
  subst el
  exact k l r h2 tk2 σ2 S2 q

theorem ne_nat {a b : Nat} (h : ¬ a = b) : (a : Addr) ≠ b := h
theorem zip_apart (I l1 l2 : Nat) (h1 : l1 < I) (h2 : l2 < I) : ZipApart (I + 4) (I + 2) (I + 3) I (I + 1) l1 l2 := by
  constructor <;> (refine ne_nat ?_; (first | lia | omega))
theorem open_enum {x y : Str} {px py tp : Pos} {kk : Nat} {s : Shared} {K E : Value → Shared → Prop} {l : Addr} {vs : Array Value} {bd : Nat → Sg → (Sg → Prop) → Prop} (hh : A.handled = none) (S : StI w env h₀ σ s.heap hI) (hlI : hI.IsList l vs)
    (hb : ∀ cenv i h₀ hI σ h v t K, i < vs.size → h.IsList l vs → StI w cenv h₀ σ h hI → l ∉ mutAddrs cenv σ → vs[i]? = some v → bd i σ K →
      ∃ av0 m' av1 m'' σ', av0.Is (.int i t) ∧ av1.Is v ∧ Put x av0 σ.m m' ∧ Put y av1 m' m'' ∧ σ' = { σ with m := m'', fx := σ'.fx } ∧ (∀ p ∈ σ'.fx, p ∈ σ.fx ∨ Rep hI p.1 p.2) ∧ K σ')
    (k : ∀ I fp wr Sti h' tk', Opened w A env (.Tuple [.Name x px, .Name y py] kk tp) h₀ h' hI σ I fp wr vs.size Sti bd → K (.ref I) { s with heap := h', toks := tk' }) :
    wpAny (model PySem.Challenge.pw_nn0015_01 w) A (call (.type "enumerate") [.ref l]) (fun xv s₁ => wpAny (model PySem.Challenge.pw_nn0015_01 w) A (pyIter xv) K E s₁) E s := by
  have hl : s.heap.IsList l vs := hlI.at fun o q => S.kI _ _ q
  have hlt : l < s.heap.objs.size := by obtain ⟨o, ho, _⟩ := hl; exact Heap.lt_size ho
  refine call_enumerate_list hl fun h' hE hit hsz hk => ?_
  refine wpAny_pyIter_enum hE ?_
  have S3 := S.grow (h' := h') hk
  have n0 : s.heap.get? s.heap.objs.size = none := none_at_end _
  have n1 : s.heap.get? (s.heap.objs.size + 1) = none := Heap.get?_none_of_le (Nat.le_succ _)
  have W := (WalksT.enumerate (prog := PySem.Challenge.pw_nn0015_01) (w := w) hh (s.heap.objs.size + 1) s.heap.objs.size l (Nat.succ_ne_self _) (Nat.ne_of_lt (Nat.lt_succ_of_lt hlt)) (Nat.ne_of_lt hlt) vs).toU
  have hst : (∃ old, IsEnum h' (s.heap.objs.size + 1) s.heap.objs.size ((0 : Nat) : Int) old) ∧ h'.IsListIter s.heap.objs.size l 0 ∧ h'.IsList l vs := ⟨⟨_, hE⟩, hit, hl.at fun o e => hk l o e⟩
  have hex : ∀ (i : Nat) (h : Heap), ((∃ old, IsEnum h (s.heap.objs.size + 1) s.heap.objs.size (i : Int) old) ∧ h.IsListIter s.heap.objs.size l i ∧ h.IsList l vs) → ∀ b ∈ [s.heap.objs.size + 1, s.heap.objs.size, l], ∃ o, h.get? b = some o := by
    rintro i h ⟨⟨old, he⟩, ⟨o, ho, _⟩, o', ho', _⟩ b hb
    rcases List.mem_cons.mp hb with rfl | hb
    · exact ⟨_, he⟩
    · rcases List.mem_cons.mp hb with rfl | hb
      · exact ⟨o, ho⟩
      · cases List.mem_singleton.mp hb
        exact ⟨o', ho'⟩
  refine k _ _ _ _ _ _ ⟨S3, fun cenv hx => Drive.of_pairs hh W (local2 hx).1 (local2 hx).2 hex ?_ ?_ ?_ ?_, hst, ?_, ?_, hex _ _ hst, W.self⟩
  · rintro i h ⟨⟨old, he⟩, ⟨o, ho, hc, hd⟩, _⟩ b hb
    rcases List.mem_cons.mp hb with rfl | hb
    · exact odd_fields (T := "enumerate") (by decide) (by decide) ⟨_, he, rfl, rfl⟩
    · cases List.mem_singleton.mp hb
      exact odd_fields (T := "list_iterator") (by decide) (by decide) ⟨_, ho, hc, hd⟩
  · rintro i T h ⟨⟨x, he⟩, ⟨o, ho, hc, hd⟩, _⟩ b hb
    rcases List.mem_cons.mp hb with rfl | hb
    · exact odd_fields (T := "enumerate") (by decide) (by decide) ⟨_, he, rfl, rfl⟩
    · cases List.mem_singleton.mp hb
      exact odd_fields (T := "list_iterator") (by decide) (by decide) ⟨_, ho, hc, hd⟩
  · rintro i vals ⟨t, x, _, e⟩
    exact ⟨_, _, e⟩
  · rintro i h₀ hI σ h v0 v1 K hi st S hm ⟨t, x', hx', e⟩ hbd
    obtain ⟨e1, e2⟩ : v0 = .int i t ∧ v1 = x' := by simpa using congrArg Array.toList e
    subst e1 e2
    exact hb cenv i h₀ hI σ h v1 t K hi st.2.2 S (hm l (by simp)) hx' hbd
  · intro b hb
    rcases List.mem_cons.mp hb with rfl | hb
    · exact none_of_sub S.kI n1
    · cases List.mem_singleton.mp hb
      exact none_of_sub S.kI n0
  · intro b hb
    rcases List.mem_cons.mp hb with rfl | hb
    · exact S.fresh n1
    · rcases List.mem_cons.mp hb with rfl | hb
      · exact S.fresh n0
      · cases List.mem_singleton.mp hb
        exact list_off S hlI

theorem opens_enumN {x y ef : Str} {px py tp p1 pos : Pos} {kk : Nat} {e : Expr} {P : Nat → (Nat → Sg → (Sg → Prop) → Prop) → Sg → Prop} (hh : A.handled = none)
    (h : T w A env (eval e env) (fun v σ₁ => ∃ ns, (v, .nums ns) ∈ σ₁.fx ∧ P ns.length (bdEnumN x y ns) σ₁) σ)
    (hef : ef = "enumerate" := by rfl) (hx : env.kindOf "enumerate" = some .globalImplicit := by kernel_rfl) (he : starEach [e] env = [(false, eval e env)] := by kernel_rfl)
    (hc : eval (.Call (.Name "enumerate" p1) [e] [] pos) env = (do callWith pos (← eval (.Name "enumerate" p1) env) [] (backTo pos (starEach [e] env)) (backToKw pos (keywordEach [] env))) := by kernel_rfl) :
    Opens w A env (.Tuple [.Name x px, .Name y py] kk tp) (.Call (.Name ef p1) [e] [] pos) σ P := by
  subst hef
  intro h₀ s K E S k
  refine eval_ty1 (ty := "enumerate") (by kernel_rfl) h S (fun v h' tk' σ₁ S₁ q => ?_) hx (by decide +kernel) he hc
  obtain ⟨ns, hm, p⟩ := q
  obtain ⟨hI, S₁⟩ := S₁
  obtain ⟨l, e, vs, hlI, hi⟩ := S₁.fx _ hm
  dsimp only at e
  subst e
  have hlen : vs.toArray.size = ns.length := by simp [hi.length]
  refine open_enum (s := { s with heap := h', toks := tk' }) (bd := bdEnumN x y ns) hh S₁ hlI ?_ fun I fp wr Sti h2 tk2 O => k I fp wr _ Sti (bdEnumN x y ns) h2 tk2 σ₁ hI O (hlen ▸ p)
  rintro cenv i h₀ hI σ h v t0 K hilt hl S hm hP ⟨hi', m', m'', hp, hp', hK⟩
  obtain ⟨t, hx⟩ := hi.get i ns[i] (by simp [hi'])
  have hv : v = .int ns[i] t := by
    have hP' : vs[i]? = some v := by simpa using hP
    rw [hx] at hP'; exact (Option.some.inj hP').symm
  exact ⟨.i i, m', .i ns[i], m'', { σ with m := m'' }, ⟨t0, rfl⟩, ⟨t, hv⟩, hp, hp', rfl, fun p hp => .inl hp, hK⟩
theorem opens_enumR {x y ef : Str} {px py tp p1 pos : Pos} {kk : Nat} {e : Expr} {P : Nat → (Nat → Sg → (Sg → Prop) → Prop) → Sg → Prop} (hh : A.handled = none)
    (h : T w A env (eval e env) (fun v σ₁ => ∃ rs, (v, .rows rs) ∈ σ₁.fx ∧ P rs.length (bdEnumR x y v rs) σ₁) σ)
    (hef : ef = "enumerate" := by rfl) (hx : env.kindOf "enumerate" = some .globalImplicit := by kernel_rfl) (he : starEach [e] env = [(false, eval e env)] := by kernel_rfl)
    (hc : eval (.Call (.Name "enumerate" p1) [e] [] pos) env = (do callWith pos (← eval (.Name "enumerate" p1) env) [] (backTo pos (starEach [e] env)) (backToKw pos (keywordEach [] env))) := by kernel_rfl) :
    Opens w A env (.Tuple [.Name x px, .Name y py] kk tp) (.Call (.Name ef p1) [e] [] pos) σ P := by
  subst hef
  intro h₀ s K E S k
  refine eval_ty1 (ty := "enumerate") (by kernel_rfl) h S (fun v h' tk' σ₁ S₁ q => ?_) hx (by decide +kernel) he hc
  obtain ⟨rs, hm, p⟩ := q
  obtain ⟨hI, S₁⟩ := S₁
  obtain ⟨l, e, vs, hlI, hi⟩ := S₁.fx _ hm
  dsimp only at e
  have hlen : vs.toArray.size = rs.length := by simp [hi.length]
  rw [show call (.type "enumerate") [v] = call (.type "enumerate") [.ref l] by rw [e]]
  refine open_enum (s := { s with heap := h', toks := tk' }) (bd := bdEnumR x y v rs) hh S₁ hlI ?_ fun I fp wr Sti h2 tk2 O => k I fp wr _ Sti (bdEnumR x y v rs) h2 tk2 σ₁ hI O (hlen ▸ p)
  rintro cenv i h₀ hI σ h u t0 K hilt hl S hoff hP ⟨hm', hi', hK⟩
  obtain ⟨m', m'', hp, hp', hK⟩ := hK u
  exact ⟨.i i, m', .v u, m'', { σ with m := m'', fx := (u, .nums rs[i]) :: σ.fx }, ⟨t0, rfl⟩, rfl, hp, hp', rfl, fun q hq => (List.mem_cons.mp hq).elim (fun eq => .inr (eq ▸ rows_at S e hm' hl hP hi')) .inl, hK⟩

theorem opens_zip {x y ef : Str} {px py tp p1 pos : Pos} {kk : Nat} {e e' : Expr} {P : Nat → (Nat → Sg → (Sg → Prop) → Prop) → Sg → Prop} (hh : A.handled = none)
    (h : T w A env (eval e env) (fun v σ₁ => T w A env (eval e' env) (fun u σ₂ => ∃ rs ss, (v, .rows rs) ∈ σ₂.fx ∧ (u, .rows ss) ∈ σ₂.fx ∧ P (min rs.length ss.length) (bdZip x y v u rs ss) σ₂) σ₁) σ)
    (hef : ef = "zip" := by rfl) (hx : env.kindOf "zip" = some .globalImplicit := by kernel_rfl) (he : starEach [e, e'] env = [(false, eval e env), (false, eval e' env)] := by kernel_rfl) (he2 : starEach [e'] env = [(false, eval e' env)] := by kernel_rfl)
    (hc : eval (.Call (.Name "zip" p1) [e, e'] [] pos) env = (do callWith pos (← eval (.Name "zip" p1) env) [] (backTo pos (starEach [e, e'] env)) (backToKw pos (keywordEach [] env))) := by kernel_rfl) :
    Opens w A env (.Tuple [.Name x px, .Name y py] kk tp) (.Call (.Name ef p1) [e, e'] [] pos) σ P := by
  subst hef
  intro h₀ s K E S k
  refine eval_ty2 (ty := "zip") (by kernel_rfl) h S (fun v u h' tk' σ₁ S₁ q => ?_) hx (by decide +kernel) he he2 hc
  obtain ⟨rs, ss, hm, hm2, p⟩ := q
  obtain ⟨hI, S⟩ := S₁
  obtain ⟨l, e, vs, hlI, hi⟩ := S.fx _ hm
  obtain ⟨l2, e2, us, hlI2, hi2⟩ := S.fx _ hm2
  dsimp only at e e2
  have hlen : min vs.toArray.size us.toArray.size = min rs.length ss.length := by simp [hi.length, hi2.length]
  rw [show call (.type "zip") [v, u] = call (.type "zip") [.ref l, .ref l2] by rw [e, e2]]
  have hl : h'.IsList l vs.toArray := hlI.at fun o q => S.kI _ _ q
  have hl2 : h'.IsList l2 us.toArray := hlI2.at fun o q => S.kI _ _ q
  have hlt : l < h'.objs.size := by obtain ⟨o, ho, _⟩ := hl; exact Heap.lt_size ho
  have hlt2 : l2 < h'.objs.size := by obtain ⟨o, ho, _⟩ := hl2; exact Heap.lt_size ho
  have D : ZipApart (h'.objs.size + 4) (h'.objs.size + 2) (h'.objs.size + 3) h'.objs.size (h'.objs.size + 1) l l2 := by
    exact zip_apart _ _ _ hlt hlt2
  refine call_zip_2 (s := { s with heap := h', toks := tk' }) hl hl2 fun h2 hz hTI hTO hi1 hi2' hsz hk => ?_
  dsimp only at hz hTI hTO hi1 hi2' hsz hk ⊢
  refine wpAny_pyIter_zip hz ?_
  have S3 := S.grow (h' := h2) hk
  have new : ∀ c, h'.objs.size ≤ c → h'.get? c = none := fun c hc => Heap.get?_none_of_le hc
  have W := (WalksT.zip2 (prog := PySem.Challenge.pw_nn0015_01) (w := w) hh _ _ _ _ _ _ _ D vs.toArray us.toArray).toU
  have hst : IsZip h2 (h'.objs.size + 4) (h'.objs.size + 2) (h'.objs.size + 3) .none ∧ IsPair h2 (h'.objs.size + 2) (.ref h'.objs.size) (.ref (h'.objs.size + 1)) ∧ (∃ a b, IsPair h2 (h'.objs.size + 3) a b) ∧ h2.IsListIter h'.objs.size l 0 ∧ h2.IsListIter (h'.objs.size + 1) l2 0 ∧ h2.IsList l vs.toArray ∧ h2.IsList l2 us.toArray :=
    ⟨hz, hTI, ⟨_, _, hTO⟩, hi1, hi2', hl.at fun o e => hk l o e, hl2.at fun o e => hk l2 o e⟩
  have hex : ∀ (i : Nat) (h : Heap), (IsZip h (h'.objs.size + 4) (h'.objs.size + 2) (h'.objs.size + 3) .none ∧ IsPair h (h'.objs.size + 2) (.ref h'.objs.size) (.ref (h'.objs.size + 1)) ∧ (∃ a b, IsPair h (h'.objs.size + 3) a b) ∧ h.IsListIter h'.objs.size l i ∧ h.IsListIter (h'.objs.size + 1) l2 i ∧ h.IsList l vs.toArray ∧ h.IsList l2 us.toArray) →
      ∀ b ∈ [h'.objs.size + 4, h'.objs.size + 2, h'.objs.size + 3, h'.objs.size, h'.objs.size + 1, l, l2], ∃ o, h.get? b = some o := by
    rintro i h ⟨h1, h2, ⟨a, b', h3⟩, ⟨o4, h4, _⟩, ⟨o5, h5, _⟩, ⟨o6, h6, _⟩, ⟨o7, h7, _⟩⟩ b hb
    simp only [List.mem_cons, List.not_mem_nil, or_false] at hb
    rcases hb with rfl | rfl | rfl | rfl | rfl | rfl | rfl
    · exact ⟨_, h1⟩
    · exact ⟨_, h2⟩
    · exact ⟨_, h3⟩
    · exact ⟨_, h4⟩
    · exact ⟨_, h5⟩
    · exact ⟨_, h6⟩
    · exact ⟨_, h7⟩
  have oddT : ∀ {h : Heap} {b : Addr} {vs : Array Value} , (∃ o, h.get? b = some o ∧ o.cls = .type "tuple" ∧ ∃ n, o.data = .seq vs n) → Odd h b := by
    rintro h b vs ⟨o, ho, hc, n, hd⟩
    exact ⟨o, ho, (by rw [hc]; decide), (by rw [hc]; decide), (fun v e => (by rw [hd] at e; cases e)), fun es ep e => (by rw [hd] at e; cases e)⟩
  have odd : ∀ (i : Nat) (h : Heap) (f0 : Value), IsZip h (h'.objs.size + 4) (h'.objs.size + 2) (h'.objs.size + 3) f0 → (∃ a b, IsPair h (h'.objs.size + 3) a b) → h.IsListIter h'.objs.size l i → h.IsListIter (h'.objs.size + 1) l2 i →
      ∀ b ∈ [h'.objs.size + 4, h'.objs.size + 3, h'.objs.size, h'.objs.size + 1], Odd h b := by
    rintro i h f0 h1 ⟨a, b', h3⟩ ⟨o4, h4, c4, d4⟩ ⟨o5, h5, c5, d5⟩ b hb
    simp only [List.mem_cons, List.not_mem_nil, or_false] at hb
    rcases hb with rfl | rfl | rfl | rfl
    · exact odd_fields (T := "zip") (by decide) (by decide) ⟨_, h1, rfl, rfl⟩
    · exact oddT ⟨_, h3, rfl, _, rfl⟩
    · exact odd_fields (T := "list_iterator") (by decide) (by decide) ⟨_, h4, c4, d4⟩
    · exact odd_fields (T := "list_iterator") (by decide) (by decide) ⟨_, h5, c5, d5⟩
  refine k _ _ _ _ _ (bdZip x y v u rs ss) h2 tk' σ₁ hI ⟨S3, fun cenv hx => Drive.of_pairs hh W (local2 hx).1 (local2 hx).2 hex ?_ ?_ ?_ ?_, hst, ?_, ?_, hex _ _ hst, W.self⟩ (hlen ▸ p)
  · rintro i h ⟨h1, h2, h3, h4, h5, _⟩
    exact odd i h _ h1 h3 h4 h5
  · rintro i T h ⟨h1, h2, h3, h4, h5, _⟩
    exact odd (i + 1) h _ h1 h3 h4 h5
  · rintro i vals ⟨a, b, _, _, e⟩
    exact ⟨_, _, e⟩
  · rintro i h₀ hI σ h v0 v1 K hi st S hm ⟨a, b, ha, hb, e'⟩ ⟨f1, f2, i1, i2, hK⟩
    obtain ⟨e1, e2⟩ : v0 = a ∧ v1 = b := by simpa using congrArg Array.toList e'
    subst e1 e2
    obtain ⟨m', m'', hp, hp', hK⟩ := hK v0 v1
    refine ⟨.v v0, m', .v v1, m'', { σ with m := m'', fx := (v0, .nums rs[i]) :: (v1, .nums ss[i]) :: σ.fx }, rfl, rfl, hp, hp', rfl, fun q hq => ?_, hK⟩
    rcases List.mem_cons.mp hq with rfl | hq
    · exact .inr (rows_at S e f1 st.2.2.2.2.2.1 ha i1)
    · rcases List.mem_cons.mp hq with rfl | hq
      · exact .inr (rows_at S (by assumption) f2 st.2.2.2.2.2.2 hb i2)
      · exact .inl hq
  · intro b hb
    simp only [List.mem_cons, List.not_mem_nil, or_false] at hb
    refine none_of_sub S.kI (new b ?_)
    rcases hb with rfl | rfl | rfl | rfl <;> first | exact Nat.le_refl _ | exact Nat.le_add_right ..
  · intro b hb
    simp only [List.mem_cons, List.not_mem_nil, or_false] at hb
    rcases hb with rfl | rfl | rfl | rfl | rfl | rfl | rfl
    · exact S.fresh (new _ (Nat.le_add_right ..))
    · exact S.fresh (new _ (Nat.le_add_right ..))
    · exact S.fresh (new _ (Nat.le_add_right ..))
    · exact S.fresh (new _ (Nat.le_refl _))
    · exact S.fresh (new _ (Nat.le_add_right ..))
    · exact list_off S hlI
    · exact list_off S hlI2
end
end Mine
end
section
open PySem PySem.W PyProof.Rows PySem.Calls
set_option Elab.async false
set_option linter.unusedVariables false
set_option linter.unusedSimpArgs false
set_option linter.unusedSectionVars false
set_option maxRecDepth 100000
set_option maxHeartbeats 4000000
namespace Mine
/-- the tests of a comprehension -/
def ctests (ifs : List Expr) (env : Env) : Sem Bool := forIn ifs true fun c r => if r = true then do let ok ← isTrue c env (eval c env); pure (ForInStep.yield ok) else pure (ForInStep.yield r)

section
variable {w : World} {A : Around} {env : Env} {σ : Sg} {h₀ hI : Heap}
theorem T_tests_nil {Q : Bool → Sg → Prop} (h : Q true σ) : T w A env (ctests [] env) Q σ := by
  refine T.mk fun _ _ S => ?_
  exact wpAny_tests_nil (Fin.here S h)
theorem T_tests_one {c : Expr} {Q : Bool → Sg → Prop} (h : T w A env (isTrue c env (eval c env)) Q σ) : T w A env (ctests [c] env) Q σ := by
  refine T.mk fun h₀ s S => ?_
  exact wpAny_tests_one (h.run h₀ s S)

theorem T_addNum {acc : Value} {n : Int} {t : Tok} {ns : List Int} {ow' : List (Value × D)} {Q : Value → Sg → Prop} (c : Chg acc (.nums ns) (.nums (ns ++ [n])) σ.ow ow') (hlen : ns.length ≤ 1000) (h : Q .none { σ with ow := ow' }) :
    T w A env (call (.builtin "list.append") [acc, .int n t]) Q σ := by
  refine T.mk fun h₀ s S => ?_
  obtain ⟨hI, S⟩ := S
  obtain ⟨a, e, hn, hL, vs, hl, hi⟩ := S.ow _ c.mem
  dsimp only at e
  subst e
  have hl' := hi.length
  refine wpAny_list_append hl (fun h3 hl3 hs => ⟨h3, s.toks, rfl, _, St.chg S c hs.extBut ⟨vs ++ [.int n t], by simpa using hl3, hi.append (.cons n t .nil)⟩, h⟩) (by simp only [List.size_toArray]; rw [sizeLine_eq]; (first | lia | omega))
theorem T_addRow {acc y : Value} {r : List Int} {rs : List (List Int)} {ow' : List (Value × D)} {Q : Value → Sg → Prop} (hy : (y, .nums r) ∈ σ.fx) (c : Chg acc (.rows rs) (.rows (rs ++ [r])) σ.ow ow') (hlen : rs.length ≤ 1000) (h : Q .none { σ with ow := ow' }) :
    T w A env (call (.builtin "list.append") [acc, y]) Q σ := by
  refine T.mk fun h₀ s S => ?_
  obtain ⟨hI, S⟩ := S
  obtain ⟨a, e, hn, hL, vs, hl, hi⟩ := S.ow _ c.mem
  dsimp only at e
  subst e
  have hl' := hi.length
  obtain ⟨b, eb, us, hb, hu⟩ := S.fx _ hy
  refine wpAny_list_append hl (fun h3 hl3 hs => ⟨h3, s.toks, rfl, _, St.chg S c hs.extBut ⟨vs ++ [y], by simpa using hl3, paired_append hi (.cons ⟨b, us, eb, hb, hu⟩ .nil)⟩, h⟩) (by simp only [List.size_toArray]; rw [sizeLine_eq]; (first | lia | omega))

/-- a comprehension's turns -/
theorem comp_turns {elt target iter : Expr} {ifs : List Expr} {scope : Scope} {pos : Pos} {it acc : Value} {R : Result → Shared → Prop} {s : Shared} (I : Nat → Shared → Prop)
    (turn : ∀ n s, I n s → wpAny (model PySem.Challenge.pw_nn0015_01 w) A (pyNext it) (fun r s₁ => (r = none ∧ R (.ok .next) s₁) ∨ ∃ v, r = some v ∧
      wpAny (model PySem.Challenge.pw_nn0015_01 w) A (letOwnedTupleGo target it v) (fun _ s₂ => wpAny (model PySem.Challenge.pw_nn0015_01 w) A (assign target env v) (fun _ s₃ =>
        wpAny (model PySem.Challenge.pw_nn0015_01 w) A (ctests ifs env) (fun ok s₄ => (ok = true → wpAny (model PySem.Challenge.pw_nn0015_01 w) A (eval elt env) (fun x s₅ =>
          wpAny (model PySem.Challenge.pw_nn0015_01 w) A (call (.builtin "list.append") [acc, x]) (fun _ s₆ => ∃ m, m < n ∧ I m s₆) (fun _ _ => False) s₅) (fun _ _ => False) s₄) ∧ (ok = false → ∃ m, m < n ∧ I m s₄)) (fun _ _ => False) s₃) (fun _ _ => False) s₂) (fun _ _ => False) s₁) (fun _ _ => False) s)
    (n : Nat) (h : I n s) : codeAny (model PySem.Challenge.pw_nn0015_01 w) A (.compLoop (.ListComp elt [⟨target, iter, ifs, 0⟩] scope pos) 0 it acc env) R s := by
  refine codeAny_loop rfl I (fun n s hI => ?_) n h
  show wpAny _ A ((compTurn (.ListComp elt [⟨target, iter, ifs, 0⟩] scope pos) 0 it acc env).onRaise (fun x => do noteFrame x env; theTreesLotGoes x)) _ _ s
  refine wpAny_noted ?_
  rw [compTurn_list]
  refine wpAny_bind (wpAny_standAt (wpAny_bind (wpAny_mono (turn n s hI) (fun r s₁ h₁ => ?_) fun _ _ f => f.elim)))
  rcases h₁ with ⟨rfl, h₁⟩ | ⟨v, rfl, h₁⟩
  · exact wpAny_pure h₁
  · refine wpAny_bind (wpAny_mono h₁ (fun _ s₂ h₂ => wpAny_bind (wpAny_mono h₂ (fun _ s₃ h₃ => wpAny_bind (wpAny_mono h₃ (fun ok s₄ h₄ => ?_) fun _ _ f => f.elim)) fun _ _ f => f.elim)) fun _ _ f => f.elim)
    cases ok with
    | false => exact wpAny_pure ⟨rfl, h₄.2 rfl⟩
    | true =>
      exact wpAny_bind (wpAny_bind (wpAny_mono (h₄.1 rfl) (fun x s₅ h₅ => wpAny_bind (wpAny_mono h₅ (fun _ s₆ h₆ => wpAny_pure (wpAny_pure ⟨rfl, h₆⟩)) fun _ _ f => f.elim)) fun _ _ f => f.elim))

theorem cloop {elt target iter : Expr} {ifs : List Expr} {scope : Scope} {pos : Pos} {acc : Value} {R : Result → Shared → Prop} {I : Addr} {fp wr : List Addr} {n : Nat} {Sti : Nat → Heap → Prop} {bd : Nat → Sg → (Sg → Prop) → Prop} (D : Drive w A env target I fp wr n Sti bd)
    {s : Shared} (J : Nat → Sg → Prop) (S : StI w env h₀ σ s.heap hI) (hwI : ∀ b ∈ wr, hI.get? b = none) (hfm : ∀ b ∈ fp, b ∉ mutAddrs env σ) (hff : ∀ v ∈ σ.fr, ∀ b ∈ fp, v ≠ .ref b) (hst : Sti 0 s.heap) (h0 : J 0 σ)
    (turn : ∀ i σ', i < n → J i σ' → bd i σ' fun σ'' => T w A env (ctests ifs env) (fun ok σ₃ => (ok = true → T w A env (eval elt env) (fun x σ₄ => T w A env (call (.builtin "list.append") [acc, x]) (fun _ σ₅ => J (i + 1) σ₅) σ₄) σ₃) ∧ (ok = false → J (i + 1) σ₃)) σ'')
    (fin : ∀ h' tk' σ', St w env h₀ σ' h' → J n σ' → R (.ok .next) { s with heap := h', toks := tk' }) :
    codeAny (model PySem.Challenge.pw_nn0015_01 w) A (.compLoop (.ListComp elt [⟨target, iter, ifs, 0⟩] scope pos) 0 (.ref I) acc env) R s := by
  refine comp_turns
    (fun k s' => ∃ h' tk' σ' hI' i, s' = { s with heap := h', toks := tk' } ∧ StI w env h₀ σ' h' hI' ∧ (∀ b ∈ wr, hI'.get? b = none) ∧ (∀ b ∈ fp, b ∉ mutAddrs env σ') ∧ (∀ v ∈ σ'.fr, ∀ b ∈ fp, v ≠ .ref b) ∧ Sti i h' ∧ J i σ' ∧ i ≤ n ∧ k = n + 1 - i)
    ?_ (n + 1) ⟨s.heap, s.toks, σ, hI, 0, rfl, S, hwI, hfm, hff, hst, h0, Nat.zero_le _, rfl⟩
  rintro k s' ⟨h', tk', σ', hI', i, rfl, S', hw', hm', hf', st', hJ, hi, rfl⟩
  by_cases hlt : i < n
  · refine wpAny_mono (D.item i h₀ hI' σ' _ _ (fun _ s₃ => wpAny (model PySem.Challenge.pw_nn0015_01 w) A (ctests ifs env) (fun ok s₄ => (ok = true → wpAny (model PySem.Challenge.pw_nn0015_01 w) A (eval elt env) (fun x s₅ =>
          wpAny (model PySem.Challenge.pw_nn0015_01 w) A (call (.builtin "list.append") [acc, x]) (fun _ s₆ => ∃ m, m < n + 1 - i ∧ ∃ h' tk' σ' hI' i, s₆ = { s with heap := h', toks := tk' } ∧ StI w env h₀ σ' h' hI' ∧ (∀ b ∈ wr, hI'.get? b = none) ∧ (∀ b ∈ fp, b ∉ mutAddrs env σ') ∧ (∀ v ∈ σ'.fr, ∀ b ∈ fp, v ≠ .ref b) ∧ Sti i h' ∧ J i σ' ∧ i ≤ n ∧ m = n + 1 - i) (fun _ _ => False) s₅) (fun _ _ => False) s₄) ∧
          (ok = false → ∃ m, m < n + 1 - i ∧ ∃ h' tk' σ' hI' i, s₄ = { s with heap := h', toks := tk' } ∧ StI w env h₀ σ' h' hI' ∧ (∀ b ∈ wr, hI'.get? b = none) ∧ (∀ b ∈ fp, b ∉ mutAddrs env σ') ∧ (∀ v ∈ σ'.fr, ∀ b ∈ fp, v ≠ .ref b) ∧ Sti i h' ∧ J i σ' ∧ i ≤ n ∧ m = n + 1 - i)) (fun _ _ => False) s₃)
      (fun _ _ => False) hlt st' S' hw' hm' (turn i σ' hlt hJ) fun h2 tk2 σ2 st2 S2 efr eow K2 => ?_) (fun r s₁ hr => .inr hr) fun _ _ f => f
    have hm2 : ∀ b ∈ fp, b ∉ mutAddrs env σ2 := fun b hb => by
      have := hm' b hb
      unfold mutAddrs at this ⊢
      rw [eow]; exact this
    have hf2 : ∀ v ∈ σ2.fr, ∀ b ∈ fp, v ≠ .ref b := by rw [efr]; exact hf'
    have k0 : Sub h₀ h2 := fun b o e => S2.kI _ _ (S2.k0 _ _ e)
    have hB : Sub h₀ (baseOf h₀ h2 fp) := baseOf_old k0
    have hex : ∀ b ∈ fp, ∃ o, (baseOf h₀ h2 fp).get? b = some o := fun b hb => by
      obtain ⟨o, ho⟩ := D.ex _ _ st2 b hb
      exact ⟨o, baseOf_get ho (.inr hb)⟩
    have hw0 : ∀ b ∈ wr, h₀.get? b = none := fun b hb => none_of_sub S2.k0 (hw' b hb)
    have next : ∀ h3 tk3 σ3, St w env (baseOf h₀ h2 fp) σ3 h3 → J (i + 1) σ3 → ∃ m, m < n + 1 - i ∧ ∃ h' tk' σ' hI' i, ({ s with heap := h3, toks := tk3 } : Shared) = { s with heap := h', toks := tk' } ∧ StI w env h₀ σ' h' hI' ∧ (∀ b ∈ wr, hI'.get? b = none) ∧ (∀ b ∈ fp, b ∉ mutAddrs env σ') ∧ (∀ v ∈ σ'.fr, ∀ b ∈ fp, v ≠ .ref b) ∧ Sti i h' ∧ J i σ' ∧ i ≤ n ∧ m = n + 1 - i := by
      intro h3 tk3 σ3 S3 hj
      have keep : ∀ b ∈ fp, ∀ o, h2.get? b = some o → h3.get? b = some o := fun b hb o ho => S3.sub _ _ (baseOf_get ho (.inr hb))
      have st3 := D.frame _ _ h3 st2 keep
      obtain ⟨⟨hI3, S3', hw3⟩, hm3, hf3⟩ := S3.unbase (wr := wr) (fp := fp) hB S2.gl hw0 (fun b hb => D.odd _ _ st3 b hb) hex
      exact ⟨n + 1 - (i + 1), by (first | lia | omega), h3, tk3, σ3, hI3, i + 1, rfl, S3', hw3, hm3, hf3, st3, hj, hlt, rfl⟩
    refine K2.go (S2.rebase hm2 hf2) fun ok h3 tk3 σ3 S3 q => ⟨fun e => ?_, fun e => next h3 tk3 σ3 S3 (q.2 e)⟩
    exact (q.1 e).go S3 fun x h4 tk4 σ4 S4 q4 => q4.go S4 fun _ h5 tk5 σ5 S5 q5 => next h5 tk5 σ5 S5 q5
  · have e : i = n := by (first | lia | omega)
    subst e
    refine D.done _ _ _ st' fun h2 tk2 k2 => .inl ⟨rfl, ?_⟩
    have S2 := S'.but hw' (fun b hb => D.odd _ _ st' b hb) (fun b hb => hm' b (D.sub b hb)) k2
    exact fin h2 tk2 σ' ⟨hI', S2⟩ hJ
end
end Mine
end
section
open PySem PySem.W PyProof.Rows PySem.Calls
set_option Elab.async false
set_option linter.unusedVariables false
set_option linter.unusedSimpArgs false
set_option linter.unusedSectionVars false
set_option maxRecDepth 100000
set_option maxHeartbeats 4000000
namespace Mine
def ownAddrs (σ : Sg) : List Addr := σ.ow.filterMap fun p => match p.1 with | .ref a => some a | _ => none
/-- a comprehension stands between two frames -/
structure CompCtx (w : World) (env : Env) (scope : Scope) (cl : List (Str × Addr)) (h₀ h hI h₁ : Heap) (σ : Sg) (wr : List Addr) (C D : Addr) : Prop where
  S : StI w env h₀ σ h hI
  old : Sub h h₁
  nC : h.get? C = none
  nD : h.get? D = none
  CD : C ≠ D
  new : ∀ b ∈ wr, hI.get? b = none
  offw : ∀ b ∈ wr, b ∉ mutAddrs env σ
  cap : ∀ p ∈ cl, env.cells.lookup p.1 = some p.2 ∧ env.kindOf p.1 = some .cell
  all : ∀ x c, env.cells.lookup x = some c → env.kindOf x = some .cell
  kd : scope.kind = .function
  ck : ∀ p ∈ cl, (compEnvC scope cl C env).kindOf p.1 = some .cell

section
variable {w : World} {env : Env} {scope : Scope} {cl : List (Str × Addr)} {h₀ h hI h₁ : Heap} {σ : Sg} {wr : List Addr} {C D : Addr}

def hid (cl : List (Str × Addr)) (σ : Sg) (wr : List Addr) (C D : Addr) : List Addr := C :: D :: (cl.map (·.2) ++ (wr ++ ownAddrs σ))

theorem mem_mut_cell {x : Str} {c : Addr} (e : env.cells.lookup x = some c) (k : env.kindOf x = some .cell) : c ∈ mutAddrs env σ :=
  List.mem_cons_of_mem _ (List.mem_append_left _ (List.mem_filterMap.mpr ⟨x, List.mem_map.mpr ⟨(x, c), mem_cells e, rfl⟩, by rw [if_pos k]; exact e⟩))
theorem mem_own {a : Addr} (h : a ∈ ownAddrs σ) : ∃ p ∈ σ.ow, p.1 = .ref a := by
  obtain ⟨p, hp, e⟩ := List.mem_filterMap.mp h
  refine ⟨p, hp, ?_⟩
  split at e
  · rename_i b q; cases e; exact q
  · cases e
theorem own_mem {a : Addr} {p : Value × Mine.D} (hp : p ∈ σ.ow) (e : p.1 = .ref a) : a ∈ ownAddrs σ := List.mem_filterMap.mpr ⟨p, hp, by rw [e]⟩

theorem CompCtx.hid_none (X : CompCtx w env scope cl h₀ h hI h₁ σ wr C D) : ∀ b ∈ hid cl σ wr C D, hI.get? b = none := by
  intro b hb
  rcases List.mem_cons.mp hb with rfl | hb
  · exact none_of_sub X.S.kI X.nC
  rcases List.mem_cons.mp hb with rfl | hb
  · exact none_of_sub X.S.kI X.nD
  rcases List.mem_append.mp hb with hb | hb
  · obtain ⟨p, hp, rfl⟩ := List.mem_map.mp hb
    obtain ⟨e, k⟩ := X.cap p hp
    exact (X.S.cell _ _ e).2.2.2 k
  rcases List.mem_append.mp hb with hb | hb
  · exact X.new b hb
  · obtain ⟨p, hp, e⟩ := mem_own hb
    obtain ⟨a, ea, hn, _⟩ := X.S.ow p hp
    rw [e] at ea; cases ea
    exact hn
theorem CompCtx.sub (X : CompCtx w env scope cl h₀ h hI h₁ σ wr C D) : Sub hI (hideAll h₁ (hid cl σ wr C D)) := fun b o q =>
  hideAll_get _ (X.old _ _ (X.S.kI _ _ q)) fun hb => by rw [X.hid_none b hb] at q; cases q
/-- an old object that is not hidden -/
theorem CompCtx.kept (X : CompCtx w env scope cl h₀ h hI h₁ σ wr C D) {b : Addr} {o : Obj} (e : h.get? b = some o) (hc : ∀ p ∈ cl, p.2 ≠ b) (hm : b ∉ wr) (hw : ∀ p ∈ σ.ow, p.1 ≠ .ref b) : (hideAll h₁ (hid cl σ wr C D)).get? b = some o := by
  refine hideAll_get _ (X.old _ _ e) fun hb => ?_
  rcases List.mem_cons.mp hb with rfl | hb
  · rw [X.nC] at e; cases e
  rcases List.mem_cons.mp hb with rfl | hb
  · rw [X.nD] at e; cases e
  rcases List.mem_append.mp hb with hb | hb
  · obtain ⟨p, hp, q⟩ := List.mem_map.mp hb
    exact hc p hp q
  rcases List.mem_append.mp hb with hb | hb
  · exact hm hb
  · obtain ⟨p, hp, q⟩ := mem_own hb
    exact hw p hp q
theorem CompCtx.kept_locals (X : CompCtx w env scope cl h₀ h hI h₁ σ wr C D) {o : Obj} (e : h.get? env.locals = some o) : (hideAll h₁ (hid cl σ wr C D)).get? env.locals = some o := by
  refine X.kept e (fun p hp => (X.S.cell _ _ (X.cap p hp).1).2.1) (fun q => X.offw _ q (.head _)) fun p hp q => ?_
  obtain ⟨a, ea, _, hL, _⟩ := X.S.ow p hp
  rw [q] at ea; cases ea
  exact hL rfl
theorem CompCtx.kept_cell (X : CompCtx w env scope cl h₀ h hI h₁ σ wr C D) {x : Str} {c : Addr} {o : Obj} (ec : env.cells.lookup x = some c) (hx : ∀ p ∈ cl, p.1 ≠ x) (e : h.get? c = some o) : (hideAll h₁ (hid cl σ wr C D)).get? c = some o := by
  refine X.kept e (fun p hp q => hx p hp (X.S.ok.apart _ _ _ (X.cap p hp).1 (q ▸ ec))) (fun q => X.offw _ q (mem_mut_cell ec (X.all _ _ ec))) (X.S.cell _ _ ec).2.2.1

theorem CompCtx.env_cells (X : CompCtx w env scope cl h₀ h hI h₁ σ wr C D) {x : Str} {c : Addr} (e : (compEnvC scope cl C env).cells.lookup x = some c) : (x, c) ∈ cl := mem_cells e
theorem lookup_of_mem {l : List (Str × Addr)} {x : Str} {c : Addr} (h : (x, c) ∈ l) : ∃ c', l.lookup x = some c' := by
  induction l with
  | nil => cases h
  | cons p r ih =>
    obtain ⟨y, d⟩ := p
    by_cases q : x = y
    · subst q; exact ⟨d, by simp⟩
    · rw [List.lookup_cons, beq_eq_false_iff_ne.mpr q]
      rcases List.mem_cons.mp h with e | h
      · cases e; exact absurd rfl q
      · exact ih h
theorem CompCtx.lookup (X : CompCtx w env scope cl h₀ h hI h₁ σ wr C D) {x : Str} {c : Addr} (hm : (x, c) ∈ cl) : cl.lookup x = some c := by
  obtain ⟨c', e⟩ := lookup_of_mem hm
  have h1 := (X.cap _ hm).1
  have h2 := (X.cap _ (mem_cells e)).1
  dsimp only at h1 h2
  rw [h1] at h2; cases h2
  exact e

/-- in: the frame of the comprehension -/
theorem CompCtx.enter (X : CompCtx w env scope cl h₀ h hI h₁ σ wr C D) {ml : Str → Option Value} (hns : h₁.Ns C ml) {tm cm : List (Str × AV)} {d0 : Mine.D} (htm : ∀ p ∈ tm, p.2 = .un) (hcm : cm.map (·.1) = cl.map (·.1)) (hsub : ∀ p ∈ cm, p ∈ σ.m)
    (hnd : ((tm ++ cm).map (·.1)).Nodup) (hacc : RepM (hideAll h₁ (hid cl σ wr C D)) h₁ D d0) : StI w (compEnvC scope cl C env) (hideAll h₁ (hid cl σ wr C D)) ⟨tm ++ cm, σ.fx, [], (.ref D, d0) :: σ.ow⟩ h₁ (hideAll h₁ (hid cl σ wr C D)) := by
  refine ⟨⟨?_, X.S.ok.glob, X.S.ok.bi, ?_⟩, X.S.gl.mono fun b o q => X.sub _ _ (X.S.k0 _ _ q), fun _ _ q => q, fun _ _ q => of_hideAll _ q, hideAll_none _ (.head _), ⟨ml, hns⟩, ?_, ?_, hnd, fun p hp => (X.S.fx p hp).mono X.sub, ?_, ?_, fun _ hv => nomatch hv⟩
  · exact X.kd
  · intro x y c ex ey
    exact X.S.ok.apart x y c (X.cap _ (X.env_cells ex)).1 (X.cap _ (X.env_cells ey)).1
  · intro x c e
    have hm := X.env_cells e
    obtain ⟨⟨v0, hc⟩, _, how, _⟩ := X.S.cell x c (X.cap _ hm).1
    have hco : ∃ o, h.get? c = some o := by obtain ⟨o, ho, _⟩ := hc; exact ⟨o, ho⟩
    obtain ⟨o, ho⟩ := hco
    refine ⟨⟨v0, hc.keeps X.old⟩, fun q => ?_, fun p hp q => ?_, fun _ => hideAll_none _ (List.mem_cons_of_mem _ (List.mem_cons_of_mem _ (List.mem_append_left _ (List.mem_map.mpr ⟨_, hm, rfl⟩))))⟩
    · have q' : c = C := q
      rw [q', X.nC] at ho; cases ho
    · rcases List.mem_cons.mp hp with rfl | hp
      · cases q
        rw [X.nD] at ho; cases ho
      · exact how p hp q
  · intro p hp
    rcases List.mem_append.mp hp with hp | hp
    · exact .inl (htm p hp)
    · rcases X.S.m p (hsub p hp) with q | ⟨v, hv, ha⟩
      · exact .inl q
      refine .inr ⟨v, ?_, ha⟩
      have : p.1 ∈ cl.map (·.1) := by rw [← hcm]; exact List.mem_map.mpr ⟨p, hp, rfl⟩
      obtain ⟨q, hq, e⟩ := List.mem_map.mp this
      obtain ⟨e1, e2⟩ := X.cap q hq
      rw [e] at e1 e2
      rcases hv with ⟨k, _⟩ | ⟨_, c, ec, hc⟩
      · rw [e2] at k; cases k
      · rw [e1] at ec; cases ec
        refine .inr ⟨.inl (by rw [← e]; exact X.ck q hq), q.2, ?_, hc.keeps X.old⟩
        show cl.lookup p.1 = _
        rw [← e]; exact X.lookup hq
  · intro p hp
    rcases List.mem_cons.mp hp with rfl | hp
    · exact ⟨D, rfl, hideAll_none _ (List.mem_cons_of_mem _ (.head _)), fun q => X.CD q.symm, hacc⟩
    · obtain ⟨a, ea, hn, hL, r⟩ := X.S.ow p hp
      obtain ⟨o, ho⟩ := r.some
      refine ⟨a, ea, hideAll_none _ (List.mem_cons_of_mem _ (List.mem_cons_of_mem _ (List.mem_append_right _ (List.mem_append_right _ (own_mem hp ea))))), fun q => ?_, r.mono X.sub fun o q => X.old _ _ q⟩
      rw [show (compEnvC scope cl C env).locals = C from rfl] at q
      rw [q, X.nC] at ho; cases ho
  · rw [List.map_cons, List.nodup_cons]
    refine ⟨fun hm => ?_, X.S.nd⟩
    obtain ⟨p, hp, e⟩ := List.mem_map.mp hm
    obtain ⟨a, ea, _, _, r⟩ := X.S.ow p hp
    obtain ⟨o, ho⟩ := r.some
    rw [e] at ea; cases ea
    rw [X.nD] at ho; cases ho

/-- and out again -/
theorem CompCtx.leave (X : CompCtx w env scope cl h₀ h hI h₁ σ wr C D) {h₂ h₃ : Heap} {tm cm : List (Str × AV)} {fx' ow' : List (Value × Mine.D)} {fr' : List Value} {d' : Mine.D} (hcm : cm.map (·.1) = cl.map (·.1)) (hsub : ∀ p ∈ cm, p ∈ σ.m)
    (hk : ow'.map (·.1) = σ.ow.map (·.1)) (S2 : St w (compEnvC scope cl C env) (hideAll h₁ (hid cl σ wr C D)) ⟨tm ++ cm, fx', fr', (.ref D, d') :: ow'⟩ h₂) (hs : Heap.SameBut C h₂ h₃) :
    St w env h₀ ⟨σ.m, fx', σ.fr, (.ref D, d') :: ow'⟩ h₃ := by
  obtain ⟨hJ, S2⟩ := S2
  have offC : hJ.get? C = none := S2.offL
  have k3 : Sub hJ h₃ := fun b o e => hs.extBut b o (fun q => by rw [q, offC] at e; cases e) (S2.kI _ _ e)
  have kB : Sub (hideAll h₁ (hid cl σ wr C D)) h₃ := fun b o e => k3 _ _ (S2.k0 _ _ e)
  have kH : Sub hI hJ := fun b o e => S2.k0 _ _ (X.sub _ _ e)
  -- the frame outside
  obtain ⟨ml, hns⟩ := X.S.ns
  have hns3 : h₃.Ns env.locals ml := hns.at fun o e => kB _ _ (X.kept_locals e)
  have hcap : ∀ x c, env.cells.lookup x = some c → (∀ p ∈ cl, p.1 ≠ x) ∨ (x, c) ∈ cl := fun x c e => by
    by_cases q : ∃ p ∈ cl, p.1 = x
    · obtain ⟨p, hp, rfl⟩ := q
      have := (X.cap p hp).1
      rw [e] at this; cases this
      exact .inr hp
    · exact .inl fun p hp e => q ⟨p, hp, e⟩
  have hcell3 : ∀ x c v, (x, c) ∈ cl → h₂.IsCell c v → h₃.IsCell c v := fun x c v hm hc => by
    obtain ⟨o, ho, hd⟩ := hc
    refine ⟨o, hs.extBut _ _ (fun q => ?_) ho, hd⟩
    exact (S2.cell x c (X.lookup hm)).2.1 q
  -- the lists of one's own
  have hown : ∀ p ∈ ow', ∃ p0 ∈ σ.ow, p0.1 = p.1 := fun p hp => by
    have : p.1 ∈ σ.ow.map (·.1) := by rw [← hk]; exact List.mem_map.mpr ⟨p, hp, rfl⟩
    obtain ⟨p0, hp0, e⟩ := List.mem_map.mp this
    exact ⟨p0, hp0, e⟩
  have hDold : ∀ b o, h.get? b = some o → b ≠ D := fun b o e q => by rw [q, X.nD] at e; cases e
  obtain ⟨oL, hoL⟩ : ∃ o, h.get? env.locals = some o := by obtain ⟨o, _, _, e, _⟩ := hns; exact ⟨o, e⟩
  have hmutn : ∀ b ∈ mutAddrs env ⟨σ.m, fx', σ.fr, (.ref D, d') :: ow'⟩, hI.get? b = none ∧ (∀ items, ¬ hJ.IsList b items) ∧ ∀ p q r t u v, ¬ IsRange hJ b p q r t u v := by
    intro b hb
    rcases List.mem_cons.mp hb with rfl | hb
    · refine ⟨X.S.offL, fun items hl => ?_, fun p q r t u v hl => ?_⟩
      · obtain ⟨o, es, ep, ho, hd, _⟩ := hns3
        obtain ⟨o', ho', _, n, hd'⟩ := hl
        rw [k3 _ _ ho'] at ho; cases ho
        rw [hd] at hd'; cases hd'
      · obtain ⟨o, es, ep, ho, hd, _⟩ := hns3
        rw [k3 _ _ hl] at ho; cases ho
        cases hd
    · rcases List.mem_append.mp hb with hb | hb
      · obtain ⟨x, _, e⟩ := List.mem_filterMap.mp hb
        by_cases hkx : env.kindOf x = some .cell
        · rw [if_pos hkx] at e
          refine ⟨(X.S.cell x b e).2.2.2 hkx, ?_⟩
          have hc : ∃ v0, h₃.IsCell b v0 := by
            obtain ⟨⟨v0, o, ho, hd⟩, _⟩ := X.S.cell x b e
            rcases hcap x b e with q | q
            · exact ⟨v0, o, kB _ _ (X.kept_cell e q ho), hd⟩
            · obtain ⟨⟨v1, hc1⟩, _⟩ := S2.cell x b (X.lookup q)
              exact ⟨v1, hcell3 x b v1 q hc1⟩
          obtain ⟨v0, o, ho, hd⟩ := hc
          refine ⟨fun items hl => ?_, fun p q r t u v hl => ?_⟩
          · obtain ⟨o', ho', _, n, hd'⟩ := hl
            rw [k3 _ _ ho'] at ho; cases ho
            rw [hd] at hd'; cases hd'
          · rw [k3 _ _ hl] at ho; cases ho
            cases hd
        · rw [if_neg hkx] at e; cases e
      · obtain ⟨p, hp, e⟩ := List.mem_filterMap.mp hb
        have ep : p.1 = .ref b := by
          split at e
          · rename_i a q; cases e; exact q
          · cases e
        obtain ⟨a, ea, hn, _⟩ := S2.ow p hp
        rw [ep] at ea; cases ea
        refine ⟨none_of_sub kH hn, fun items hl => ?_, fun p q r t u v hl => ?_⟩
        · obtain ⟨o', ho', _⟩ := hl
          rw [hn] at ho'; cases ho'
        · exact absurd (hn.symm.trans hl) (by nofun)
  refine ⟨hideAll hJ (mutAddrs env ⟨σ.m, fx', σ.fr, (.ref D, d') :: ow'⟩), X.S.ok, X.S.gl, ?_, fun b o e => k3 _ _ (of_hideAll _ e), hideAll_none _ (.head _), ⟨ml, hns3⟩, ?_, ?_, X.S.mn, ?_, ?_, S2.nd, X.S.fr⟩
  · intro b o e
    have e1 := X.S.k0 _ _ e
    exact hideAll_get _ (kH _ _ e1) fun hb => by rw [(hmutn b hb).1] at e1; cases e1
  · intro x c e
    obtain ⟨⟨v0, o, ho, hd⟩, h2, h3, h4⟩ := X.S.cell x c e
    refine ⟨?_, h2, fun p hp q => ?_, fun hkx => hideAll_none _ (mem_mut_cell e hkx)⟩
    · rcases hcap x c e with q | q
      · exact ⟨v0, o, kB _ _ (X.kept_cell e q ho), hd⟩
      · obtain ⟨⟨v1, hc1⟩, _⟩ := S2.cell x c (X.lookup q)
        exact ⟨v1, hcell3 x c v1 q hc1⟩
    · rcases List.mem_cons.mp hp with rfl | hp
      · cases q
        exact hDold _ _ ho rfl
      · obtain ⟨p0, hp0, e0⟩ := hown p hp
        exact h3 p0 hp0 (e0.trans q)
  · intro p hp
    rcases X.S.m p hp with q | ⟨v, hv, ha⟩
    · exact .inl q
    rcases hv with ⟨k, ml', hn', e'⟩ | ⟨k, c, ec, o, ho, hd⟩
    · exact .inr ⟨v, .inl ⟨k, ml, hns3, by rw [hns.agree hn']; exact e'⟩, ha⟩
    · rcases hcap _ _ ec with q | q
      · exact .inr ⟨v, .inr ⟨k, c, ec, o, kB _ _ (X.kept_cell ec q ho), hd⟩, ha⟩
      · -- taken into the comprehension
        have hpc : p ∈ cm := by
          have : p.1 ∈ cm.map (·.1) := by rw [hcm]; exact List.mem_map.mpr ⟨_, q, rfl⟩
          obtain ⟨p', hp', e'⟩ := List.mem_map.mp this
          have : p' = p := nodup_same X.S.mn (hsub p' hp') hp e'
          exact this ▸ hp'
        rcases S2.m p (List.mem_append_right _ hpc) with q' | ⟨v', hv', ha'⟩
        · exact .inl q'
        refine .inr ⟨v', .inr ⟨k, c, ec, ?_⟩, ha'⟩
        have hkc := X.ck _ q
        rcases hv' with ⟨k', _⟩ | ⟨_, c', ec', hc'⟩
        · dsimp only at hkc
          rw [hkc] at k'; cases k'
        · have := X.lookup q
          rw [show (compEnvC scope cl C env).cells = cl from rfl] at ec'
          rw [this] at ec'; cases ec'
          exact hcell3 _ _ _ q hc'
  · intro p hp
    exact rep_hide (S2.fx p hp) (fun b hb => (hmutn b hb).2.1) fun b hb => (hmutn b hb).2.2
  · intro p hp
    obtain ⟨a, ea, hn, hC, r⟩ := S2.ow p hp
    refine ⟨a, ea, hideAll_none _ (List.mem_cons_of_mem _ (List.mem_append_right _ (List.mem_filterMap.mpr ⟨p, hp, by rw [ea]⟩))), ?_, (repM_hide r fun b hb => (hmutn b hb).2.1).mono (fun _ _ q => q) fun o q => hs.extBut _ _ hC q⟩
    rcases List.mem_cons.mp hp with rfl | hp
    · cases ea
      exact fun q => hDold _ _ hoL q.symm
    · obtain ⟨p0, hp0, e0⟩ := hown p hp
      obtain ⟨a', ea', _, hL, _⟩ := X.S.ow p0 hp0
      rw [e0, ea] at ea'; cases ea'
      exact hL
where
  nodup_same {l : List (Str × AV)} (nd : (l.map (·.1)).Nodup) {p q : Str × AV} (hp : p ∈ l) (hq : q ∈ l) (e : p.1 = q.1) : p = q := by
    induction l with
    | nil => cases hp
    | cons a r ih =>
      rw [List.map_cons, List.nodup_cons] at nd
      rcases List.mem_cons.mp hp with h1 | h1
      · rcases List.mem_cons.mp hq with h2 | h2
        · exact h1.trans h2.symm
        · exact absurd (List.mem_map.mpr ⟨q, h2, by rw [← e, h1]⟩) nd.1
      · rcases List.mem_cons.mp hq with h2 | h2
        · exact absurd (List.mem_map.mpr ⟨p, h1, by rw [e, h2]⟩) nd.1
        · exact ih nd.2 h1 h2
end
end Mine
end
section
open PySem PySem.W PyProof.Rows PySem.Calls
set_option Elab.async false
set_option linter.unusedVariables false
set_option linter.unusedSimpArgs false
set_option linter.unusedSectionVars false
set_option maxRecDepth 100000
set_option maxHeartbeats 4000000
namespace Mine
/-- the cells that a comprehension takes in -/
def clOf (scope : Scope) (env : Env) : List (Str × Addr) := (scope.names.filter fun p => p.2 == .free).reverse.map fun p => (p.1, (env.cells.lookup p.1).getD 0)
abbrev cenvOf (scope : Scope) (C : Addr) (env : Env) : Env := compEnvC scope (clOf scope env) C env

section
variable {w : World} {A : Around} {env : Env} {σ : Sg}

theorem T_comp {elt target iter : Expr} {ifs : List Expr} {scope : Scope} {pos : Pos} {Q : Value → Sg → Prop} (tm cm : List (Str × AV)) (d0 : D)
    (h : Opens w A env target iter σ (fun n bd σ₁ => (∀ p ∈ cm, p ∈ σ₁.m) ∧ ∀ acc, ∃ J : Nat → Sg → Prop, J 0 ⟨tm ++ cm, σ₁.fx, [], (acc, d0) :: σ₁.ow⟩ ∧
      (∀ C i σ', i < n → J i σ' → bd i σ' fun σ'' => T w A (cenvOf scope C env) (ctests ifs (cenvOf scope C env)) (fun ok σ₃ => (ok = true → T w A (cenvOf scope C env) (eval elt (cenvOf scope C env)) (fun x σ₄ => T w A (cenvOf scope C env) (call (.builtin "list.append") [acc, x]) (fun _ σ₅ => J (i + 1) σ₅) σ₄) σ₃) ∧ (ok = false → J (i + 1) σ₃)) σ'') ∧
      (∀ σ', J n σ' → ∃ tm' fx' ow' d', Wk ⟨tm' ++ cm, fx', [], (acc, d') :: ow'⟩ σ' ∧ ow'.map (·.1) = σ₁.ow.map (·.1) ∧ Q acc ⟨σ₁.m, (acc, d') :: fx', acc :: σ₁.fr, ow'⟩)))
    (hd0 : d0 = .nums [] ∨ d0 = .rows [] := by (first | exact .inl rfl | exact .inr rfl)) (htm : (tm.all fun p => match p.2 with | .un => true | _ => false) = true := by kernel_rfl)
    (hcm : cm.map (·.1) = (clOf scope env).map (·.1) := by kernel_rfl) (hnd : nodupB ((tm ++ cm).map (·.1)) = true := by kernel_rfl)
    (hclos : closureFor scope env = pure (clOf scope env) := by kernel_rfl)
    (hcap : (clOf scope env).map (fun p => (env.cells.lookup p.1, env.kindOf p.1)) = (clOf scope env).map (fun p => (some p.2, some .cell)) := by kernel_rfl)
    (hall : env.cells.map (fun p => env.kindOf p.1) = env.cells.map (fun _ => some .cell) := by kernel_rfl)
    (hck : ∀ C, (clOf scope env).map (fun p => (cenvOf scope C env).kindOf p.1) = (clOf scope env).map (fun _ => some .cell) := by intro C; kernel_rfl)
    (hcell : (scope.names.all fun y => decide (y.2 ≠ .cell)) = true := by kernel_rfl) (hnames : (scope.names.all fun y => decide (y.2 = .local → scope.names.lookup y.1 = some .local)) = true := by kernel_rfl)
    (hkind : scope.kind = .function := by rfl) (hlb : ∀ C, localB target (cenvOf scope C env) = true := by intro C; kernel_rfl)
    (hs : ∀ x, foldedSetIterable iter env x = pure x := by intro _; kernel_rfl) : T w A env (eval (.ListComp elt [⟨target, iter, ifs, 0⟩] scope pos) env) Q σ := by
  have hl : ∀ C, LocalT target (cenvOf scope C env) := hlb
  have hcap' : ∀ p ∈ clOf scope env, env.cells.lookup p.1 = some p.2 ∧ env.kindOf p.1 = some .cell := fun p hp => by
    have := List.map_inj_left.mp hcap p hp
    exact ⟨congrArg Prod.fst this, congrArg Prod.snd this⟩
  have hall' : ∀ x c, env.cells.lookup x = some c → env.kindOf x = some .cell := fun x c e => List.map_inj_left.mp hall _ (mem_cells e)
  refine T.mk fun h₀ s S => ?_
  rw [eval_ListComp]
  refine wpAny_comprehension_free (use := none) rfl hs hclos hkind (fun y hy => of_decide_eq_true (List.all_eq_true.mp hnames y hy)) (h h₀ s _ _ S fun I fp wr n Sti bd h' tk' σ₁ hI O ⟨hsub, hJ⟩ => ?_)
  refine wpAny_newObj_type (wpAny_newFunctionEnv (fun y hy => of_decide_eq_true (List.all_eq_true.mp hcell y hy)) (by intro y hy; simp at hy) (fun h₁ hns₁ hsb₁ => ?_) hkind)
  dsimp only at hns₁ hsb₁ ⊢
  generalize hH2 : h'.push { cls := .type "list", dict := none, data := .seq ([] : List Value).toArray } = H2 at hns₁ hsb₁ ⊢
  have hC : H2.objs.size = h'.objs.size + 1 := by rw [← hH2, Heap.size_push]
  have hCD : H2.objs.size ≠ h'.objs.size := by rw [hC]; exact Nat.succ_ne_self _
  have nC : h'.get? H2.objs.size = none := Heap.get?_none_of_le (by rw [hC]; exact Nat.le_succ _)
  have old : Sub h' h₁ := fun b o e => hsb₁.extBut b o (fun q => by rw [q, nC] at e; cases e) (Heap.get?_push_of_some _ (hH2 ▸ Heap.get?_push_of_some _ e))
  have hacc : h₁.get? h'.objs.size = some { cls := .type "list", dict := none, data := .seq ([] : List Value).toArray } := hsb₁.extBut _ _ (Ne.symm hCD) (Heap.get?_push_of_some _ (hH2 ▸ Heap.get?_push_size _ rfl))
  obtain ⟨J, h0, turn, fin⟩ := hJ (.ref h'.objs.size)
  have X : CompCtx w env scope (clOf scope env) h₀ h' hI h₁ σ₁ wr H2.objs.size h'.objs.size :=
    ⟨O.S, old, nC, none_at_end _, hCD, O.new, fun b hb => O.off b ((O.drive _ (hl 0)).sub b hb), hcap', hall', hkind, fun p hp => List.map_inj_left.mp (hck H2.objs.size) p hp⟩
  have hrep : RepM (hideAll h₁ (hid (clOf scope env) σ₁ wr H2.objs.size h'.objs.size)) h₁ h'.objs.size d0 := by
    rcases hd0 with rfl | rfl
    · exact ⟨[], ⟨_, hacc, rfl, _, rfl⟩, .nil⟩
    · exact ⟨[], ⟨_, hacc, rfl, _, rfl⟩, .nil⟩
  have htm' : ∀ p ∈ tm, p.2 = .un := fun p hp => by
    have := List.all_eq_true.mp htm p hp
    cases q : p.2 <;> rw [q] at this <;> first | rfl | cases this
  have E := X.enter hns₁ htm' hcm hsub (nodupB_iff hnd) hrep
  have D := O.drive (cenvOf scope H2.objs.size env) (hl _)
  have hst : Sti 0 h₁ := D.frame _ _ _ O.st fun b hb o e => old b o e
  have hoff : ∀ b ∈ fp, b ∉ mutAddrs (cenvOf scope H2.objs.size env) ⟨tm ++ cm, σ₁.fx, [], (.ref h'.objs.size, d0) :: σ₁.ow⟩ := fun b hb hm => by
    obtain ⟨o, ho⟩ := O.ex b hb
    have hm0 := O.off b hb
    rcases List.mem_cons.mp hm with e | hm
    · have e' : b = H2.objs.size := e
      rw [e', nC] at ho; cases ho
    rcases List.mem_append.mp hm with hm | hm
    · obtain ⟨x, _, e⟩ := List.mem_filterMap.mp hm
      by_cases hk : (cenvOf scope H2.objs.size env).kindOf x = some .cell
      · rw [if_pos hk] at e
        obtain ⟨e1, e2⟩ := hcap' _ (mem_cells e)
        exact hm0 (mem_mut_cell e1 e2)
      · rw [if_neg hk] at e; cases e
    · obtain ⟨p, hp, e⟩ := List.mem_filterMap.mp hm
      rcases List.mem_cons.mp hp with rfl | hp
      · cases e
        rw [none_at_end] at ho; cases ho
      · exact hm0 (List.mem_cons_of_mem _ (List.mem_append_right _ (List.mem_filterMap.mpr ⟨p, hp, e⟩)))
  have go : ∀ s₃ : Shared, s₃ = { s with heap := h₁, toks := tk' + ([] : List (Str × Value)).length } →
      codeAny (model PySem.Challenge.pw_nn0015_01 w) A (.compLoop (.ListComp elt [⟨target, iter, ifs, 0⟩] scope pos) 0 (.ref I) (.ref h'.objs.size) (cenvOf scope H2.objs.size env))
        (compPost (model PySem.Challenge.pw_nn0015_01 w) A (fun _ _ => False) none (Fin w env h₀ s Q) (.ref h'.objs.size) H2.objs.size) s₃ := by
    rintro s₃ rfl
    refine cloop D J E (fun b hb => hideAll_none _ (List.mem_cons_of_mem _ (List.mem_cons_of_mem _ (List.mem_append_right _ (List.mem_append_left _ hb))))) hoff (fun _ hv => nomatch hv) hst h0 (turn _) ?_
    intro h2 tk2 σ2 S2 hj
    obtain ⟨tm', fx', ow', d', K, hk, hq⟩ := fin σ2 hj
    have S2' := S2.weaken K.m K.n K.fx K.ow K.fr
    obtain ⟨hJ2, S3⟩ := id S2'
    obtain ⟨ml, hn⟩ := S3.ns
    refine ⟨ml, hn, fun h3 hs3 => ⟨h3, tk2, rfl, _, ?_, hq⟩⟩
    exact St.freeze (X.leave hcm hsub hk S2' hs3) rfl
  exact codeAny_compStart_list (go _ rfl) (O.self 0 _ _ _ hst (go _ rfl))
end
end Mine
end
section
open PySem PySem.W PyProof.Rows PySem.Calls
set_option Elab.async false
set_option linter.unusedVariables false
set_option linter.unusedSimpArgs false
set_option linter.unusedSectionVars false
set_option maxRecDepth 100000
set_option maxHeartbeats 4000000
namespace Mine
theorem row_len_pow {w x k : Nat} (hw : 0 < w) (h : x < 2 ^ k) : (row w x).length ≤ k :=
  row_len_le hw (Nat.lt_of_lt_of_le h (Nat.pow_le_pow_right (by decide) (Nat.le_mul_of_pos_left k hw)))
theorem val_set {w : Nat} : ∀ {ns : List Int} {k : Nat} (x : Int), (h : k < ns.length) → val w (ns.set k x) = val w ns + 2 ^ (w * k) * (x - ns[k])
  | n :: r, 0, x, h => by simp [val]; (first | lia | omega)
  | n :: r, k + 1, x, h => by
    have ih := val_set (w := w) (ns := r) (k := k) x (by simpa using h)
    rw [List.set_cons_succ, val, ih, val, pow_succ_len]
    simp only [List.getElem_cons_succ]
    grind
theorem Dig.set {w : Nat} {ns : List Int} (h : Dig w ns) {k : Nat} {x : Int} (hx : 0 ≤ x ∧ x < 2 ^ w) : Dig w (ns.set k x) := fun n hn => by
  rcases List.mem_or_eq_of_mem_set hn with q | q
  · exact h n q
  · rw [q]; exact hx
structure MulOut (w : Nat) (a b : List Int) (i : Nat) (fs : List Int) : Prop where
  len : fs.length = a.length + b.length
  dig : Dig w fs
  zero : ∀ k, i + b.length ≤ k → fs.getD k 0 = 0
  sum : val w fs = val w (a.take i) * val w b
structure MulIn (w : Nat) (a b : List Int) (i : Nat) (d v0 : Int) (j : Nat) (fs : List Int) (c : Int) : Prop where
  len : fs.length = a.length + b.length
  dig : Dig w fs
  zero : ∀ k, i + b.length ≤ k → fs.getD k 0 = 0
  c0 : 0 ≤ c
  c1 : c < 2 ^ w
  sum : val w fs + 2 ^ (w * (i + j)) * c = v0 + 2 ^ (w * i) * (d * val w (b.take j))
theorem MulOut.nil (w : Nat) (a b : List Int) : MulOut w a b 0 (List.replicate (a.length + b.length) 0) := by
  refine ⟨by simp, dig_rep w _, fun k _ => ?_, by rw [val_rep]; simp [val]⟩
  rw [List.getD_eq_getElem?_getD, List.getElem?_replicate]
  split <;> rfl
theorem MulOut.inn {w : Nat} {a b : List Int} {i : Nat} {fs : List Int} (h : MulOut w a b i fs) (d : Int) : MulIn w a b i d (val w fs) 0 fs 0 :=
  ⟨h.len, h.dig, h.zero, Int.le_refl 0, two_pow_pos w, by simp [val]⟩
theorem MulIn.step {w : Nat} {a b : List Int} {i j : Nat} {d v0 : Int} {fs : List Int} {c : Int} (h : MulIn w a b i d v0 j fs c) (hd : 0 ≤ d ∧ d < 2 ^ w) (hb : Dig w b) (hj : j < b.length) (hk : i + j < fs.length) :
    MulIn w a b i d v0 (j + 1) (fs.set (i + j) ((c + (fs[i + j] + d * b[j])) % 2 ^ w)) ((c + (fs[i + j] + d * b[j])) / 2 ^ w) := by
  have hc0 := h.c0
  have hc1 := h.c1
  have hf := getElem_dig h.dig hk
  have he := getElem_dig hb hj
  obtain ⟨h1, h2, h3⟩ := carry_step (w := w) (c + (fs[i + j] + d * b[j]))
  have hB := two_pow_pos w
  have hde : 0 ≤ d * b[j] := Int.mul_nonneg hd.1 he.1
  have hde2 : d * b[j] ≤ (2 ^ w - 1) * (2 ^ w - 1) := Int.mul_le_mul (by (first | lia | omega)) (by (first | lia | omega)) he.1 (by (first | lia | omega))
  have hsq : ((2 : Int) ^ w - 1) * (2 ^ w - 1) = 2 ^ w * 2 ^ w - 2 * 2 ^ w + 1 := by grind
  refine ⟨by rw [List.length_set, h.len], h.dig.set ⟨h1, h2⟩, fun k hk' => ?_, Int.ediv_nonneg (by (first | lia | omega)) (by (first | lia | omega)), Int.ediv_lt_of_lt_mul hB (by (first | lia | omega)), ?_⟩
  · rw [List.getD_eq_getElem?_getD, List.getElem?_set_ne (by (first | lia | omega)), ← List.getD_eq_getElem?_getD]
    exact h.zero k hk'
  · rw [val_set _ hk, val_take_snoc hj, ← Nat.add_assoc, pow_succ_len]
    have hs := h.sum
    have e0 : (2 : Int) ^ (w * (i + j)) = 2 ^ (w * i) * 2 ^ (w * j) := by rw [Nat.mul_add, Int.pow_add]
    have e1 : (2 : Int) ^ (w * (i + j)) * ((c + (fs[i + j] + d * b[j])) % 2 ^ w - fs[i + j]) + 2 ^ (w * (i + j)) * 2 ^ w * ((c + (fs[i + j] + d * b[j])) / 2 ^ w) = 2 ^ (w * (i + j)) * c + 2 ^ (w * (i + j)) * (d * b[j]) := by
      generalize (c + (fs[i + j] + d * b[j])) % 2 ^ w = r at *
      generalize (c + (fs[i + j] + d * b[j])) / 2 ^ w = q at *
      grind
    have e2 : (2 : Int) ^ (w * i) * (d * (val w (b.take j) + 2 ^ (w * j) * b[j])) = 2 ^ (w * i) * (d * val w (b.take j)) + 2 ^ (w * (i + j)) * (d * b[j]) := by rw [e0]; grind
    (first | lia | omega)
theorem MulIn.fin {w : Nat} {a b : List Int} {i : Nat} {fs0 fs : List Int} {c : Int} (hi : i < a.length) (h0 : MulOut w a b i fs0) (h : MulIn w a b i a[i] (val w fs0) b.length fs c) :
    MulOut w a b (i + 1) (fs.set (i + b.length) c) := by
  have hk : i + b.length < fs.length := by rw [h.len]; (first | lia | omega)
  refine ⟨by rw [List.length_set, h.len], h.dig.set ⟨h.c0, h.c1⟩, fun k hk' => ?_, ?_⟩
  · rw [List.getD_eq_getElem?_getD, List.getElem?_set_ne (by (first | lia | omega)), ← List.getD_eq_getElem?_getD]
    exact h.zero k (by (first | lia | omega))
  · have hz := h.zero (i + b.length) (Nat.le_refl _)
    rw [List.getD_eq_getElem?_getD, List.getElem?_eq_getElem hk, Option.getD_some] at hz
    have hs := h.sum
    rw [List.take_length, h0.sum] at hs
    rw [val_set _ hk, hz, val_take_snoc hi, Int.sub_zero, hs]
    grind
theorem MulOut.fin {w x y : Nat} (hw : 0 < w) {fs : List Int} (h : MulOut w (row w x) (row w y) (row w x).length fs) : (val w fs).toNat = x * y := by
  rw [h.sum, List.take_length, val_row hw, val_row hw]
  exact_mod_cast Int.toNat_natCast (x * y)
end Mine
end
section
open PySem PySem.W PyProof.Rows PySem.Calls
set_option Elab.async false
set_option linter.unusedVariables false
set_option linter.unusedSimpArgs false
set_option linter.unusedSectionVars false
set_option maxRecDepth 100000
set_option maxHeartbeats 4000000
namespace Mine
theorem T_floordivE {w : World} {A : Around} {env : Env} {σ : Sg} {a b c : Int} {t u : Tok} {Q : Value → Sg → Prop} (e : a / b = c) (hb : 0 < b) (hb' : b < 1073741824) (h : ∀ t, Q (.int c t) σ) : T w A env (binaryOp .FloorDiv (.int a t) (.int b u)) Q σ :=
  T_floordiv hb hb' (e ▸ h)
theorem T_lenR {w : World} {A : Around} {env : Env} {σ : Sg} {v : Value} {rs : List (List Int)} {k : Nat} {Q : Value → Sg → Prop} (hx : σ.Has v (.rows rs)) (hl : rs.length = k) (hn : k ≤ 1000) (h : ∀ t, Q (.int (k : Int) t) σ) : T w A env (call (.builtin "len") [v]) Q σ := by
  subst hl
  exact T_len_rows hx (by (first | lia | omega)) h
-- the forward transform, in plain numbers
def bfF (n step half begin at_ : Nat) (zs : List Int) : List Int :=
  (zs.set (begin + at_) (zs.getD (begin + at_) 0 + zs.getD (begin + half + at_) 0)).set (begin + half + at_) ((zs.getD (begin + at_) 0 - zs.getD (begin + half + at_) 0) * 2 ^ ((((step : Int) * at_) % (2 * n)).toNat))
def inF (n step half begin : Nat) : Nat → List Int → List Int
  | 0, zs => zs
  | k + 1, zs => bfF n step half begin k (inF n step half begin k zs)
def outF (n step half : Nat) : Nat → List Int → List Int
  | 0, zs => zs
  | k + 1, zs => inF n step half (k * (2 * half)) half (outF n step half k zs)
def whF (n : Nat) (half step : Nat) (zs : List Int) : List Int := if h : half = 0 then zs else whF n (half / 2) (2 * step) (outF n step half (zs.length / (2 * half)) zs)
termination_by half
decreasing_by (first | lia | omega)
def fwd (n : Nat) (zs : List Int) : List Int := whF n (zs.length / 2) (2 * n / zs.length) zs
theorem bfF_len {n step half begin at_ : Nat} {zs : List Int} : (bfF n step half begin at_ zs).length = zs.length := by simp [bfF]
theorem inF_len {n step half begin : Nat} {zs : List Int} : ∀ k, (inF n step half begin k zs).length = zs.length
  | 0 => rfl
  | k + 1 => by rw [inF, bfF_len, inF_len k]
theorem outF_len {n step half : Nat} {zs : List Int} : ∀ k, (outF n step half k zs).length = zs.length
  | 0 => rfl
  | k + 1 => by rw [outF, inF_len, outF_len k]
/-- the halves that come up -/
def Half (h m : Nat) : Prop := (h = 0 ∧ (m = 1 ∨ m = 2 ∨ m = 4)) ∨ (m = 2 ∧ h = 1) ∨ (m = 4 ∧ h = 1) ∨ (m = 4 ∧ h = 2)
theorem Half.le {h m : Nat} (x : Half h m) : m ≤ 4 ∧ h ≤ 2 ∧ 0 < m := by
  rcases x with ⟨rfl, rfl | rfl | rfl⟩ | ⟨rfl, rfl⟩ | ⟨rfl, rfl⟩ | ⟨rfl, rfl⟩ <;> decide
theorem Half.next {h m : Nat} (x : Half h m) : Half (h / 2) m := by
  rcases x with ⟨rfl, q⟩ | ⟨rfl, rfl⟩ | ⟨rfl, rfl⟩ | ⟨rfl, rfl⟩
  · exact .inl ⟨rfl, q⟩
  · exact .inl ⟨rfl, .inr (.inl rfl)⟩
  · exact .inl ⟨rfl, .inr (.inr rfl)⟩
  · exact .inr (.inr (.inl ⟨rfl, rfl⟩))
def Many (m : Nat) : Prop := m = 1 ∨ m = 2 ∨ m = 4
theorem Many.le {m : Nat} (x : Many m) : 0 < m ∧ m ≤ 4 := by rcases x with rfl | rfl | rfl <;> decide
theorem Half.start {m : Nat} (x : Many m) : Half (m / 2) m := by
  rcases x with rfl | rfl | rfl
  · exact .inl ⟨rfl, .inl rfl⟩
  · exact .inr (.inl ⟨rfl, rfl⟩)
  · exact .inr (.inr (.inr ⟨rfl, rfl⟩))
theorem Half.range {h m : Nat} (x : Half h m) (h0 : 0 < h) : Builtin.Range.small 0 (m : Int) (2 * h) = true ∧ Builtin.Range.rangeSize 0 (m : Int) (2 * h) = ((m / (2 * h) : Nat) : Int) ∧
    ∀ i, i < m / (2 * h) → (0 : Int) + i * (2 * h) = ((i * (2 * h) : Nat) : Int) ∧ i * (2 * h) + 2 * h ≤ m := by
  rcases x with x | ⟨rfl, rfl⟩ | ⟨rfl, rfl⟩ | ⟨rfl, rfl⟩
  · (first | lia | omega)
  · refine ⟨by decide +kernel, by decide +kernel, fun i hi => ?_⟩; (first | lia | omega)
  · refine ⟨by decide +kernel, by decide +kernel, fun i hi => ?_⟩; (first | lia | omega)
  · refine ⟨by decide +kernel, by decide +kernel, fun i hi => ?_⟩; (first | lia | omega)
/-- rows of residues -/
def rrs (w n : Nat) (zs : List Int) : List (List Int) := zs.map (rr w n)
theorem rrs_len {w n : Nat} {zs : List Int} : (rrs w n zs).length = zs.length := by simp [rrs]
theorem rrs_get {w n : Nat} {zs : List Int} {k : Nat} (h : k < zs.length) : (rrs w n zs)[k]? = some (rr w n (zs.getD k 0)) := by
  simp [rrs, List.getElem?_eq_getElem h]
theorem rrs_set {w n : Nat} {zs : List Int} {k : Nat} {x : Int} : (rrs w n zs).set k (rr w n x) = rrs w n (zs.set k x) := by
  simp [rrs, List.map_set]
end Mine
end
section
open PySem PySem.W PyProof.Rows PySem.Calls
set_option Elab.async false
set_option linter.unusedVariables false
set_option linter.unusedSimpArgs false
set_option linter.unusedSectionVars false
set_option maxRecDepth 100000
set_option maxHeartbeats 4000000
namespace Mine
-- the backward transform, in plain numbers
def bbF (n step half begin at_ : Nat) (zs : List Int) : List Int :=
  (zs.set (begin + at_) (zs.getD (begin + at_) 0 + zs.getD (begin + half + at_) 0 * 2 ^ (((-(step : Int) * at_) % (2 * n)).toNat))).set (begin + half + at_) (zs.getD (begin + at_) 0 - zs.getD (begin + half + at_) 0 * 2 ^ (((-(step : Int) * at_) % (2 * n)).toNat))
def inB (n step half begin : Nat) : Nat → List Int → List Int
  | 0, zs => zs
  | k + 1, zs => bbF n step half begin k (inB n step half begin k zs)
def outB (n step half : Nat) : Nat → List Int → List Int
  | 0, zs => zs
  | k + 1, zs => inB n step half (k * (2 * half)) half (outB n step half k zs)
def whB (n : Nat) : Nat → Nat → List Int → List Int
  | 0, _, zs => zs
  | f + 1, half, zs => if half < zs.length then whB n f (2 * half) (outB n (n / half) half (zs.length / (2 * half)) zs) else zs
def lessOf (m : Nat) : Int := (Builtin.Int.intBits (m : Int) : Int) - 1
def bwd (n : Nat) (zs : List Int) : List Int := (whB n 3 1 zs).map fun z => z * 2 ^ ((-lessOf zs.length % (2 * n)).toNat)
theorem bbF_len {n step half begin at_ : Nat} {zs : List Int} : (bbF n step half begin at_ zs).length = zs.length := by simp [bbF]
theorem inB_len {n step half begin : Nat} {zs : List Int} : ∀ k, (inB n step half begin k zs).length = zs.length
  | 0 => rfl
  | k + 1 => by rw [inB, bbF_len, inB_len k]
theorem outB_len {n step half : Nat} {zs : List Int} : ∀ k, (outB n step half k zs).length = zs.length
  | 0 => rfl
  | k + 1 => by rw [outB, inB_len, outB_len k]
theorem whB_len {n : Nat} : ∀ (f half : Nat) (zs : List Int), (whB n f half zs).length = zs.length
  | 0, _, _ => rfl
  | f + 1, half, zs => by
    rw [whB]
    split
    · rw [whB_len f, outB_len]
    · rfl
theorem bwd_len {n : Nat} {zs : List Int} : (bwd n zs).length = zs.length := by rw [bwd, List.length_map, whB_len]
/-- a while's turns left, and the half -/
def Up (f h m : Nat) : Prop := (f = 3 ∧ h = 1 ∧ (m = 1 ∨ m = 2 ∨ m = 4)) ∨ (f = 2 ∧ h = 2 ∧ (m = 2 ∨ m = 4)) ∨ (f = 1 ∧ h = 4 ∧ m = 4)
theorem Up.start {m : Nat} (x : Many m) : Up 3 1 m := .inl ⟨rfl, rfl, x⟩
theorem Up.half {f h m : Nat} (x : Up f h m) (hl : h < m) : Half h m := by
  rcases x with ⟨rfl, rfl, rfl | rfl | rfl⟩ | ⟨rfl, rfl, rfl | rfl⟩ | ⟨rfl, rfl, rfl⟩
  · exact absurd hl (by decide)
  · exact .inr (.inl ⟨rfl, rfl⟩)
  · exact .inr (.inr (.inl ⟨rfl, rfl⟩))
  · exact absurd hl (by decide)
  · exact .inr (.inr (.inr ⟨rfl, rfl⟩))
  · exact absurd hl (by decide)
theorem Up.next {f h m : Nat} (x : Up f h m) (hl : h < m) : ∃ g, f = g + 1 ∧ Up g (2 * h) m := by
  rcases x with ⟨rfl, rfl, rfl | rfl | rfl⟩ | ⟨rfl, rfl, rfl | rfl⟩ | ⟨rfl, rfl, rfl⟩
  · exact absurd hl (by decide)
  · exact ⟨2, rfl, .inr (.inl ⟨rfl, rfl, .inl rfl⟩)⟩
  · exact ⟨2, rfl, .inr (.inl ⟨rfl, rfl, .inr rfl⟩)⟩
  · exact absurd hl (by decide)
  · exact ⟨1, rfl, .inr (.inr ⟨rfl, rfl, rfl⟩)⟩
  · exact absurd hl (by decide)
theorem Up.pos {f h m : Nat} (x : Up f h m) : 0 < h ∧ h ≤ 4 ∧ 0 < f ∧ m ≤ 4 := by
  rcases x with ⟨rfl, rfl, rfl | rfl | rfl⟩ | ⟨rfl, rfl, rfl | rfl⟩ | ⟨rfl, rfl, rfl⟩ <;> decide
theorem rrs_snoc {w n : Nat} {zs : List Int} {k : Nat} (h : k < zs.length) : rrs w n (zs.take k) ++ [rr w n zs[k]] = rrs w n (zs.take (k + 1)) := by
  unfold rrs; rw [take_snoc h, List.map_append]; rfl
theorem rrs_at {w n : Nat} {zs : List Int} {k : Nat} (h : k < (rrs w n zs).length) : (rrs w n zs)[k] = rr w n (zs[k]'(by rw [rrs_len] at h; exact h)) := by simp [rrs]
end Mine
end
section
open PySem PySem.W PyProof.Rows PySem.Calls
set_option Elab.async false
set_option linter.unusedVariables false
set_option linter.unusedSimpArgs false
set_option linter.unusedSectionVars false
set_option maxRecDepth 100000
set_option maxHeartbeats 4000000
namespace Mine
theorem whF_len {n : Nat} : ∀ (half step : Nat) (zs : List Int), (whF n half step zs).length = zs.length := by
  intro half
  induction half using Nat.strongRecOn with
  | ind half ih =>
    intro step zs
    rw [whF]
    split
    · rfl
    · rw [ih (half / 2) (by (first | lia | omega)), outF_len]
theorem fwd_len {n : Nat} {zs : List Int} : (fwd n zs).length = zs.length := whF_len ..
def conv (n : Nat) (xs ys : List Int) : List Int := bwd n (List.zipWith (· * ·) (fwd n xs) (fwd n ys))
theorem zip_len {xs ys : List Int} (h : xs.length = ys.length) : (List.zipWith (· * ·) xs ys : List Int).length = xs.length := by simp [h]
theorem conv_len {n : Nat} {xs ys : List Int} (h : xs.length = ys.length) : (conv n xs ys).length = xs.length := by
  rw [conv, bwd_len, zip_len (by rw [fwd_len, fwd_len, h]), fwd_len]
def wt (n : Nat) (step : Int) (zs : List Int) : List Int := (List.range zs.length).map fun i => zs.getD i 0 * 2 ^ ((step * (i : Int) % (2 * n)).toNat)
theorem wt_len {n : Nat} {step : Int} {zs : List Int} : (wt n step zs).length = zs.length := by simp [wt]
theorem wt_at {n : Nat} {step : Int} {zs : List Int} {i : Nat} (h : i < zs.length) : (wt n step zs)[i]'(by rw [wt_len]; exact h) = zs[i] * 2 ^ ((step * (i : Int) % (2 * n)).toNat) := by
  simp [wt, h]
def convM (n : Nat) (xs ys : List Int) : List Int := wt n (-((n / xs.length : Nat) : Int)) (conv n (wt n ((n / xs.length : Nat) : Int) xs) (wt n ((n / xs.length : Nat) : Int) ys))
end Mine
end
section
open PySem PySem.W PyProof.Rows PySem.Calls
set_option Elab.async false
set_option linter.unusedVariables false
set_option linter.unusedSimpArgs false
set_option linter.unusedSectionVars false
set_option maxRecDepth 100000
set_option maxHeartbeats 4000000
namespace Mine
/-- a def that takes from the deal -/
structure DealC (w : World) (k : Nat) (f : Addr) (args : List Value) (dl v0 : Value) (ns : List Int) (reads : List (Value × D)) (P : Value → Prop) : Prop where
  run : ∀ (A : Around) (s : Shared) (hB : Heap) (a : Addr) (i sd : Int), Room A k → Gl w hB → Sub hB s.heap → dl = .ref a → hB.get? a = none → RepM hB s.heap a (.deal v0 ns i sd) → (∀ p ∈ reads, Rep hB p.1 p.2) →
    wpAny (model PySem.Challenge.pw_nn0015_01 w) A (call (.ref f) args) (fun v s' => ∃ h' tk' i' sd', s' = { s with heap := h', toks := tk' } ∧ (∀ b o, b ≠ a → s.heap.get? b = some o → h'.get? b = some o) ∧ RepM hB h' a (.deal v0 ns i' sd') ∧ P v) (fun _ _ => False) s

section
variable {w : World} {A : Around} {env : Env} {k : Nat} {f : Addr} {args : List Value} {dl v0 : Value} {ns : List Int} {reads : List (Value × D)} {P : Value → Prop} {m : List (Str × AV)} {fx ow : List (Value × D)} {fr : List Value} {i sd : Int}

theorem T_dcG {ow' : Int → Int → List (Value × D)} {Q : Value → Sg → Prop} (C : DealC w k f args dl v0 ns reads P) (hA : Room A k) (hr : All reads fx) (c : ∀ i' sd', Chg dl (.deal v0 ns i sd) (.deal v0 ns i' sd') ow (ow' i' sd')) (h : ∀ v i' sd', P v → Q v ⟨m, fx, fr, ow' i' sd'⟩) :
    T w A env (call (.ref f) args) Q ⟨m, fx, fr, ow⟩ := by
  refine T.mk fun h₀ s S => ?_
  obtain ⟨hI, S⟩ := S
  obtain ⟨a, e, hn, hL, r⟩ := S.ow _ (c 0 0).mem
  dsimp only at e
  subst e
  refine wpAny_mono (C.run A s hI a i sd hA (S.gl.mono S.k0) S.kI rfl hn r fun p hp => S.fx p (hr p hp)) (fun v s' ⟨h', tk', i', sd', e, hk, r', p⟩ => ?_) fun _ _ f => f
  subst e
  exact ⟨h', tk', rfl, _, St.chg S (c i' sd') (fun b o q => hk b o q) r', h v i' sd' p⟩
theorem T_dc {Q : Value → Sg → Prop} (C : DealC w k f args dl v0 ns reads P) (hA : Room A k) (hr : All reads fx) (h : ∀ v i' sd', P v → Q v ⟨m, fx, fr, (dl, .deal v0 ns i' sd') :: ow⟩) :
    T w A env (call (.ref f) args) Q ⟨m, fx, fr, (dl, .deal v0 ns i sd) :: ow⟩ := T_dcG (ow' := fun i' sd' => (dl, .deal v0 ns i' sd') :: ow) C hA hr (fun _ _ => .head) h
theorem T_dc2 {q : Value × D} {Q : Value → Sg → Prop} (C : DealC w k f args dl v0 ns reads P) (hA : Room A k) (hr : All reads fx) (h : ∀ v i' sd', P v → Q v ⟨m, fx, fr, q :: (dl, .deal v0 ns i' sd') :: ow⟩) :
    T w A env (call (.ref f) args) Q ⟨m, fx, fr, q :: (dl, .deal v0 ns i sd) :: ow⟩ := T_dcG (ow' := fun i' sd' => q :: (dl, .deal v0 ns i' sd') :: ow) C hA hr (fun _ _ => .tail .head) h

theorem DealC.mk' {name qual : Str} {params : Arguments} {body : List Stmt} {scope : Scope} {dV kV doc pm cdv ct oc : Value} {an od : Option Addr} {osl : Array (Option Value)} {binds : List (Str × Value)}
    (ho : (hK w.params).lookup f = some ⟨oc, od, .func (fnOf name qual params body scope dV kV doc pm an cdv ct), osl⟩) (hcd : codeIn (hK w.params) cdv qual = true)
    (hb : bindArgs (fnOf name qual params body scope dV kV doc pm an cdv ct) ⟨args, []⟩ = pure binds)
    (hkind : (binds.all fun y => scope.names.lookup y.1 == some .local || scope.names.lookup y.1 == some .cell) = true)
    (hnd : ((cellsFrom 0 scope.names []).map (·.1)).Nodup) (hbn : nodupB (binds.map (·.1)) = true) (hm : MB m binds) (hmn : nodupB (m.map (·.1)) = true)
    (h : ∀ A L i sd, Room A k → T w A (envOfC qual scope L f cdv) (execs body (envOfC qual scope L f cdv)) (fun fl σ' => ∃ v, fl = .ret v ∧ P v ∧ ∃ i' sd', (dl, D.deal v0 ns i' sd') ∈ σ'.ow) ⟨m, reads, [], [(dl, .deal v0 ns i sd)]⟩)
    (hco : scope.isCoroutine = false := by rfl) (hgen : scope.isGenerator = false := by rfl) (hk : scope.kind = .function := by rfl) : DealC w (k + 1) f args dl v0 ns reads P where
  run A s hB a i sd hA gl sub e hn rep hr := by
    subst e
    have hB0 : Sub hB (hideAll s.heap [a]) := fun b o q => hideAll_get _ (sub _ _ q) fun hb => by cases List.mem_singleton.mp hb; rw [hn] at q; cases q
    refine enter (h₀ := hideAll s.heap [a]) (ow := [(.ref a, .deal v0 ns i sd)]) (fx := reads) (QQ := fun v σ' => P v ∧ ∃ i' sd', (.ref a, D.deal v0 ns i' sd') ∈ σ'.ow) ho hcd hb hkind hnd (nodupB_iff hbn) hm (by have := hA.d; (first | lia | omega)) (gl.mono sub) ?_ hco hgen hk (fun L => h _ L i sd (room_deeper hA _)) fun v h' tk' σ' env S' q => ?_
    · intro h' sub' env ok hL hns hc hmm
      have hsz : ∀ c, s.heap.objs.size ≤ c → s.heap.get? c = none := fun c hc => Heap.get?_none_of_le hc
      obtain ⟨oa, hoa⟩ := rep.some
      have hlt : a < s.heap.objs.size := Heap.lt_size hoa
      refine ⟨hideAll s.heap [a], ok, gl.mono hB0, fun _ _ e => e, fun b o e => sub' _ _ (of_hideAll _ e), none_of_sub (fun b o e => of_hideAll _ e) (hsz _ (Nat.le_of_eq hL.symm)), hns, fun x c e => ⟨(hc x c e).1, by rw [hL]; exact Nat.ne_of_gt (hc x c e).2, fun p hp q => ?_, fun _ => none_of_sub (fun b o e => of_hideAll _ e) (hsz _ (Nat.le_of_lt (hc x c e).2))⟩, hmm, nodupB_iff hmn, fun p hp => (hr p hp).mono hB0, fun p hp => ?_, by simp, fun _ hv => nomatch hv⟩
      · cases List.mem_singleton.mp hp
        cases q
        exact absurd (hc x a e).2 (Nat.not_lt.mpr (Nat.le_of_lt hlt))
      · cases List.mem_singleton.mp hp
        exact ⟨a, rfl, hideAll_none _ (.head _), by rw [hL]; exact Nat.ne_of_lt hlt, rep.mono hB0 fun o q => sub' _ _ q⟩
    · obtain ⟨p, i', sd', hm'⟩ := q
      refine ⟨h', tk', i', sd', rfl, fun b o hb q => S'.sub _ _ (hideAll_get _ q fun hm => hb (List.mem_singleton.mp hm)), ?_, p⟩
      obtain ⟨hI, S'⟩ := S'
      obtain ⟨a', ea, _, _, t, u, hl, _, r⟩ := S'.ow _ hm'
      cases ea
      obtain ⟨_, _, _, hi0, _⟩ := rep
      exact ⟨t, u, hl, hi0, r⟩

theorem T_deal0 {value slice : Expr} {u : Tok} {Q : Value → Sg → Prop} (hd : (dl, .deal v0 ns i sd) ∈ ow) (h : Q v0 ⟨m, (v0, .nums ns) :: fx, fr, ow⟩)
    (hs : ∀ a, subscripted slice false (.ref a) (.int 0 u) = operate [.ref a, .int 0 u] (getItem (.ref a) (.int 0 u)) := by intro _; kernel_rfl) : T w A env (subscriptTail value slice dl (.int 0 u)) Q ⟨m, fx, fr, ow⟩ := by
  refine T.mk fun h₀ s S => ?_
  obtain ⟨hI, S⟩ := S
  obtain ⟨a, ea, hn, hL, t, u', hl, ⟨b, us, eb, hb, hu⟩, r⟩ := S.ow _ hd
  dsimp only at ea
  subst ea
  exact tail_any hl.typeIs slot_list_getitem.lookup (wpAny_getItem_list hl (by decide) (by decide) (by rfl) ⟨s.heap, s.toks, rfl, _, S.also (d := .nums ns) ⟨b, eb, us, hb, hu⟩, h⟩) (hs a)
theorem T_deal1 {value slice : Expr} {u : Tok} {Q : Value → Sg → Prop} (hd : (dl, .deal v0 ns i sd) ∈ ow) (h : ∀ t, 0 ≤ i → i ≤ ns.length → ns.length ≤ 24 → Q (.int i t) ⟨m, fx, fr, ow⟩)
    (hs : ∀ a, subscripted slice false (.ref a) (.int 1 u) = operate [.ref a, .int 1 u] (getItem (.ref a) (.int 1 u)) := by intro _; kernel_rfl) : T w A env (subscriptTail value slice dl (.int 1 u)) Q ⟨m, fx, fr, ow⟩ := by
  refine T.mk fun h₀ s S => ?_
  obtain ⟨hI, S⟩ := S
  obtain ⟨a, ea, hn, hL, t, u', hl, _, r1, r2, r3, _⟩ := S.ow _ hd
  dsimp only at ea
  subst ea
  exact tail_any hl.typeIs slot_list_getitem.lookup (wpAny_getItem_list hl (by decide) (by decide) (by rfl) ⟨s.heap, s.toks, rfl, _, ⟨hI, S⟩, h t r1 r2 r3⟩) (hs a)
theorem T_deal2 {value slice : Expr} {u : Tok} {Q : Value → Sg → Prop} (hd : (dl, .deal v0 ns i sd) ∈ ow) (h : ∀ t, 0 ≤ sd → sd < 2147483647 → Q (.int sd t) ⟨m, fx, fr, ow⟩)
    (hs : ∀ a, subscripted slice false (.ref a) (.int 2 u) = operate [.ref a, .int 2 u] (getItem (.ref a) (.int 2 u)) := by intro _; kernel_rfl) : T w A env (subscriptTail value slice dl (.int 2 u)) Q ⟨m, fx, fr, ow⟩ := by
  refine T.mk fun h₀ s S => ?_
  obtain ⟨hI, S⟩ := S
  obtain ⟨a, ea, hn, hL, t, u', hl, _, r1, r2, r3, r4, r5⟩ := S.ow _ hd
  dsimp only at ea
  subst ea
  exact tail_any hl.typeIs slot_list_getitem.lookup (wpAny_getItem_list hl (by decide) (by decide) (by rfl) ⟨s.heap, s.toks, rfl, _, ⟨hI, S⟩, h u' r4 r5⟩) (hs a)
theorem T_dset1 {x : Int} {t u : Tok} {ow' : List (Value × D)} {Q : Unit → Sg → Prop} (c : Chg dl (.deal v0 ns i sd) (.deal v0 ns x sd) ow ow') (h0 : 0 ≤ x) (h1 : x ≤ ns.length) (h : Q () ⟨m, fx, fr, ow'⟩) : T w A env (setItem dl (.int 1 u) (.int x t)) Q ⟨m, fx, fr, ow⟩ := by
  refine T.mk fun h₀ s S => ?_
  obtain ⟨hI, S⟩ := S
  obtain ⟨a, ea, hn, hL, t', u', hl, hi, r1, r2, r3⟩ := S.ow _ c.mem
  dsimp only at ea
  subst ea
  refine wpAny_setItem_list hl (by decide) (by decide) (by simp) fun h' hl' hs => ⟨h', s.toks, rfl, _, St.chg S c hs.extBut ⟨t, u', ?_, hi, h0, h1, r3⟩, h⟩
  simpa using hl'
theorem T_dset2 {x : Int} {t u : Tok} {ow' : List (Value × D)} {Q : Unit → Sg → Prop} (c : Chg dl (.deal v0 ns i sd) (.deal v0 ns i x) ow ow') (h0 : 0 ≤ x) (h1 : x < 2147483647) (h : Q () ⟨m, fx, fr, ow'⟩) : T w A env (setItem dl (.int 2 u) (.int x t)) Q ⟨m, fx, fr, ow⟩ := by
  refine T.mk fun h₀ s S => ?_
  obtain ⟨hI, S⟩ := S
  obtain ⟨a, ea, hn, hL, t', u', hl, hi, r1, r2, r3, r4, r5⟩ := S.ow _ c.mem
  dsimp only at ea
  subst ea
  refine wpAny_setItem_list hl (by decide) (by decide) (by simp) fun h' hl' hs => ⟨h', s.toks, rfl, _, St.chg S c hs.extBut ⟨t', t, ?_, hi, r1, r2, r3, h0, h1⟩, h⟩
  simpa using hl'
theorem T_newDeal {t u : Tok} {Q : Value → Sg → Prop} (hv : (v0, .nums ns) ∈ fx) (h0 : 0 ≤ i) (h1 : i ≤ ns.length) (h2 : ns.length ≤ 24) (h3 : 0 ≤ sd) (h4 : sd < 2147483647) (h : ∀ v, Q v ⟨m, fx, fr, (v, .deal v0 ns i sd) :: ow⟩) :
    T w A env (newList [v0, .int i t, .int sd u]) Q ⟨m, fx, fr, ow⟩ := by
  refine T.mk fun h₀ s S => ?_
  obtain ⟨hI, S⟩ := S
  obtain ⟨b, eb, us, hb, hu⟩ := S.fx _ hv
  refine wpAny_newList (Fin.mk (S.own (d := .deal v0 ns i sd) (sub_push _ _) (none_at_end _) ⟨t, u, ⟨_, Heap.get?_push_size _ rfl, rfl, _, rfl⟩, ⟨b, us, eb, hb, hu⟩, h0, h1, h2, h3, h4⟩) (h _)) (by rw [sizeLine_eq]; exact Nat.le_of_ble_eq_true rfl)
end
end Mine
end
section
open PySem PySem.W PyProof.Rows PySem.Calls
set_option Elab.async false
set_option linter.unusedVariables false
set_option linter.unusedSimpArgs false
set_option linter.unusedSectionVars false
set_option maxRecDepth 100000
set_option maxHeartbeats 4000000
namespace Mine
section
variable {w : World} {A : Around} {env : Env} {σ : Sg}
theorem T_AssignComp {elt target iter : Expr} {ifs : List Expr} {scope : Scope} {y : Str} {py pos spos : Pos} {Q : Flow → Sg → Prop} (tm cm : List (Str × AV)) (d0 : D)
    (h : Opens w A env target iter σ (fun n bd σ₁ => (∀ p ∈ cm, p ∈ σ₁.m) ∧ ∀ acc, ∃ J : Nat → Sg → Prop, J 0 ⟨tm ++ cm, σ₁.fx, [], (acc, d0) :: σ₁.ow⟩ ∧
      (∀ C i σ', i < n → J i σ' → bd i σ' fun σ'' => T w A (cenvOf scope C env) (ctests ifs (cenvOf scope C env)) (fun ok σ₃ => (ok = true → T w A (cenvOf scope C env) (eval elt (cenvOf scope C env)) (fun x σ₄ => T w A (cenvOf scope C env) (call (.builtin "list.append") [acc, x]) (fun _ σ₅ => J (i + 1) σ₅) σ₄) σ₃) ∧ (ok = false → J (i + 1) σ₃)) σ'') ∧
      (∀ σ', J n σ' → ∃ tm' fx' ow' d', Wk ⟨tm' ++ cm, fx', [], (acc, d') :: ow'⟩ σ' ∧ ow'.map (·.1) = σ₁.ow.map (·.1) ∧ ∃ m', Put y (.v acc) σ₁.m m' ∧ Q .next ⟨m', (acc, d') :: fx', acc :: σ₁.fr, ow'⟩)))
    (hsw : swapsWith (.ListComp elt [⟨target, iter, ifs, 0⟩] scope pos) (some (.Name y py)) spos.line env = pure true := by kernel_rfl) (hy : env.kindOf y = some .local := by kernel_rfl)
    (hd0 : d0 = .nums [] ∨ d0 = .rows [] := by (first | exact .inl rfl | exact .inr rfl)) (htm : (tm.all fun p => match p.2 with | .un => true | _ => false) = true := by kernel_rfl)
    (hcm : cm.map (·.1) = (clOf scope env).map (·.1) := by kernel_rfl) (hnd : nodupB ((tm ++ cm).map (·.1)) = true := by kernel_rfl)
    (hclos : closureFor scope env = pure (clOf scope env) := by kernel_rfl)
    (hcap : (clOf scope env).map (fun p => (env.cells.lookup p.1, env.kindOf p.1)) = (clOf scope env).map (fun p => (some p.2, some .cell)) := by kernel_rfl)
    (hall : env.cells.map (fun p => env.kindOf p.1) = env.cells.map (fun _ => some .cell) := by kernel_rfl)
    (hck : ∀ C, (clOf scope env).map (fun p => (cenvOf scope C env).kindOf p.1) = (clOf scope env).map (fun _ => some .cell) := by intro C; kernel_rfl)
    (hcell : (scope.names.all fun y => decide (y.2 ≠ .cell)) = true := by kernel_rfl) (hnames : (scope.names.all fun y => decide (y.2 = .local → scope.names.lookup y.1 = some .local)) = true := by kernel_rfl)
    (hkind : scope.kind = .function := by rfl) (hlb : ∀ C, localB target (cenvOf scope C env) = true := by intro C; kernel_rfl)
    (hs : ∀ x, foldedSetIterable iter env x = pure x := by intro _; kernel_rfl) : T w A env (exec (.Assign [.Name y py] (.ListComp elt [⟨target, iter, ifs, 0⟩] scope pos) spos) env) Q σ := by
  have hl : ∀ C, LocalT target (cenvOf scope C env) := hlb
  have hcap' : ∀ p ∈ clOf scope env, env.cells.lookup p.1 = some p.2 ∧ env.kindOf p.1 = some .cell := fun p hp => by
    have := List.map_inj_left.mp hcap p hp
    exact ⟨congrArg Prod.fst this, congrArg Prod.snd this⟩
  have hall' : ∀ x c, env.cells.lookup x = some c → env.kindOf x = some .cell := fun x c e => List.map_inj_left.mp hall _ (mem_cells e)
  refine T.mk fun h₀ s S => ?_
  rw [exec_Assign_Name_used _ _ _ _ hsw]
  refine wpAny_bind (wpAny_standAt (wpAny_bind ?_))
  show wpAny _ A (do let _ ← comprehension (.ListComp elt [⟨target, iter, ifs, 0⟩] scope pos) scope env _ (newList []) false (eval iter env) (some (assign (.Name y py) env))) _ _ s
  refine wpAny_bind (wpAny_mono (wpAny_comprehension_free (use := some (assign (.Name y py) env)) (Q := fun _ s' => Fin w env h₀ s Q .next s') rfl hs hclos hkind (fun y hy => of_decide_eq_true (List.all_eq_true.mp hnames y hy)) (h h₀ s _ _ S fun I fp wr n Sti bd h' tk' σ₁ hI O ⟨hsub, hJ⟩ => ?_)) (fun _ s' hq => wpAny_pure (wpAny_pure hq)) fun _ _ e => e)
  refine wpAny_newObj_type (wpAny_newFunctionEnv (fun y hy => of_decide_eq_true (List.all_eq_true.mp hcell y hy)) (by intro y hy; simp at hy) (fun h₁ hns₁ hsb₁ => ?_) hkind)
  dsimp only at hns₁ hsb₁ ⊢
  generalize hH2 : h'.push { cls := .type "list", dict := none, data := .seq ([] : List Value).toArray } = H2 at hns₁ hsb₁ ⊢
  have hC : H2.objs.size = h'.objs.size + 1 := by rw [← hH2, Heap.size_push]
  have hCD : H2.objs.size ≠ h'.objs.size := by rw [hC]; exact Nat.succ_ne_self _
  have nC : h'.get? H2.objs.size = none := Heap.get?_none_of_le (by rw [hC]; exact Nat.le_succ _)
  have old : Sub h' h₁ := fun b o e => hsb₁.extBut b o (fun q => by rw [q, nC] at e; cases e) (Heap.get?_push_of_some _ (hH2 ▸ Heap.get?_push_of_some _ e))
  have hacc : h₁.get? h'.objs.size = some { cls := .type "list", dict := none, data := .seq ([] : List Value).toArray } := hsb₁.extBut _ _ (Ne.symm hCD) (Heap.get?_push_of_some _ (hH2 ▸ Heap.get?_push_size _ rfl))
  obtain ⟨J, h0, turn, fin⟩ := hJ (.ref h'.objs.size)
  have X : CompCtx w env scope (clOf scope env) h₀ h' hI h₁ σ₁ wr H2.objs.size h'.objs.size :=
    ⟨O.S, old, nC, none_at_end _, hCD, O.new, fun b hb => O.off b ((O.drive _ (hl 0)).sub b hb), hcap', hall', hkind, fun p hp => List.map_inj_left.mp (hck H2.objs.size) p hp⟩
  have hrep : RepM (hideAll h₁ (hid (clOf scope env) σ₁ wr H2.objs.size h'.objs.size)) h₁ h'.objs.size d0 := by
    rcases hd0 with rfl | rfl
    · exact ⟨[], ⟨_, hacc, rfl, _, rfl⟩, .nil⟩
    · exact ⟨[], ⟨_, hacc, rfl, _, rfl⟩, .nil⟩
  have htm' : ∀ p ∈ tm, p.2 = .un := fun p hp => by
    have := List.all_eq_true.mp htm p hp
    cases q : p.2 <;> rw [q] at this <;> first | rfl | cases this
  have E := X.enter hns₁ htm' hcm hsub (nodupB_iff hnd) hrep
  have D := O.drive (cenvOf scope H2.objs.size env) (hl _)
  have hst : Sti 0 h₁ := D.frame _ _ _ O.st fun b hb o e => old b o e
  have hoff : ∀ b ∈ fp, b ∉ mutAddrs (cenvOf scope H2.objs.size env) ⟨tm ++ cm, σ₁.fx, [], (.ref h'.objs.size, d0) :: σ₁.ow⟩ := fun b hb hm => by
    obtain ⟨o, ho⟩ := O.ex b hb
    have hm0 := O.off b hb
    rcases List.mem_cons.mp hm with e | hm
    · have e' : b = H2.objs.size := e
      rw [e', nC] at ho; cases ho
    rcases List.mem_append.mp hm with hm | hm
    · obtain ⟨x, _, e⟩ := List.mem_filterMap.mp hm
      by_cases hk : (cenvOf scope H2.objs.size env).kindOf x = some .cell
      · rw [if_pos hk] at e
        obtain ⟨e1, e2⟩ := hcap' _ (mem_cells e)
        exact hm0 (mem_mut_cell e1 e2)
      · rw [if_neg hk] at e; cases e
    · obtain ⟨p, hp, e⟩ := List.mem_filterMap.mp hm
      rcases List.mem_cons.mp hp with rfl | hp
      · cases e
        rw [none_at_end] at ho; cases ho
      · exact hm0 (List.mem_cons_of_mem _ (List.mem_append_right _ (List.mem_filterMap.mpr ⟨p, hp, e⟩)))
  have go : ∀ s₃ : Shared, s₃ = { s with heap := h₁, toks := tk' + ([] : List (Str × Value)).length } →
      codeAny (model PySem.Challenge.pw_nn0015_01 w) A (.compLoop (.ListComp elt [⟨target, iter, ifs, 0⟩] scope pos) 0 (.ref I) (.ref h'.objs.size) (cenvOf scope H2.objs.size env))
        (compPost (model PySem.Challenge.pw_nn0015_01 w) A (fun _ _ => False) (some (assign (.Name y py) env)) (fun _ s' => Fin w env h₀ s Q .next s') (.ref h'.objs.size) H2.objs.size) s₃ := by
    rintro s₃ rfl
    refine cloop D J E (fun b hb => hideAll_none _ (List.mem_cons_of_mem _ (List.mem_cons_of_mem _ (List.mem_append_right _ (List.mem_append_left _ hb))))) hoff (fun _ hv => nomatch hv) hst h0 (turn _) ?_
    intro h2 tk2 σ2 S2 hj
    obtain ⟨tm', fx', ow', d', K, hk, m', hp, hq⟩ := fin σ2 hj
    have S2' := S2.weaken K.m K.n K.fx K.ow K.fr
    obtain ⟨hJ2, S3⟩ := id S2'
    obtain ⟨mC, hnC⟩ := S3.ns
    obtain ⟨ml, hnL⟩ := O.S.ns
    have hL2 : h2.Ns env.locals ml := hnL.at fun o e => S2.sub _ _ (X.kept_locals e)
    have hLC : env.locals ≠ H2.objs.size := fun q => by
      obtain ⟨o, _, _, e, _⟩ := hnL
      rw [q, nC] at e; cases e
    show wpAny _ A (assign (.Name y py) env (.ref h'.objs.size)) _ _ _
    refine assign_Name (wpAny_storeName_local hy hL2 (fun h2' hn' hs' => ?_) (by rw [O.S.ok.kind]; rfl))
    replace hs' : Heap.SameBut env.locals h2 h2' := hs'
    refine ⟨mC, hnC.sameBut hs' (fun q => hLC q.symm), fun h3 hs3 => ⟨h3, tk2 + 1, rfl, ⟨m', (.ref h'.objs.size, d') :: fx', .ref h'.objs.size :: σ₁.fr, ow'⟩, ?_, hq⟩⟩
    replace hs3 : Heap.SameBut H2.objs.size h2' h3 := hs3
    obtain ⟨oL, _, _, eL, hdL, _⟩ := id hL2
    obtain ⟨oL', _, _, eL', _⟩ := id hn'
    have eL3 : h3.get? env.locals = some oL' := (hs3.2 _ hLC).trans eL'
    have hfree : oL.isFreed = false := by
      obtain ⟨c, d, dt, sl⟩ := oL
      dsimp only at hdL
      subst hdL; rfl
    have hsu := Heap.SameBut.update h3 env.locals (fun _ => oL)
    have eself : (h3.update env.locals (fun _ => oL)).get? env.locals = some oL := Heap.get?_update_self _ eL3 hfree
    have same : Heap.SameBut H2.objs.size h2 (h3.update env.locals (fun _ => oL)) := by
      refine ⟨hsu.1.trans (hs3.1.trans hs'.1), fun b hb => ?_⟩
      by_cases q : b = env.locals
      · rw [q, eself, eL]
      · rw [hsu.2 b q, hs3.2 b hb, hs'.2 b q]
    obtain ⟨hI4, S4⟩ := St.freeze (X.leave hcm hsub hk S2' same) rfl
    refine ⟨hI4, S4.put (x := y) (av := .v (.ref h'.objs.size)) (v := .ref h'.objs.size) hy rfl hp (ml := ml) (hL2.at fun o e => ?_) (hn'.sameBut hs3 hLC) ?_⟩
    · rw [eL] at e; cases e; exact eself
    · exact ⟨hsu.1.symm, fun b hb => (hsu.2 b hb).symm⟩
  exact codeAny_compStart_list (go _ rfl) (O.self 0 _ _ _ hst (go _ rfl))
end
/-- a def that makes a deal -/
structure NewDeal (w : World) (k : Nat) (f : Addr) (args : List Value) (reads : List (Value × D)) : Prop where
  run : ∀ (A : Around) (s : Shared), Room A k → Gl w s.heap → (∀ p ∈ reads, Rep s.heap p.1 p.2) →
    wpAny (model PySem.Challenge.pw_nn0015_01 w) A (call (.ref f) args) (fun v s' => ∃ h' tk' a v0 ns i sd, s' = { s with heap := h', toks := tk' } ∧ Sub s.heap h' ∧ v = .ref a ∧ s.heap.get? a = none ∧ RepM (hideAll h' [a]) h' a (.deal v0 ns i sd)) (fun _ _ => False) s
theorem NewDeal.mk' {w : World} {k : Nat} {f : Addr} {args : List Value} {reads : List (Value × D)} {name qual : Str} {params : Arguments} {body : List Stmt} {scope : Scope} {dV kV doc pm cdv ct oc : Value} {an od : Option Addr} {osl : Array (Option Value)}
    {binds : List (Str × Value)} {m : List (Str × AV)}
    (ho : (hK w.params).lookup f = some ⟨oc, od, .func (fnOf name qual params body scope dV kV doc pm an cdv ct), osl⟩) (hcd : codeIn (hK w.params) cdv qual = true)
    (hb : bindArgs (fnOf name qual params body scope dV kV doc pm an cdv ct) ⟨args, []⟩ = pure binds)
    (hkind : (binds.all fun y => scope.names.lookup y.1 == some .local || scope.names.lookup y.1 == some .cell) = true)
    (hnd : ((cellsFrom 0 scope.names []).map (·.1)).Nodup) (hbn : nodupB (binds.map (·.1)) = true) (hm : MB m binds) (hmn : nodupB (m.map (·.1)) = true)
    (h : ∀ A L, Room A k → T w A (envOfC qual scope L f cdv) (execs body (envOfC qual scope L f cdv)) (fun fl σ' => ∃ v, fl = .ret v ∧ ∃ v0 ns i sd, (v, D.deal v0 ns i sd) ∈ σ'.ow) ⟨m, reads, [], []⟩)
    (hco : scope.isCoroutine = false := by rfl) (hgen : scope.isGenerator = false := by rfl) (hk : scope.kind = .function := by rfl) : NewDeal w (k + 1) f args reads where
  run A s hA gl hr := by
    refine enter (h₀ := s.heap) (ow := []) (fx := reads) (QQ := fun v σ' => ∃ v0 ns i sd, (v, D.deal v0 ns i sd) ∈ σ'.ow) ho hcd hb hkind hnd (nodupB_iff hbn) hm (by have := hA.d; (first | lia | omega)) gl ?_ hco hgen hk (fun L => h _ L (room_deeper hA _)) fun v h' tk' σ' env S' q => ?_
    · intro h' sub env ok hL hns hc hmm
      have hn : ∀ c, s.heap.objs.size ≤ c → s.heap.get? c = none := fun c hc => Heap.get?_none_of_le hc
      exact ⟨s.heap, ok, gl, fun _ _ e => e, sub, hn _ (Nat.le_of_eq hL.symm), hns, fun x c e => ⟨(hc x c e).1, by rw [hL]; exact Nat.ne_of_gt (hc x c e).2, (fun _ hp => nomatch hp), fun _ => hn _ (Nat.le_of_lt (hc x c e).2)⟩, hmm, nodupB_iff hmn, hr, (fun _ hp => nomatch hp), .nil, fun _ hv => nomatch hv⟩
    · obtain ⟨v0, ns, i, sd, hm'⟩ := q
      obtain ⟨hI, S⟩ := S'
      obtain ⟨a, e, hn, _, r⟩ := S.ow _ hm'
      refine ⟨h', tk', a, v0, ns, i, sd, rfl, fun b o e => S.kI _ _ (S.k0 _ _ e), e, none_of_sub S.k0 hn, r.mono (fun b o q => hideAll_get _ (S.kI _ _ q) fun hb => ?_) fun _ q => q⟩
      cases List.mem_singleton.mp hb
      rw [hn] at q; cases q
theorem T_nd {w : World} {A : Around} {env : Env} {k : Nat} {f : Addr} {args : List Value} {reads : List (Value × D)} {m : List (Str × AV)} {fx : List (Value × D)} {fr : List Value} {Q : Value → Sg → Prop} (C : NewDeal w k f args reads) (hA : Room A k) (hr : ∀ p ∈ reads, (⟨m, fx, fr, []⟩ : Sg).Has p.1 p.2)
    (h : ∀ v v0 ns i sd, Q v ⟨m, fx, fr, [(v, .deal v0 ns i sd)]⟩) : T w A env (call (.ref f) args) Q ⟨m, fx, fr, []⟩ := by
  refine T.mk fun h₀ s S => ?_
  refine wpAny_mono (C.run A s hA S.glob fun p hp => (hr p hp).rep S) (fun v s' ⟨h', tk', a, v0, ns, i, sd, e, sub, ev, hn, rp⟩ => ?_) fun _ _ f => f
  subst e ev
  refine ⟨h', tk', rfl, ⟨m, fx, fr, [(.ref a, .deal v0 ns i sd)]⟩, ?_, h _ _ _ _ _⟩
  obtain ⟨hI, S⟩ := S
  have hIa : hI.get? a = none := none_of_sub S.kI hn
  have S' := S.grow sub
  have hsub : Sub hI (hideAll h' (a :: mutAddrs env ⟨m, fx, fr, []⟩)) := fun b o q => hideAll_get _ (S'.kI _ _ q) fun hb => by
    rcases List.mem_cons.mp hb with rfl | hb
    · rw [hIa] at q; cases q
    · rw [S.off b hb] at q; cases q
  have hold : ∀ c o, s.heap.get? c = some o → c ≠ a := fun c o e q => by rw [q, hn] at e; cases e
  refine ⟨hideAll h' (a :: mutAddrs env ⟨m, fx, fr, []⟩), S.ok, S.gl, fun b o q => hsub _ _ (S.k0 _ _ q), fun b o q => of_hideAll _ q, hideAll_none _ (.tail _ (.head _)), S'.ns, ?_, S'.m, S'.mn, fun p hp => (S.fx p hp).mono hsub, ?_, by simp, S'.fr⟩
  · intro x c e
    obtain ⟨h1, h2, h3, h4⟩ := S'.cell x c e
    obtain ⟨⟨_, o, ho, _⟩, _⟩ := S.cell x c e
    refine ⟨h1, h2, fun p hp q => ?_, fun hk => hideAll_none _ (.tail _ (mem_mut_cell e hk))⟩
    cases List.mem_singleton.mp hp
    cases q
    exact hold _ _ ho rfl
  · intro p hp
    cases List.mem_singleton.mp hp
    refine ⟨a, rfl, hideAll_none _ (.head _), fun q => ?_, ?_⟩
    · obtain ⟨ml, o, _, _, e, _⟩ := S.ns
      exact hold _ _ e q.symm
    · obtain ⟨t, u, hl, ⟨b, us, eb, hb, hu⟩, r⟩ := rp
      refine ⟨t, u, hl, ⟨b, us, eb, hb.at fun o q => hideAll_get _ (of_hideAll _ q) fun hm => ?_, hu⟩, r⟩
      rcases List.mem_cons.mp hm with e | hm
      · rw [e, hideAll_none _ (.head _)] at q; cases q
      · have hb' : h'.IsList b us.toArray := hb.at fun o q => of_hideAll _ q
        rcases S'.list_or hm with q' | ⟨p, hp, _⟩
        · exact q' _ hb'
        · cases hp
end Mine
end
section
open PySem PySem.W PyProof.Rows PySem.Calls
set_option Elab.async false
set_option linter.unusedVariables false
set_option linter.unusedSimpArgs false
set_option linter.unusedSectionVars false
set_option maxRecDepth 100000
set_option maxHeartbeats 4000000
namespace Mine
/-- an int from lo on, below hi -/
def IntIn (lo hi : Int) (v : Value) : Prop := ∃ r t, v = .int r t ∧ lo ≤ r ∧ r < hi
theorem emod_in {a b : Int} (h : 0 < b) : 0 ≤ a % b ∧ a % b < b := ⟨Int.emod_nonneg _ (Int.ne_of_gt h), Int.emod_lt_of_pos _ h⟩
theorem T_pow2E {w : World} {A : Around} {env : Env} {σ : Sg} {b c : Int} {t u : Tok} {Q : Value → Sg → Prop} (hn : 0 ≤ b) (hb : b ≤ 1000000) (e : 2 ^ b.toNat = c) (h : ∀ t, Q (.int c t) σ) : T w A env (binaryOp .Pow (.int 2 t) (.int b u)) Q σ :=
  T_pow2 hn hb (e ▸ h)
theorem ints_rev : ∀ {vs : List Value} {ns : List Int}, IntsAre vs ns → IntsAre vs.reverse ns.reverse
  | _, _, .nil => .nil
  | _, _, .cons n t r => by
    rw [List.reverse_cons, List.reverse_cons]
    exact (ints_rev r).append (.cons n t .nil)
theorem T_revSlice {w : World} {A : Around} {env : Env} {σ : Sg} {value st : Expr} {p pos : Pos} {Q : Value → Sg → Prop}
    (h : T w A env (eval value env) (fun o σ₁ => T w A env (eval st env) (fun vs σ₂ => ∃ ns t, vs = .int (-1) t ∧ σ₂.Has o (.nums ns) ∧ ns.length ≤ 1000 ∧ ∀ v, Q v { σ₂ with fx := (v, .nums ns.reverse) :: σ₂.fx, fr := v :: σ₂.fr }) σ₁) σ)
    (ht : ∀ o r, letTemporaryGo value o r = pure () := by intro _ _; kernel_rfl) : T w A env (eval (.Subscript value (.Slice none none (some st) p) pos) env) Q σ := by
  refine T.mk fun h₀ s S => ?_
  refine wpAny_Subscript_Slice_step (T := "list") list_getitem_lookup (h.go S fun o h1 tk1 σ₁ S1 q => wpAny_Slice (wpAny_pure (wpAny_pure (q.go S1 fun vs h2 tk2 σ₂ S2 q2 => ?_)))) ht
  obtain ⟨ns, t, e, hx, hn, q3⟩ := q2
  subst e
  obtain ⟨a, rfl, us, hl, hi⟩ := hx.rep S2
  have hlen := hi.length
  refine ⟨(hl.push _).typeIs, wpAny_getItem_list_slice (hl.push _) (Heap.IsSliceOf.new ..) .none .none (.int _ _) (by decide) ?_ (by simp only [List.size_toArray]; rw [sizeLine_eq]; (first | lia | omega))⟩
  have hnone : h2.get? (h2.objs.size + 1) = none := Heap.get?_none_of_le (Nat.le_succ _)
  rw [rev_pick, Heap.size_push]
  refine Fin.mk (S2.fixNew (d := .nums ns.reverse) (fun b o e => Heap.get?_push_of_some _ (Heap.get?_push_of_some _ e)) hnone fun h3 k _ => ⟨us.reverse, ?_, ints_rev hi⟩) (q3 _)
  refine ⟨{ cls := .type "list", data := .seq us.reverse.toArray }, k _ ?_, rfl, _, rfl⟩
  have := Heap.get?_push_size (h2.push { cls := .type "slice", data := .fields #[.none, .none, .int (-1) t] }) (o := { cls := .type "list", data := .seq us.reverse.toArray }) rfl
  rw [Heap.size_push] at this
  exact this
theorem val_drop_step {w : Nat} {ns : List Int} {k : Nat} (hk : k < ns.length) : val w (ns.drop k) = ns[k] + 2 ^ w * val w (ns.drop (k + 1)) := by
  rw [List.drop_eq_getElem_cons hk]; rfl
theorem T_nn {w : World} {A : Around} {env : Env} {m : List (Str × AV)} {fx ow : List (Value × D)} {fr : List Value} {vs : List Value} {ns : List Int} {Q : Value → Sg → Prop} (hi : IntsAre vs ns) (hsz : vs.length ≤ 1000) (h : ∀ v, Q v ⟨m, (v, .app ns) :: fx, v :: fr, ow⟩) : T w A env (newList vs) Q ⟨m, fx, fr, ow⟩ := T_newNums hi hsz h
theorem T_nr {w : World} {A : Around} {env : Env} {m : List (Str × AV)} {fx ow : List (Value × D)} {fr : List Value} {vs : List Value} {rs : List (List Int)} {Q : Value → Sg → Prop} (hi : RowsIn fx vs rs) (hsz : vs.length ≤ 1000) (h : ∀ v, Q v ⟨m, (v, .rows rs) :: fx, v :: fr, ow⟩) : T w A env (newList vs) Q ⟨m, fx, fr, ow⟩ := T_newRows hi hsz h
end Mine
end
section
open PySem PySem.W PyProof.Rows PySem.Calls
set_option Elab.async false
set_option linter.unusedVariables false
set_option linter.unusedSimpArgs false
set_option linter.unusedSectionVars false
set_option maxRecDepth 100000
set_option maxHeartbeats 4000000
namespace Mine
def natZ (us : List Nat) : List Int := us.map (fun (u : Nat) => ((u : Nat) : Int))
theorem natZ_len {us : List Nat} : (natZ us).length = us.length := by simp [natZ]
theorem natZ_snoc {us : List Nat} {i : Nat} (h : i < us.length) : (natZ us).take i ++ [((us[i] : Nat) : Int)] = (natZ us).take (i + 1) := by
  have h' : i < (natZ us).length := by rw [natZ_len]; exact h
  rw [take_snoc h']
  simp [natZ]
theorem rrs_nat {w n : Nat} {zs : List Int} : rrs w n zs = (zs.map (res n)).map (row w) := by simp [rrs, rr]
def turnF (many found number : Nat) : Nat := if h : many ≤ 1 then found else turnF (many / 2) (2 * found + number % 2) (number / 2)
termination_by many
decreasing_by (first | lia | omega)
theorem natZ_res {n : Nat} {zs : List Int} : natZ (zs.map (res n)) = zs.map fun z => z % (md n : Int) := by
  simp [natZ, res_cast]
theorem rr_self {w n x : Nat} (h : x < md n) : rr w n (x : Int) = row w x := (row_rr h 0 (by (first | lia | omega))).symm
theorem md_cast (n : Nat) : (md n : Int) = 2 ^ n + 1 := by unfold md; push_cast; rfl
end Mine
end
section
open PySem PySem.W PyProof.Rows PySem.Calls
set_option Elab.async false
set_option linter.unusedVariables false
set_option linter.unusedSimpArgs false
set_option linter.unusedSectionVars false
set_option maxRecDepth 100000
set_option maxHeartbeats 4000000
namespace Mine
theorem T_sum {w : World} {A : Around} {env : Env} {σ : Sg} {v : Value} {ns : List Int} {Q : Value → Sg → Prop} (hh : A.handled = none) (hx : σ.Has v (.nums ns)) (h : ∀ t, Q (.int ns.sum t) σ) : T w A env (call (.builtin "sum") [v]) Q σ := by
  refine T.mk fun h₀ s S => ?_
  obtain ⟨a, rfl, vs, hl, hi⟩ := hx.rep S
  obtain ⟨xs, hx⟩ := hi.allInts.items
  have hl' : s.heap.IsList a (intItems xs) := hx ▸ hl
  refine sum_intListG hh hl' fun h' tk t' hk => ?_
  have e1 : ns = xs.toList.map (·.1) := by
    rw [← nums_intItems, ← hx]
    exact (show numsOf vs.toArray.toList = ns from hi.numsOf).symm
  have e2 : preSum (numAt xs) xs.size = ns.sum := by
    rw [preSum_eq, List.take_of_length_le (by simp), e1]
  rw [e2]
  exact Fin.mk (S.grow hk) (h _)
def powL (zs : List Int) (root : Int) : List Int := (List.range zs.length).map fun i => zs.getD i 0 * root ^ i
theorem powL_len {zs : List Int} {root : Int} : (powL zs root).length = zs.length := by simp [powL]
theorem powL_at {zs : List Int} {root : Int} {i : Nat} (h : i < zs.length) : (powL zs root)[i]'(by rw [powL_len]; exact h) = zs[i] * root ^ i := by simp [powL, h]
def rootOf (n m at_ : Nat) : Int := 2 ^ (2 * n / m * turnF m 0 at_)
def dueV (n : Nat) (zs : List Int) (at_ : Nat) : Int := (powL zs (rootOf n zs.length at_)).sum % (md n : Int)
def dueL (n : Nat) (zs : List Int) : List Int := (List.range zs.length).map (dueV n zs)
theorem dueL_len {n : Nat} {zs : List Int} : (dueL n zs).length = zs.length := by simp [dueL]
theorem dueL_snoc {n : Nat} {zs : List Int} {i : Nat} (h : i < zs.length) : (dueL n zs).take i ++ [dueV n zs i] = (dueL n zs).take (i + 1) := by
  rw [take_snoc (by rw [dueL_len]; exact h)]; simp [dueL]
theorem turn_lt {m at_ : Nat} (hm : Many m) (h : at_ < m) : turnF m 0 at_ < m := by
  rcases hm with rfl | rfl | rfl
  · simp [turnF]
  · have : at_ = 0 ∨ at_ = 1 := by (first | lia | omega)
    rcases this with rfl | rfl <;> simp [turnF]
  · have : at_ = 0 ∨ at_ = 1 ∨ at_ = 2 ∨ at_ = 3 := by (first | lia | omega)
    rcases this with rfl | rfl | rfl | rfl <;> simp [turnF]
theorem row_map_self {w n : Nat} {us : List Nat} (h : ∀ u ∈ us, u < md n) : us.map (row w) = rrs w n (natZ us) := by
  simp only [rrs, natZ, List.map_map]
  exact List.map_congr_left fun u hu => (rr_self (h u hu)).symm
theorem rows_snoc {w : Nat} {us : List Nat} {i : Nat} (h : i < us.length) : (us.map (row w)).take i ++ [row w us[i]] = (us.map (row w)).take (i + 1) := by
  rw [take_snoc' (by rw [List.length_map]; exact h)]; simp
where take_snoc' {ns : List (List Int)} {k : Nat} (hk : k < ns.length) : ns.take (k + 1) = ns.take k ++ [ns[k]] := by rw [List.take_add_one, List.getElem?_eq_getElem hk]; rfl
theorem powbits {a : Int} {k b : Nat} (h : a.natAbs < 2 ^ k) (hb : k * b ≤ 100000) : ((Builtin.Int.intBits a : Nat) : Int) * (b : Int) ≤ 2 ^ 27 := by
  have h1 := intBits_le_iff.mpr h
  have h2 : Builtin.Int.intBits a * b ≤ k * b := Nat.mul_le_mul_right b h1
  have h3 : ((Builtin.Int.intBits a * b : Nat) : Int) ≤ 100000 := by (first | lia | omega)
  push_cast at h3
  (first | lia | omega)
theorem T_powE {w : World} {A : Around} {env : Env} {σ : Sg} {a b c : Int} {t u : Tok} {Q : Value → Sg → Prop} (hn : 0 ≤ b) (hsz : (Builtin.Int.intBits a : Int) * b ≤ 2 ^ 27) (e : a ^ b.toNat = c) (h : ∀ t, Q (.int c t) σ) : T w A env (binaryOp .Pow (.int a t) (.int b u)) Q σ :=
  T_pow hn hsz (e ▸ h)
end Mine
end
section
open PySem PySem.W PyProof.Rows PySem.Calls
set_option Elab.async false
set_option linter.unusedVariables false
set_option linter.unusedSimpArgs false
set_option linter.unusedSectionVars false
set_option maxRecDepth 100000
set_option maxHeartbeats 4000000
namespace Mine
def plS (n m : Nat) (x y : Int) (a b : Nat) (p : List Int) : List Int := p.set ((a + b) % m) ((p.getD ((a + b) % m) 0 + x * y) % (md n : Int))
def miS (n m : Nat) (x y : Int) (a b : Nat) (p : List Int) : List Int := p.set ((a + b) % m) ((p.getD ((a + b) % m) 0 + (if a + b < m then x * y else 0 - x * y)) % (md n : Int))
def inP (n m : Nat) (x : Int) (ys : List Int) (a : Nat) : Nat → List Int → List Int
  | 0, p => p
  | k + 1, p => plS n m x (ys.getD k 0) a k (inP n m x ys a k p)
def inM (n m : Nat) (x : Int) (ys : List Int) (a : Nat) : Nat → List Int → List Int
  | 0, p => p
  | k + 1, p => miS n m x (ys.getD k 0) a k (inM n m x ys a k p)
def outP (n m : Nat) (xs ys : List Int) : Nat → List Int → List Int
  | 0, p => p
  | k + 1, p => inP n m (xs.getD k 0) ys k ys.length (outP n m xs ys k p)
def outM (n m : Nat) (xs ys : List Int) : Nat → List Int → List Int
  | 0, p => p
  | k + 1, p => inM n m (xs.getD k 0) ys k ys.length (outM n m xs ys k p)
theorem inP_len {n m : Nat} {x : Int} {ys : List Int} {a : Nat} {p : List Int} : ∀ k, (inP n m x ys a k p).length = p.length
  | 0 => rfl
  | k + 1 => by rw [inP, plS, List.length_set, inP_len k]
theorem inM_len {n m : Nat} {x : Int} {ys : List Int} {a : Nat} {p : List Int} : ∀ k, (inM n m x ys a k p).length = p.length
  | 0 => rfl
  | k + 1 => by rw [inM, miS, List.length_set, inM_len k]
theorem outP_len {n m : Nat} {xs ys : List Int} {p : List Int} : ∀ k, (outP n m xs ys k p).length = p.length
  | 0 => rfl
  | k + 1 => by rw [outP, inP_len, outP_len k]
theorem outM_len {n m : Nat} {xs ys : List Int} {p : List Int} : ∀ k, (outM n m xs ys k p).length = p.length
  | 0 => rfl
  | k + 1 => by rw [outM, inM_len, outM_len k]
def plusL (n : Nat) (xs ys : List Int) : List Int := outP n xs.length xs ys xs.length (List.replicate xs.length 0)
def minusL (n : Nat) (xs ys : List Int) : List Int := outM n xs.length xs ys xs.length (List.replicate xs.length 0)
theorem natZ_at {us : List Nat} {i : Nat} (h : i < (natZ us).length) : (natZ us)[i] = (natZ us).getD i 0 := by simp [h]
theorem natZ_in {us : List Nat} {M i : Nat} (hu : ∀ u ∈ us, u < M) (hM : 0 < M) : 0 ≤ (natZ us).getD i 0 ∧ (natZ us).getD i 0 < M := by
  by_cases h : i < us.length
  · have hu' := hu _ (List.getElem_mem h)
    have : (natZ us).getD i 0 = ((us[i] : Nat) : Int) := by simp [natZ, h]
    (first | lia | omega)
  · have : (natZ us).getD i 0 = 0 := by simp [natZ, h]
    (first | lia | omega)
end Mine
end
section
open PySem PySem.W PyProof.Rows PySem.Calls
set_option Elab.async false
set_option linter.unusedVariables false
set_option linter.unusedSimpArgs false
set_option linter.unusedSectionVars false
set_option maxRecDepth 100000
set_option maxHeartbeats 4000000
namespace Mine
theorem pick_many {r : Int} (h0 : 0 ≤ r) (h1 : r < 3) : ∃ m : Nat, Many m ∧ ([1, 2, 4] : List Int)[r.toNat]? = some (m : Int) := by
  have : r = 0 ∨ r = 1 ∨ r = 2 := by (first | lia | omega)
  rcases this with rfl | rfl | rfl
  · exact ⟨1, .inl rfl, rfl⟩
  · exact ⟨2, .inr (.inl rfl), rfl⟩
  · exact ⟨4, .inr (.inr rfl), rfl⟩
theorem natZ_append {us : List Nat} {u : Nat} : natZ us ++ [((u : Nat) : Int)] = natZ (us ++ [u]) := by simp [natZ]
structure Laws : Prop where
  v : ∀ (us : List Nat) (c : Nat), Many us.length → 0 < c → (fwd (us.length * c) (natZ us)).map (fun z => z % (md (us.length * c) : Int)) = dueL (us.length * c) (natZ us)
  w : ∀ (us : List Nat) (c : Nat), Many us.length → 0 < c → (∀ u ∈ us, u < md (us.length * c)) → (bwd (us.length * c) (fwd (us.length * c) (natZ us))).map (fun z => z % (md (us.length * c) : Int)) = natZ us
  p : ∀ (us vs : List Nat) (c : Nat), Many us.length → vs.length = us.length → 0 < c → (conv (us.length * c) (natZ us) (natZ vs)).map (fun z => z % (md (us.length * c) : Int)) = plusL (us.length * c) (natZ us) (natZ vs)
  m : ∀ (us vs : List Nat) (c : Nat), Many us.length → vs.length = us.length → 0 < c → (convM (us.length * c) (natZ us) (natZ vs)).map (fun z => z % (md (us.length * c) : Int)) = minusL (us.length * c) (natZ us) (natZ vs)
end Mine
end
section
open PySem PySem.W PyProof.Rows PySem.Calls
set_option Elab.async false
set_option linter.unusedVariables false
set_option linter.unusedSimpArgs false
set_option linter.unusedSectionVars false
set_option maxRecDepth 100000
set_option maxHeartbeats 4000000
namespace Mine
open Lean.Grind in
theorem ring_of (n : Nat) : ∃ (R : Type) (_ : Lean.Grind.CommRing R) (φ : Int → R), (∀ a b, φ (a + b) = φ a + φ b) ∧ (∀ a b, φ (a - b) = φ a - φ b) ∧ (∀ a b, φ (a * b) = φ a * φ b) ∧ (∀ a, φ (-a) = - φ a) ∧ φ 0 = 0 ∧ φ 1 = 1 ∧ φ 2 = 2 ∧ (∀ a (k : Nat), φ (a ^ k) = φ a ^ k) ∧
    (∀ a, φ (a % (md n : Int)) = φ a) ∧ ∀ x y, φ x = φ y → x % (md n : Int) = y % (md n : Int) := by
  haveI : NeZero (md n) := ⟨by have := md_pos n; (first | lia | omega)⟩
  have ext : ∀ x y : Int, (@IntCast.intCast (_root_.Fin (md n)) Ring.intCast x = @IntCast.intCast (_root_.Fin (md n)) Ring.intCast y) ↔ x % (md n : Int) = y % (md n : Int) := fun x y => IsCharP.intCast_ext_iff (α := _root_.Fin (md n)) (md n)
  refine ⟨_root_.Fin (md n), inferInstance, fun z => @IntCast.intCast (_root_.Fin (md n)) Ring.intCast z, fun a b => Ring.intCast_add a b, fun a b => Ring.intCast_sub a b, fun a b => Ring.intCast_mul a b, fun a => Ring.intCast_neg a, Ring.intCast_zero, Ring.intCast_one, Ring.intCast_ofNat 2, fun a k => Ring.intCast_pow a k, fun a => ?_, fun x y h => (ext x y).mp h⟩
  exact (ext _ _).mpr (Int.emod_emod_of_dvd a (Int.dvd_refl _))
end Mine
end
section
open PySem PySem.W PyProof.Rows PySem.Calls
set_option Elab.async false
set_option linter.unusedVariables false
set_option linter.unusedSimpArgs false
set_option linter.unusedSectionVars false
set_option maxRecDepth 100000
set_option maxHeartbeats 4000000
namespace Mine
def EF (n s k : Nat) : Nat := (((s : Int) * ((k : Nat) : Int)) % (2 * (n : Int))).toNat
def EB (n s k : Nat) : Nat := ((-(s : Int) * ((k : Nat) : Int)) % (2 * (n : Int))).toNat
theorem whF_step {n half step : Nat} {zs : List Int} (h : half ≠ 0) : whF n half step zs = whF n (half / 2) (2 * step) (outF n step half (zs.length / (2 * half)) zs) := by rw [whF, dif_neg h]
theorem whF_zero {n step : Nat} {zs : List Int} : whF n 0 step zs = zs := by rw [whF, dif_pos rfl]
theorem fwd4 (n : Nat) (a b c d : Int) : fwd n [a, b, c, d] = [(a + c) + (b + d), ((a + c) - (b + d)) * 2 ^ EF n (2 * (2 * n / 4)) 0, (a - c) * 2 ^ EF n (2 * n / 4) 0 + (b - d) * 2 ^ EF n (2 * n / 4) 1, ((a - c) * 2 ^ EF n (2 * n / 4) 0 - (b - d) * 2 ^ EF n (2 * n / 4) 1) * 2 ^ EF n (2 * (2 * n / 4)) 0] := by
  rw [show fwd n [a, b, c, d] = whF n 2 (2 * n / 4) [a, b, c, d] by kernel_rfl]
  rw [whF_step (by decide)]
  have o1 : outF n (2 * n / 4) 2 ([a, b, c, d].length / (2 * 2)) [a, b, c, d] = [a + c, b + d, (a - c) * 2 ^ EF n (2 * n / 4) 0, (b - d) * 2 ^ EF n (2 * n / 4) 1] := by kernel_rfl
  rw [o1]
  rw [show 2 / 2 = 1 from rfl]
  rw [whF_step (by decide)]
  generalize 2 * (2 * n / 4) = s
  generalize (a - c) * 2 ^ EF n (2 * n / 4) 0 = p
  generalize (b - d) * 2 ^ EF n (2 * n / 4) 1 = q
  have o2 : ∀ x y : Int, outF n s 1 ([x, y, p, q].length / (2 * 1)) [x, y, p, q] = [x + y, (x - y) * 2 ^ EF n s 0, p + q, (p - q) * 2 ^ EF n s 0] := fun _ _ => by kernel_rfl
  rw [o2]
  exact whF_zero
theorem fwd2 (n : Nat) (a b : Int) : fwd n [a, b] = [a + b, (a - b) * 2 ^ EF n (2 * n / 2) 0] := by
  rw [show fwd n [a, b] = whF n 1 (2 * n / 2) [a, b] by kernel_rfl]
  rw [whF_step (by decide)]
  have o1 : outF n (2 * n / 2) 1 ([a, b].length / (2 * 1)) [a, b] = [a + b, (a - b) * 2 ^ EF n (2 * n / 2) 0] := by kernel_rfl
  rw [o1]
  exact whF_zero
theorem fwd1 (n : Nat) (a : Int) : fwd n [a] = [a] := by
  rw [show fwd n [a] = whF n 0 (2 * n / 1) [a] by kernel_rfl]
  exact whF_zero
def LL (n m : Nat) : Nat := (-lessOf m % (2 * (n : Int))).toNat
theorem whB_go {n f half : Nat} {zs : List Int} (h : half < zs.length) : whB n (f + 1) half zs = whB n f (2 * half) (outB n (n / half) half (zs.length / (2 * half)) zs) := by rw [whB, if_pos h]
theorem whB_stop {n f half : Nat} {zs : List Int} (h : ¬ half < zs.length) : whB n (f + 1) half zs = zs := by rw [whB, if_neg h]
theorem bwd4 (n : Nat) (a b c d : Int) : bwd n [a, b, c, d] = [((a + b * 2 ^ EB n (n / 1) 0) + (c + d * 2 ^ EB n (n / 1) 0) * 2 ^ EB n (n / 2) 0) * 2 ^ LL n 4, ((a - b * 2 ^ EB n (n / 1) 0) + (c - d * 2 ^ EB n (n / 1) 0) * 2 ^ EB n (n / 2) 1) * 2 ^ LL n 4,
    ((a + b * 2 ^ EB n (n / 1) 0) - (c + d * 2 ^ EB n (n / 1) 0) * 2 ^ EB n (n / 2) 0) * 2 ^ LL n 4, ((a - b * 2 ^ EB n (n / 1) 0) - (c - d * 2 ^ EB n (n / 1) 0) * 2 ^ EB n (n / 2) 1) * 2 ^ LL n 4] := by
  have w : whB n 3 1 [a, b, c, d] = [(a + b * 2 ^ EB n (n / 1) 0) + (c + d * 2 ^ EB n (n / 1) 0) * 2 ^ EB n (n / 2) 0, (a - b * 2 ^ EB n (n / 1) 0) + (c - d * 2 ^ EB n (n / 1) 0) * 2 ^ EB n (n / 2) 1,
    (a + b * 2 ^ EB n (n / 1) 0) - (c + d * 2 ^ EB n (n / 1) 0) * 2 ^ EB n (n / 2) 0, (a - b * 2 ^ EB n (n / 1) 0) - (c - d * 2 ^ EB n (n / 1) 0) * 2 ^ EB n (n / 2) 1] := by
    rw [whB_go (by simp)]
    have o1 : outB n (n / 1) 1 ([a, b, c, d].length / (2 * 1)) [a, b, c, d] = [a + b * 2 ^ EB n (n / 1) 0, a - b * 2 ^ EB n (n / 1) 0, c + d * 2 ^ EB n (n / 1) 0, c - d * 2 ^ EB n (n / 1) 0] := by kernel_rfl
    rw [o1]
    generalize a + b * 2 ^ EB n (n / 1) 0 = p
    generalize a - b * 2 ^ EB n (n / 1) 0 = q
    generalize c + d * 2 ^ EB n (n / 1) 0 = r
    generalize c - d * 2 ^ EB n (n / 1) 0 = t
    rw [show 2 * 1 = 2 from rfl]
    rw [whB_go (by simp)]
    have o2 : outB n (n / 2) 2 ([p, q, r, t].length / (2 * 2)) [p, q, r, t] = [p + r * 2 ^ EB n (n / 2) 0, q + t * 2 ^ EB n (n / 2) 1, p - r * 2 ^ EB n (n / 2) 0, q - t * 2 ^ EB n (n / 2) 1] := by kernel_rfl
    rw [o2]
    exact whB_stop (by simp)
  rw [bwd, w]
  kernel_rfl
theorem bwd2 (n : Nat) (a b : Int) : bwd n [a, b] = [(a + b * 2 ^ EB n (n / 1) 0) * 2 ^ LL n 2, (a - b * 2 ^ EB n (n / 1) 0) * 2 ^ LL n 2] := by
  have w : whB n 3 1 [a, b] = [a + b * 2 ^ EB n (n / 1) 0, a - b * 2 ^ EB n (n / 1) 0] := by
    rw [whB_go (by simp)]
    have o1 : outB n (n / 1) 1 ([a, b].length / (2 * 1)) [a, b] = [a + b * 2 ^ EB n (n / 1) 0, a - b * 2 ^ EB n (n / 1) 0] := by kernel_rfl
    rw [o1]
    exact whB_stop (by simp)
  rw [bwd, w]
  kernel_rfl
theorem bwd1 (n : Nat) (a : Int) : bwd n [a] = [a * 2 ^ LL n 1] := by
  have w : whB n 3 1 [a] = [a] := whB_stop (by simp)
  rw [bwd, w]
  kernel_rfl
theorem plus4 (n : Nat) (x0 x1 x2 x3 y0 y1 y2 y3 : Int) : plusL n [x0, x1, x2, x3] [y0, y1, y2, y3] =
    [((((0 + x0 * y0) % (md n : Int) + x1 * y3) % (md n : Int) + x2 * y2) % (md n : Int) + x3 * y1) % (md n : Int), ((((0 + x0 * y1) % (md n : Int) + x1 * y0) % (md n : Int) + x2 * y3) % (md n : Int) + x3 * y2) % (md n : Int),
     ((((0 + x0 * y2) % (md n : Int) + x1 * y1) % (md n : Int) + x2 * y0) % (md n : Int) + x3 * y3) % (md n : Int), ((((0 + x0 * y3) % (md n : Int) + x1 * y2) % (md n : Int) + x2 * y1) % (md n : Int) + x3 * y0) % (md n : Int)] := by kernel_rfl
theorem minus4 (n : Nat) (x0 x1 x2 x3 y0 y1 y2 y3 : Int) : minusL n [x0, x1, x2, x3] [y0, y1, y2, y3] =
    [((((0 + x0 * y0) % (md n : Int) + (0 - x1 * y3)) % (md n : Int) + (0 - x2 * y2)) % (md n : Int) + (0 - x3 * y1)) % (md n : Int), ((((0 + x0 * y1) % (md n : Int) + x1 * y0) % (md n : Int) + (0 - x2 * y3)) % (md n : Int) + (0 - x3 * y2)) % (md n : Int),
     ((((0 + x0 * y2) % (md n : Int) + x1 * y1) % (md n : Int) + x2 * y0) % (md n : Int) + (0 - x3 * y3)) % (md n : Int), ((((0 + x0 * y3) % (md n : Int) + x1 * y2) % (md n : Int) + x2 * y1) % (md n : Int) + x3 * y0) % (md n : Int)] := by kernel_rfl
theorem plus2 (n : Nat) (x0 x1 y0 y1 : Int) : plusL n [x0, x1] [y0, y1] = [((0 + x0 * y0) % (md n : Int) + x1 * y1) % (md n : Int), ((0 + x0 * y1) % (md n : Int) + x1 * y0) % (md n : Int)] := by kernel_rfl
theorem minus2 (n : Nat) (x0 x1 y0 y1 : Int) : minusL n [x0, x1] [y0, y1] = [((0 + x0 * y0) % (md n : Int) + (0 - x1 * y1)) % (md n : Int), ((0 + x0 * y1) % (md n : Int) + x1 * y0) % (md n : Int)] := by kernel_rfl
theorem plus1 (n : Nat) (x0 y0 : Int) : plusL n [x0] [y0] = [(0 + x0 * y0) % (md n : Int)] := by kernel_rfl
theorem minus1 (n : Nat) (x0 y0 : Int) : minusL n [x0] [y0] = [(0 + x0 * y0) % (md n : Int)] := by kernel_rfl
def EW (n : Nat) (step : Int) (k : Nat) : Nat := ((step * (k : Int)) % (2 * (n : Int))).toNat
theorem wt4 (n : Nat) (s : Int) (a b c d : Int) : wt n s [a, b, c, d] = [a * 2 ^ EW n s 0, b * 2 ^ EW n s 1, c * 2 ^ EW n s 2, d * 2 ^ EW n s 3] := by kernel_rfl
theorem wt2 (n : Nat) (s : Int) (a b : Int) : wt n s [a, b] = [a * 2 ^ EW n s 0, b * 2 ^ EW n s 1] := by kernel_rfl
theorem wt1 (n : Nat) (s : Int) (a : Int) : wt n s [a] = [a * 2 ^ EW n s 0] := by kernel_rfl
theorem pow4 (a b c d r : Int) : (powL [a, b, c, d] r).sum = a * r ^ 0 + (b * r ^ 1 + (c * r ^ 2 + (d * r ^ 3 + 0))) := by kernel_rfl
theorem pow2 (a b r : Int) : (powL [a, b] r).sum = a * r ^ 0 + (b * r ^ 1 + 0) := by kernel_rfl
theorem pow1 (a r : Int) : (powL [a] r).sum = a * r ^ 0 + 0 := by kernel_rfl
end Mine
end
section
open PySem PySem.W PyProof.Rows PySem.Calls
set_option Elab.async false
set_option linter.unusedVariables false
set_option linter.unusedSimpArgs false
set_option linter.unusedSectionVars false
set_option maxRecDepth 100000
set_option maxHeartbeats 4000000
namespace Mine
theorem turn4 : turnF 4 0 0 = 0 ∧ turnF 4 0 1 = 2 ∧ turnF 4 0 2 = 1 ∧ turnF 4 0 3 = 3 := by simp [turnF]
theorem turn2 : turnF 2 0 0 = 0 ∧ turnF 2 0 1 = 1 := by simp [turnF]
theorem turn1 : turnF 1 0 0 = 0 := by simp [turnF]
theorem due4 (n : Nat) (a b c d : Int) : dueL n [a, b, c, d] = [(powL [a, b, c, d] (rootOf n 4 0)).sum % (md n : Int), (powL [a, b, c, d] (rootOf n 4 1)).sum % (md n : Int), (powL [a, b, c, d] (rootOf n 4 2)).sum % (md n : Int), (powL [a, b, c, d] (rootOf n 4 3)).sum % (md n : Int)] := by kernel_rfl
theorem due2 (n : Nat) (a b : Int) : dueL n [a, b] = [(powL [a, b] (rootOf n 2 0)).sum % (md n : Int), (powL [a, b] (rootOf n 2 1)).sum % (md n : Int)] := by kernel_rfl
theorem due1 (n : Nat) (a : Int) : dueL n [a] = [(powL [a] (rootOf n 1 0)).sum % (md n : Int)] := by kernel_rfl
theorem less4 : lessOf 4 = 2 := by decide +kernel
theorem less2 : lessOf 2 = 1 := by decide +kernel
theorem less1 : lessOf 1 = 0 := by decide +kernel
theorem mod_toNat {k N : Int} {e : Nat} (q : Int) (h : k = e + N * q) (h2 : (e : Int) < N) : (k % N).toNat = e := by
  rw [h, Int.add_mul_emod_self_left, Int.emod_eq_of_lt (by (first | lia | omega)) h2, Int.toNat_natCast]
theorem p2 (c k : Nat) : (2 : Int) ^ (k * c) = (2 ^ c) ^ k := by rw [Nat.mul_comm, Int.pow_mul]
section
variable {c : Nat} (hc : 0 < c)
include hc
theorem e4F0 (s : Nat) : (2 : Int) ^ EF (4 * c) s 0 = 1 := by
  rw [EF, mod_toNat (e := 0) 0 (by simp) (by push_cast; (first | lia | omega)), Int.pow_zero]
theorem e4F1 : (2 : Int) ^ EF (4 * c) (2 * (4 * c) / 4) 1 = (2 ^ c) ^ 2 := by
  rw [EF, mod_toNat (e := 2 * c) 0 (by (first | lia | omega)) (by push_cast; (first | lia | omega)), p2]
theorem e4B0 (s : Nat) : (2 : Int) ^ EB (4 * c) s 0 = 1 := by
  rw [EB, mod_toNat (e := 0) 0 (by simp) (by push_cast; (first | lia | omega)), Int.pow_zero]
theorem e4B1 : (2 : Int) ^ EB (4 * c) (4 * c / 2) 1 = (2 ^ c) ^ 6 := by
  rw [EB, mod_toNat (e := 6 * c) (-1) (by push_cast; (first | lia | omega)) (by push_cast; (first | lia | omega)), p2]
theorem e4L : LL (4 * c) 4 = 8 * c - 2 := by
  rw [LL, less4, mod_toNat (e := 8 * c - 2) (-1) (by push_cast; (first | lia | omega)) (by push_cast; (first | lia | omega))]
theorem e4W (k : Nat) (hk : k < 4) : (2 : Int) ^ EW (4 * c) ((4 * c / 4 : Nat) : Int) k = (2 ^ c) ^ k := by
  have h1 : 4 * c / 4 = c := by (first | lia | omega)
  have h3 : k = 0 ∨ k = 1 ∨ k = 2 ∨ k = 3 := by (first | lia | omega)
  rw [EW, h1, mod_toNat (e := k * c) 0 (by push_cast; rw [Int.mul_comm]; (first | lia | omega)) (by push_cast; rcases h3 with rfl | rfl | rfl | rfl <;> simp <;> (first | lia | omega)), p2]
theorem e4V0 : (2 : Int) ^ EW (4 * c) (-((4 * c / 4 : Nat) : Int)) 0 = 1 := by
  rw [EW, mod_toNat (e := 0) 0 (by simp) (by push_cast; (first | lia | omega)), Int.pow_zero]
theorem e4V1 : (2 : Int) ^ EW (4 * c) (-((4 * c / 4 : Nat) : Int)) 1 = (2 ^ c) ^ 7 := by
  have h1 : 4 * c / 4 = c := by (first | lia | omega)
  rw [EW, h1, mod_toNat (e := 7 * c) (-1) (by push_cast; (first | lia | omega)) (by push_cast; (first | lia | omega)), p2]
theorem e4V2 : (2 : Int) ^ EW (4 * c) (-((4 * c / 4 : Nat) : Int)) 2 = (2 ^ c) ^ 6 := by
  have h1 : 4 * c / 4 = c := by (first | lia | omega)
  rw [EW, h1, mod_toNat (e := 6 * c) (-1) (by push_cast; (first | lia | omega)) (by push_cast; (first | lia | omega)), p2]
theorem e4V3 : (2 : Int) ^ EW (4 * c) (-((4 * c / 4 : Nat) : Int)) 3 = (2 ^ c) ^ 5 := by
  have h1 : 4 * c / 4 = c := by (first | lia | omega)
  rw [EW, h1, mod_toNat (e := 5 * c) (-1) (by push_cast; (first | lia | omega)) (by push_cast; (first | lia | omega)), p2]
theorem r4 : rootOf (4 * c) 4 0 = 1 ∧ rootOf (4 * c) 4 1 = (2 ^ c) ^ 4 ∧ rootOf (4 * c) 4 2 = (2 ^ c) ^ 2 ∧ rootOf (4 * c) 4 3 = (2 ^ c) ^ 6 := by
  obtain ⟨t0, t1, t2, t3⟩ := turn4
  have h1 : 2 * (4 * c) / 4 = 2 * c := by (first | lia | omega)
  refine ⟨?_, ?_, ?_, ?_⟩
  · rw [rootOf, t0, Nat.mul_zero, Int.pow_zero]
  · rw [rootOf, t1, h1, show 2 * c * 2 = 4 * c by (first | lia | omega), p2]
  · rw [rootOf, t2, h1, Nat.mul_one, p2]
  · rw [rootOf, t3, h1, show 2 * c * 3 = 6 * c by (first | lia | omega), p2]
end
theorem ring4 {c : Nat} (hc : 0 < c) : ∃ (R : Type) (_ : Lean.Grind.CommRing R) (φ : Int → R), (∀ a b, φ (a + b) = φ a + φ b) ∧ (∀ a b, φ (a - b) = φ a - φ b) ∧ (∀ a b, φ (a * b) = φ a * φ b) ∧ φ 0 = 0 ∧ φ 1 = 1 ∧ (∀ a (k : Nat), φ (a ^ k) = φ a ^ k) ∧
    (∀ a, φ (a % (md (4 * c) : Int)) = φ a) ∧ (∀ x y, φ x = φ y → x % (md (4 * c) : Int) = y % (md (4 * c) : Int)) ∧ (φ (2 ^ c)) ^ 4 = -1 ∧ 4 * φ (2 ^ (8 * c - 2)) = 1 := by
  obtain ⟨R, inst, φ, ha, hs, hm, hn, h0, h1, h2, hp, hmod, hinj⟩ := ring_of (4 * c)
  have g4 : (φ (2 ^ c)) ^ 4 = -1 := by
    have e := hmod (md (4 * c) : Int)
    rw [Int.emod_self, h0, md_cast, p2, ha, h1, hp] at e
    grind
  refine ⟨R, inst, φ, ha, hs, hm, h0, h1, hp, hmod, hinj, g4, ?_⟩
  have e : φ (2 ^ (8 * c - 2) * 2 ^ 2) = φ ((2 ^ c) ^ 8) := by
    rw [← p2, ← Int.pow_add]; congr 2; (first | lia | omega)
  rw [hm, hp 2 2, h2, hp] at e
  grind
end Mine
end
section
open PySem PySem.W PyProof.Rows PySem.Calls
set_option Elab.async false
set_option linter.unusedVariables false
set_option linter.unusedSimpArgs false
set_option linter.unusedSectionVars false
set_option maxRecDepth 100000
set_option maxHeartbeats 4000000
namespace Mine
theorem listL4 {f : Int → Int} {a b c d p q r s : Int} (h0 : f a = p) (h1 : f b = q) (h2 : f c = r) (h3 : f d = s) : [a, b, c, d].map f = [p, q, r, s] := by simp [h0, h1, h2, h3]
theorem V4 {c : Nat} (hc : 0 < c) (x0 x1 x2 x3 : Int) : (fwd (4 * c) [x0, x1, x2, x3]).map (fun z => z % (md (4 * c) : Int)) = dueL (4 * c) [x0, x1, x2, x3] := by
  obtain ⟨R, inst, φ, ha, hs, hm, h0, h1, hp, hmod, hinj, hg, ht⟩ := ring4 hc
  obtain ⟨r0, r1, r2, r3⟩ := r4 hc
  rw [fwd4, due4, r0, r1, r2, r3, pow4, pow4, pow4, pow4, e4F0 hc, e4F0 hc, e4F1 hc]
  generalize (2 : Int) ^ c = G at hg
  refine listL4 ?_ ?_ ?_ ?_
  · refine hinj _ _ ?_
    simp only [ha, hs, hm, h0, h1, hp]
    grind
  · refine hinj _ _ ?_
    simp only [ha, hs, hm, h0, h1, hp]
    grind
  · refine hinj _ _ ?_
    simp only [ha, hs, hm, h0, h1, hp]
    grind
  · refine hinj _ _ ?_
    simp only [ha, hs, hm, h0, h1, hp]
    grind
theorem W4' {c : Nat} (hc : 0 < c) (x0 x1 x2 x3 : Int) : (bwd (4 * c) (fwd (4 * c) [x0, x1, x2, x3])).map (fun z => z % (md (4 * c) : Int)) = [x0 % (md (4 * c) : Int), x1 % (md (4 * c) : Int), x2 % (md (4 * c) : Int), x3 % (md (4 * c) : Int)] := by
  obtain ⟨R, inst, φ, ha, hs, hm, h0, h1, hp, hmod, hinj, hg, ht⟩ := ring4 hc
  rw [fwd4, bwd4, e4F0 hc, e4F0 hc, e4F1 hc, e4B0 hc, e4B0 hc, e4B1 hc, e4L hc]
  generalize (2 : Int) ^ c = G at hg
  generalize (2 : Int) ^ (8 * c - 2) = T at ht
  refine listL4 ?_ ?_ ?_ ?_
  · refine hinj _ _ ?_
    simp only [ha, hs, hm, h0, h1, hp]
    grind
  · refine hinj _ _ ?_
    simp only [ha, hs, hm, h0, h1, hp]
    grind
  · refine hinj _ _ ?_
    simp only [ha, hs, hm, h0, h1, hp]
    grind
  · refine hinj _ _ ?_
    simp only [ha, hs, hm, h0, h1, hp]
    grind
theorem conv4 {c : Nat} (hc : 0 < c) (x0 x1 x2 x3 y0 y1 y2 y3 : Int) : ∃ z0 z1 z2 z3, conv (4 * c) [x0, x1, x2, x3] [y0, y1, y2, y3] = [z0, z1, z2, z3] ∧
    ∀ (R : Type) (_ : Lean.Grind.CommRing R) (φ : Int → R), (∀ a b, φ (a + b) = φ a + φ b) → (∀ a b, φ (a - b) = φ a - φ b) → (∀ a b, φ (a * b) = φ a * φ b) → φ 0 = 0 → φ 1 = 1 → (∀ a (k : Nat), φ (a ^ k) = φ a ^ k) → (φ (2 ^ c)) ^ 4 = -1 → 4 * φ (2 ^ (8 * c - 2)) = 1 →
      φ z0 = φ x0 * φ y0 + φ x1 * φ y3 + φ x2 * φ y2 + φ x3 * φ y1 ∧ φ z1 = φ x0 * φ y1 + φ x1 * φ y0 + φ x2 * φ y3 + φ x3 * φ y2 ∧ φ z2 = φ x0 * φ y2 + φ x1 * φ y1 + φ x2 * φ y0 + φ x3 * φ y3 ∧ φ z3 = φ x0 * φ y3 + φ x1 * φ y2 + φ x2 * φ y1 + φ x3 * φ y0 := by
  rw [conv, fwd4, fwd4, e4F0 hc, e4F0 hc, e4F1 hc]
  simp only [List.zipWith_cons_cons, List.zipWith_nil_left]
  rw [bwd4, e4B0 hc, e4B0 hc, e4B1 hc, e4L hc]
  refine ⟨_, _, _, _, rfl, ?_⟩
  intro R inst φ ha hs hm h0 h1 hp hg ht
  generalize (2 : Int) ^ c = G at hg
  generalize (2 : Int) ^ (8 * c - 2) = T at ht
  simp only [ha, hs, hm, h0, h1, hp]
  refine ⟨?_, ?_, ?_, ?_⟩ <;> grind
end Mine
end
section
open PySem PySem.W PyProof.Rows PySem.Calls
set_option Elab.async false
set_option linter.unusedVariables false
set_option linter.unusedSimpArgs false
set_option linter.unusedSectionVars false
set_option maxRecDepth 100000
set_option maxHeartbeats 4000000
namespace Mine
theorem P4 {c : Nat} (hc : 0 < c) (x0 x1 x2 x3 y0 y1 y2 y3 : Int) : (conv (4 * c) [x0, x1, x2, x3] [y0, y1, y2, y3]).map (fun z => z % (md (4 * c) : Int)) = plusL (4 * c) [x0, x1, x2, x3] [y0, y1, y2, y3] := by
  obtain ⟨z0, z1, z2, z3, e, h⟩ := conv4 hc x0 x1 x2 x3 y0 y1 y2 y3
  obtain ⟨R, inst, φ, ha, hs, hm, h0, h1, hp, hmod, hinj, hg, ht⟩ := ring4 hc
  obtain ⟨q0, q1, q2, q3⟩ := h R inst φ ha hs hm h0 h1 hp hg ht
  rw [e, plus4]
  refine listL4 ?_ ?_ ?_ ?_
  · refine hinj _ _ ?_
    simp only [ha, hs, hm, h0, h1, hp, hmod, q0]
    grind
  · refine hinj _ _ ?_
    simp only [ha, hs, hm, h0, h1, hp, hmod, q1]
    grind
  · refine hinj _ _ ?_
    simp only [ha, hs, hm, h0, h1, hp, hmod, q2]
    grind
  · refine hinj _ _ ?_
    simp only [ha, hs, hm, h0, h1, hp, hmod, q3]
    grind
theorem M4 {c : Nat} (hc : 0 < c) (x0 x1 x2 x3 y0 y1 y2 y3 : Int) : (convM (4 * c) [x0, x1, x2, x3] [y0, y1, y2, y3]).map (fun z => z % (md (4 * c) : Int)) = minusL (4 * c) [x0, x1, x2, x3] [y0, y1, y2, y3] := by
  rw [convM, show [x0, x1, x2, x3].length = 4 from rfl, wt4, wt4]
  obtain ⟨z0, z1, z2, z3, e, h⟩ := conv4 hc (x0 * 2 ^ EW (4 * c) ((4 * c / 4 : Nat) : Int) 0) (x1 * 2 ^ EW (4 * c) ((4 * c / 4 : Nat) : Int) 1) (x2 * 2 ^ EW (4 * c) ((4 * c / 4 : Nat) : Int) 2) (x3 * 2 ^ EW (4 * c) ((4 * c / 4 : Nat) : Int) 3)
    (y0 * 2 ^ EW (4 * c) ((4 * c / 4 : Nat) : Int) 0) (y1 * 2 ^ EW (4 * c) ((4 * c / 4 : Nat) : Int) 1) (y2 * 2 ^ EW (4 * c) ((4 * c / 4 : Nat) : Int) 2) (y3 * 2 ^ EW (4 * c) ((4 * c / 4 : Nat) : Int) 3)
  obtain ⟨R, inst, φ, ha, hs, hm, h0, h1, hp, hmod, hinj, hg, ht⟩ := ring4 hc
  obtain ⟨q0, q1, q2, q3⟩ := h R inst φ ha hs hm h0 h1 hp hg ht
  rw [e, wt4, e4V0 hc, e4V1 hc, e4V2 hc, e4V3 hc, minus4]
  rw [e4W hc 0 (by decide), e4W hc 1 (by decide), e4W hc 2 (by decide), e4W hc 3 (by decide)] at q0 q1 q2 q3
  clear e h
  generalize (2 : Int) ^ c = G at *
  refine listL4 ?_ ?_ ?_ ?_
  · refine hinj _ _ ?_
    simp only [ha, hs, hm, h0, h1, hp, hmod] at q0 ⊢
    rw [q0]
    grind
  · refine hinj _ _ ?_
    simp only [ha, hs, hm, h0, h1, hp, hmod] at q1 ⊢
    rw [q1]
    grind
  · refine hinj _ _ ?_
    simp only [ha, hs, hm, h0, h1, hp, hmod] at q2 ⊢
    rw [q2]
    grind
  · refine hinj _ _ ?_
    simp only [ha, hs, hm, h0, h1, hp, hmod] at q3 ⊢
    rw [q3]
    grind
-- two
section
variable {c : Nat} (hc : 0 < c)
include hc
theorem e2F0 (s : Nat) : (2 : Int) ^ EF (2 * c) s 0 = 1 := by
  rw [EF, mod_toNat (e := 0) 0 (by simp) (by push_cast; (first | lia | omega)), Int.pow_zero]
theorem e2B0 (s : Nat) : (2 : Int) ^ EB (2 * c) s 0 = 1 := by
  rw [EB, mod_toNat (e := 0) 0 (by simp) (by push_cast; (first | lia | omega)), Int.pow_zero]
theorem e2L : LL (2 * c) 2 = 4 * c - 1 := by
  rw [LL, less2, mod_toNat (e := 4 * c - 1) (-1) (by push_cast; (first | lia | omega)) (by push_cast; (first | lia | omega))]
theorem e2W0 : (2 : Int) ^ EW (2 * c) ((2 * c / 2 : Nat) : Int) 0 = 1 := by
  rw [EW, mod_toNat (e := 0) 0 (by simp) (by push_cast; (first | lia | omega)), Int.pow_zero]
theorem e2W1 : (2 : Int) ^ EW (2 * c) ((2 * c / 2 : Nat) : Int) 1 = 2 ^ c := by
  have h1 : 2 * c / 2 = c := by (first | lia | omega)
  rw [EW, h1, mod_toNat (e := c) 0 (by push_cast; (first | lia | omega)) (by push_cast; (first | lia | omega))]
theorem e2V0 : (2 : Int) ^ EW (2 * c) (-((2 * c / 2 : Nat) : Int)) 0 = 1 := by
  rw [EW, mod_toNat (e := 0) 0 (by simp) (by push_cast; (first | lia | omega)), Int.pow_zero]
theorem e2V1 : (2 : Int) ^ EW (2 * c) (-((2 * c / 2 : Nat) : Int)) 1 = (2 ^ c) ^ 3 := by
  have h1 : 2 * c / 2 = c := by (first | lia | omega)
  rw [EW, h1, mod_toNat (e := 3 * c) (-1) (by push_cast; (first | lia | omega)) (by push_cast; (first | lia | omega)), p2]
theorem r2 : rootOf (2 * c) 2 0 = 1 ∧ rootOf (2 * c) 2 1 = (2 ^ c) ^ 2 := by
  obtain ⟨t0, t1⟩ := turn2
  have h1 : 2 * (2 * c) / 2 = 2 * c := by (first | lia | omega)
  refine ⟨?_, ?_⟩
  · rw [rootOf, t0, Nat.mul_zero, Int.pow_zero]
  · rw [rootOf, t1, h1, Nat.mul_one, p2]
end
theorem ring2 {c : Nat} (hc : 0 < c) : ∃ (R : Type) (_ : Lean.Grind.CommRing R) (φ : Int → R), (∀ a b, φ (a + b) = φ a + φ b) ∧ (∀ a b, φ (a - b) = φ a - φ b) ∧ (∀ a b, φ (a * b) = φ a * φ b) ∧ φ 0 = 0 ∧ φ 1 = 1 ∧ (∀ a (k : Nat), φ (a ^ k) = φ a ^ k) ∧
    (∀ a, φ (a % (md (2 * c) : Int)) = φ a) ∧ (∀ x y, φ x = φ y → x % (md (2 * c) : Int) = y % (md (2 * c) : Int)) ∧ (φ (2 ^ c)) ^ 2 = -1 ∧ 2 * φ (2 ^ (4 * c - 1)) = 1 := by
  obtain ⟨R, inst, φ, ha, hs, hm, hn, h0, h1, h2, hp, hmod, hinj⟩ := ring_of (2 * c)
  have g4 : (φ (2 ^ c)) ^ 2 = -1 := by
    have e := hmod (md (2 * c) : Int)
    rw [Int.emod_self, h0, md_cast, p2, ha, h1, hp] at e
    grind
  refine ⟨R, inst, φ, ha, hs, hm, h0, h1, hp, hmod, hinj, g4, ?_⟩
  have e : φ (2 ^ (4 * c - 1) * 2 ^ 1) = φ ((2 ^ c) ^ 4) := by
    rw [← p2, ← Int.pow_add]; congr 2; (first | lia | omega)
  rw [hm, hp 2 1, h2, hp] at e
  grind
theorem listL2 {f : Int → Int} {a b p q : Int} (h0 : f a = p) (h1 : f b = q) : [a, b].map f = [p, q] := by simp [h0, h1]
theorem V2 {c : Nat} (hc : 0 < c) (x0 x1 : Int) : (fwd (2 * c) [x0, x1]).map (fun z => z % (md (2 * c) : Int)) = dueL (2 * c) [x0, x1] := by
  obtain ⟨R, inst, φ, ha, hs, hm, h0, h1, hp, hmod, hinj, hg, ht⟩ := ring2 hc
  obtain ⟨r0, r1⟩ := r2 hc
  rw [fwd2, due2, r0, r1, pow2, pow2, e2F0 hc]
  generalize (2 : Int) ^ c = G at hg
  refine listL2 ?_ ?_ <;> refine hinj _ _ ?_ <;> simp only [ha, hs, hm, h0, h1, hp] <;> grind
theorem W2' {c : Nat} (hc : 0 < c) (x0 x1 : Int) : (bwd (2 * c) (fwd (2 * c) [x0, x1])).map (fun z => z % (md (2 * c) : Int)) = [x0 % (md (2 * c) : Int), x1 % (md (2 * c) : Int)] := by
  obtain ⟨R, inst, φ, ha, hs, hm, h0, h1, hp, hmod, hinj, hg, ht⟩ := ring2 hc
  rw [fwd2, bwd2, e2F0 hc, e2B0 hc, e2L hc]
  generalize (2 : Int) ^ (4 * c - 1) = T at ht
  refine listL2 ?_ ?_ <;> refine hinj _ _ ?_ <;> simp only [ha, hs, hm, h0, h1, hp] <;> grind
theorem conv2 {c : Nat} (hc : 0 < c) (x0 x1 y0 y1 : Int) : ∃ z0 z1, conv (2 * c) [x0, x1] [y0, y1] = [z0, z1] ∧
    ∀ (R : Type) (_ : Lean.Grind.CommRing R) (φ : Int → R), (∀ a b, φ (a + b) = φ a + φ b) → (∀ a b, φ (a - b) = φ a - φ b) → (∀ a b, φ (a * b) = φ a * φ b) → φ 0 = 0 → φ 1 = 1 → (∀ a (k : Nat), φ (a ^ k) = φ a ^ k) → (φ (2 ^ c)) ^ 2 = -1 → 2 * φ (2 ^ (4 * c - 1)) = 1 →
      φ z0 = φ x0 * φ y0 + φ x1 * φ y1 ∧ φ z1 = φ x0 * φ y1 + φ x1 * φ y0 := by
  rw [conv, fwd2, fwd2, e2F0 hc]
  simp only [List.zipWith_cons_cons, List.zipWith_nil_left]
  rw [bwd2, e2B0 hc, e2L hc]
  refine ⟨_, _, rfl, ?_⟩
  intro R inst φ ha hs hm h0 h1 hp hg ht
  generalize (2 : Int) ^ (4 * c - 1) = T at ht
  simp only [ha, hs, hm, h0, h1, hp]
  refine ⟨?_, ?_⟩ <;> grind
theorem P2 {c : Nat} (hc : 0 < c) (x0 x1 y0 y1 : Int) : (conv (2 * c) [x0, x1] [y0, y1]).map (fun z => z % (md (2 * c) : Int)) = plusL (2 * c) [x0, x1] [y0, y1] := by
  obtain ⟨z0, z1, e, h⟩ := conv2 hc x0 x1 y0 y1
  obtain ⟨R, inst, φ, ha, hs, hm, h0, h1, hp, hmod, hinj, hg, ht⟩ := ring2 hc
  obtain ⟨q0, q1⟩ := h R inst φ ha hs hm h0 h1 hp hg ht
  rw [e, plus2]
  refine listL2 ?_ ?_ <;> refine hinj _ _ ?_ <;> simp only [ha, hs, hm, h0, h1, hp, hmod, q0, q1] <;> grind
theorem M2' {c : Nat} (hc : 0 < c) (x0 x1 y0 y1 : Int) : (convM (2 * c) [x0, x1] [y0, y1]).map (fun z => z % (md (2 * c) : Int)) = minusL (2 * c) [x0, x1] [y0, y1] := by
  rw [convM, show [x0, x1].length = 2 from rfl, wt2, wt2]
  obtain ⟨z0, z1, e, h⟩ := conv2 hc (x0 * 2 ^ EW (2 * c) ((2 * c / 2 : Nat) : Int) 0) (x1 * 2 ^ EW (2 * c) ((2 * c / 2 : Nat) : Int) 1) (y0 * 2 ^ EW (2 * c) ((2 * c / 2 : Nat) : Int) 0) (y1 * 2 ^ EW (2 * c) ((2 * c / 2 : Nat) : Int) 1)
  obtain ⟨R, inst, φ, ha, hs, hm, h0, h1, hp, hmod, hinj, hg, ht⟩ := ring2 hc
  obtain ⟨q0, q1⟩ := h R inst φ ha hs hm h0 h1 hp hg ht
  rw [e, wt2, e2V0 hc, e2V1 hc, minus2]
  rw [e2W0 hc, e2W1 hc] at q0 q1
  clear e h
  generalize (2 : Int) ^ c = G at *
  simp only [ha, hs, hm, h0, h1, hp, hmod] at q0 q1
  refine listL2 ?_ ?_ <;> refine hinj _ _ ?_ <;> simp only [ha, hs, hm, h0, h1, hp, hmod, q0, q1] <;> grind
end Mine
end
section
open PySem PySem.W PyProof.Rows PySem.Calls
set_option Elab.async false
set_option linter.unusedVariables false
set_option linter.unusedSimpArgs false
set_option linter.unusedSectionVars false
set_option maxRecDepth 100000
set_option maxHeartbeats 4000000
namespace Mine
section
variable {c : Nat} (hc : 0 < c)
include hc
theorem e1L : (2 : Int) ^ LL (1 * c) 1 = 1 := by
  rw [LL, less1, mod_toNat (e := 0) 0 (by simp) (by push_cast; (first | lia | omega)), Int.pow_zero]
theorem e1W (s : Int) : (2 : Int) ^ EW (1 * c) s 0 = 1 := by
  rw [EW, mod_toNat (e := 0) 0 (by simp) (by push_cast; (first | lia | omega)), Int.pow_zero]
theorem r1 : rootOf (1 * c) 1 0 = 1 := by rw [rootOf, turn1, Nat.mul_zero, Int.pow_zero]
theorem V1 (x0 : Int) : (fwd (1 * c) [x0]).map (fun z => z % (md (1 * c) : Int)) = dueL (1 * c) [x0] := by
  rw [fwd1, due1, r1 hc, pow1]
  simp
theorem W1' (x0 : Int) : (bwd (1 * c) (fwd (1 * c) [x0])).map (fun z => z % (md (1 * c) : Int)) = [x0 % (md (1 * c) : Int)] := by
  rw [fwd1, bwd1, e1L hc]
  simp
theorem conv1 (x0 y0 : Int) : conv (1 * c) [x0] [y0] = [x0 * y0] := by
  rw [conv, fwd1, fwd1]
  simp only [List.zipWith_cons_cons, List.zipWith_nil_left]
  rw [bwd1, e1L hc, Int.mul_one]
theorem P1 (x0 y0 : Int) : (conv (1 * c) [x0] [y0]).map (fun z => z % (md (1 * c) : Int)) = plusL (1 * c) [x0] [y0] := by
  rw [conv1 hc, plus1]
  simp
theorem M1' (x0 y0 : Int) : (convM (1 * c) [x0] [y0]).map (fun z => z % (md (1 * c) : Int)) = minusL (1 * c) [x0] [y0] := by
  rw [convM, wt1, wt1, e1W hc, conv1 hc, wt1, e1W hc, minus1]
  simp
end
theorem len4 {us : List Nat} (h : us.length = 4) : ∃ a b c d, us = [a, b, c, d] := by
  match us, h with
  | [a, b, c, d], _ => exact ⟨a, b, c, d, rfl⟩
theorem len2 {us : List Nat} (h : us.length = 2) : ∃ a b, us = [a, b] := by
  match us, h with
  | [a, b], _ => exact ⟨a, b, rfl⟩
theorem len1 {us : List Nat} (h : us.length = 1) : ∃ a, us = [a] := by
  match us, h with
  | [a], _ => exact ⟨a, rfl⟩
theorem natmod {a M : Nat} (h : a < M) : (a : Int) % (M : Int) = a := Int.emod_eq_of_lt (by (first | lia | omega)) (by (first | lia | omega))
theorem laws : Laws where
  v us c hm hc := by
    rcases hm with h | h | h
    · obtain ⟨a, rfl⟩ := len1 h
      exact V1 hc a
    · obtain ⟨a, b, rfl⟩ := len2 h
      exact V2 hc a b
    · obtain ⟨a, b, d, e, rfl⟩ := len4 h
      exact V4 hc a b d e
  w us c hm hc hu := by
    rcases hm with h | h | h
    · obtain ⟨a, rfl⟩ := len1 h
      refine (W1' hc a).trans ?_
      rw [natmod (show a < md (1 * c) from hu a (by simp))]
      rfl
    · obtain ⟨a, b, rfl⟩ := len2 h
      refine (W2' hc a b).trans ?_
      rw [natmod (show a < md (2 * c) from hu a (by simp)), natmod (show b < md (2 * c) from hu b (by simp))]
      rfl
    · obtain ⟨a, b, d, e, rfl⟩ := len4 h
      refine (W4' hc a b d e).trans ?_
      rw [natmod (show a < md (4 * c) from hu a (by simp)), natmod (show b < md (4 * c) from hu b (by simp)), natmod (show d < md (4 * c) from hu d (by simp)), natmod (show e < md (4 * c) from hu e (by simp))]
      rfl
  p us vs c hm hl hc := by
    rcases hm with h | h | h
    · obtain ⟨a, rfl⟩ := len1 h
      obtain ⟨a', rfl⟩ := len1 (hl.trans h)
      exact P1 hc a a'
    · obtain ⟨a, b, rfl⟩ := len2 h
      obtain ⟨a', b', rfl⟩ := len2 (hl.trans h)
      exact P2 hc a b a' b'
    · obtain ⟨a, b, d, e, rfl⟩ := len4 h
      obtain ⟨a', b', d', e', rfl⟩ := len4 (hl.trans h)
      exact P4 hc a b d e a' b' d' e'
  m us vs c hm hl hc := by
    rcases hm with h | h | h
    · obtain ⟨a, rfl⟩ := len1 h
      obtain ⟨a', rfl⟩ := len1 (hl.trans h)
      exact M1' hc a a'
    · obtain ⟨a, b, rfl⟩ := len2 h
      obtain ⟨a', b', rfl⟩ := len2 (hl.trans h)
      exact M2' hc a b a' b'
    · obtain ⟨a, b, d, e, rfl⟩ := len4 h
      obtain ⟨a', b', d', e', rfl⟩ := len4 (hl.trans h)
      exact M4 hc a b d e a' b' d' e'
end Mine
end
section
open PySem PySem.W PyProof.Rows PySem.Calls
set_option Elab.async false
set_option linter.unusedVariables false
set_option linter.unusedSimpArgs false
set_option linter.unusedSectionVars false
set_option maxRecDepth 100000
set_option maxHeartbeats 4000000
namespace Mine
local macro_rules | `(tactic| boot_fact) => `(tactic| ((with_unfolding_all show List.Mem _ _); with_reducible (repeat (first | exact List.Mem.head _ | refine List.Mem.tail _ ?_)); done))
local macro_rules | `(tactic| passes_own) => `(tactic| boot_fact)
local macro_rules | `(tactic| pv_eval) => `(tactic| with_reducible first | refine Sg.Has.fx (by boot_fact) | refine Sg.Has.ow (by boot_fact) | refine Sg.Has.app (by boot_fact) | refine Sg.Has.fxa (by boot_fact))
local macro_rules | `(tactic| one_sign) => `(tactic| with_reducible first | refine Put.here | (show Put _ _ (List.cons _ _) _; refine Put.there (by one_sign)))
local macro_rules | `(tactic| leaf_len) => `(tactic| with_reducible first | refine Chg.head | (show Chg _ _ _ (List.cons _ _) _; refine Chg.tail (by leaf_len)))
local macro_rules | `(tactic| mod_arm) => `(tactic| with_reducible first | refine EV_int | (show EV _ _ _ _ (Expr.Name _ _) _; refine EV_name (by boot_fact)) | (show EV _ _ _ _ (Expr.BinOp _ Operator.Add _ _) _; refine EV_add (by mod_arm) (by mod_arm)) | (show EV _ _ _ _ (Expr.BinOp _ Operator.Sub _ _) _; refine EV_sub (by mod_arm) (by mod_arm)) | (show EV _ _ _ _ (Expr.UnaryOp UnaryOp.USub _ _) _; refine EV_neg (by mod_arm)))
local macro_rules | `(tactic| nest_cls) => `(tactic| with_reducible first | (show BV _ _ _ _ (Expr.Compare _ [CmpOp.Lt] _ _) _; refine BV_lt (by mod_arm) (by mod_arm)) | (show BV _ _ _ _ (Expr.Compare _ [CmpOp.Gt] _ _) _; refine BV_gt (by mod_arm) (by mod_arm)) | (show BV _ _ _ _ (Expr.Compare _ [CmpOp.GtE] _ _) _; refine BV_ge (by mod_arm) (by mod_arm)))
local macro_rules | `(tactic| top_args) => `(tactic| repeat' first | (with_reducible first | (show T _ _ _ (eval (Expr.Name _ _) _) _ _; first | refine T_nmv (by boot_fact) ?_ | (refine T_nmi (by boot_fact) ?_; intro _) | refine T_nmb (by boot_fact) ?_ | refine Gmulschool ?_) | (show T _ _ _ (eval _ _) _ _; (refine T_evi (by mod_arm) ?_; intro _)) | (show T _ _ _ (eval (Expr.Call (Expr.Name _ _) _ _ _) _) _ _; refine X_callT ?_) | (show T _ _ _ (eval _ _) _ _; first | refine X_BinOp ?_ | refine X_SubN ?_ | refine X_Cmp ?_ | refine T_bool ?_ | refine T_UnaryOp ?_ | refine X_IfExp ?_ | refine T_append ?_ | refine T_bitLength ?_ | refine T_Call ?_ | refine X_List ?_ | refine T_And2 ?_) | (show T _ _ _ (execs _ _) _ _; first | refine X_one ?_ | refine X_cons ?_ | refine T_execs_nil ?_) | (show T _ _ _ (exec _ _) _ _; first | refine X_Assign ?_ | (refine X_aug (by boot_fact) ?_; intro _) | refine T_AssignSub ?_ | refine X_assign2 (Room.h (by assumption)) ?_ | refine X_assign3 (Room.h (by assumption)) ?_ | refine X_assign4 (Room.h (by assumption)) ?_ | refine X_If ?_ | refine X_Return ?_ | refine T_Expr ?_) | (show Sto _ _ _ _ _ _ _; first | (show Sto _ _ _ (Str.ofString "less") _ (Value.int _ _) _; refine Sto.ci (by one_sign) ?_) | (show Sto _ _ _ (Str.ofString "root") _ (Value.int _ _) _; refine Sto.ci (by one_sign) ?_) | (show Sto _ _ _ (Str.ofString "n") _ (Value.int _ _) _; refine Sto.ci (by one_sign) ?_) | (show Sto _ _ _ (Str.ofString "deal") _ _ _; refine Sto.cv (by one_sign) ?_) | refine Sto.i (by one_sign) ?_ | refine Sto.b (by one_sign) ?_ | refine Sto.v (by one_sign) ?_) | (show StU _ _ _ _ _ _ _; first | refine StU.i (by one_sign) ?_ | refine StU.b (by one_sign) ?_ | refine StU.v (by one_sign) ?_) | refine Then.n ?_ | refine Then.r ?_ | refine Rets.go ?_ | refine Bin1.go ?_ | refine Bin2.go ?_ | refine Sub1.go ?_ | refine Sub2.go ?_ | refine Arg1.go ?_ | refine ArgsK.go ?_ | refine CallK.go ?_ | refine NewK.go ?_ | refine Tru.b ?_ | refine Cmp1.go ?_ | refine Cmp2.go ?_ | refine NotK.go ?_ | refine Pair2.go ?_ | refine Pair3.go ?_ | refine Pair4.go ?_ | refine Inp.go ?_ | refine Then.b ?_ | refine Then.c ?_ | (show T _ _ _ (spliced _) _ _; first | refine X_spc ?_ | refine T_sp_nil ?_) | (show T _ _ _ (callWith _ _ _ _ _) _ _; first | refine T_callWith_bi ?_ | refine T_callWith_ty ?_ | refine T_callWith_fn (by decide) ?_) | (show T _ _ _ (binaryOp _ _ _) _ _; ((first | refine T_add ?_ | refine T_sub ?_ | refine T_and ?_ | refine T_or ?_); intro _)) | (show T _ _ _ (compareOp _ _ _) _ _; first | refine T_lt ?_ | refine T_gt ?_ | refine T_le ?_ | refine T_ge ?_ | refine T_eq ?_ | refine T_ne ?_) | refine T_truthy_bool ?_ | (show T _ _ _ (isTrue _ _ _) _ _; first | refine T_bv (by nest_cls) ?_ | refine X_isTrue_Cmp ?_ | refine T_isTrue_and ?_ | refine T_isTrue_and_nil ?_ | refine X_isTrue_Not ?_ | refine T_isTrue_or ?_ | refine T_isTrue_or_nil ?_ | refine T_isTrue_chain ?_ | refine T_isTrue_plain ?_) | (show T _ _ _ (inplaceOp _ _ _) _ _; ((first | refine T_iadd ?_ | refine T_isub ?_ | refine T_ior ?_); intro _)) | ((first | refine T_ldni (by boot_fact) ?_ | refine T_neg ?_); intro _) | refine T_not ?_ | (show T _ _ _ (call _ _ _) _ _; ((first | refine T_len (by pv_eval) (by first | assumption | lia | omega) ?_ | refine T_range1 ?_ | refine T_range2 ?_ | refine T_abs ?_ | refine T_toInt ?_); intro _)) | refine T_partNone ?_ | refine T_partSome ?_ | refine T_testChain ?_) | ((with_reducible show Value.none = Value.none ∧ _); refine ⟨rfl, ?_⟩) | ((with_reducible show (∃ _, _ ∈ _) ∧ T _ _ _ _ _ _); refine ⟨⟨_, by boot_fact⟩, ?_⟩))
local macro_rules | `(tactic| regstrif_gather) => `(tactic| ((first | (with_reducible refine Br.mk (fun hb => ?_) (fun hb => ?_)) | (with_reducible refine BrE.mk (fun hb => ?_) (fun hb => ?_)) | refine ⟨fun hb => ?_, fun hb => ?_⟩) <;> (simp only [decide_eq_true_eq, decide_eq_false_iff_not, Bool.not_true, Bool.not_false, Bool.not_eq_true', Bool.not_eq_false', reduceCtorEq] at hb)))
local macro_rules | `(tactic| none_booked) => `(tactic| (refine ⟨_, _, _, _, rfl, by leaf_len, ?_, ?_⟩; rotate_left; (try dsimp only)))
theorem con_normal (wd : World) {va : Value} {ns : List Int} {w : Nat} (hw : 0 < w) (hd : Dig w ns) (hn : ns.length ≤ 100) : Pure wd 2 46 [va] [(va, .nums ns)] (.nums (row w (val w ns).toNat)) := by
  refine Pure.mk' (m := [("a", .v va), ("end", .un)]) (by rfl) (by kernel_rfl) (by rfl) (by kernel_rfl) (by decide +kernel) (by kernel_rfl) (.cons rfl (.nil rfl)) (by kernel_rfl) ?_
  intro A L hA
  have hn' : ns.length < 2 ^ 62 := by (first | lia | omega)
  top_args
  refine T_While (fun n σ => n ≤ ns.length ∧ (∀ m ∈ ns.drop n, m = 0) ∧ σ = ⟨[("a", .v va), ("end", .i n)], [(va, .nums ns)], [], []⟩) ns.length ⟨Nat.le_refl _, by simp, rfl⟩ ?_
  rintro n σ' ⟨hle, hz, rfl⟩
  top_args
  regstrif_gather
  · have hn0 : 0 < n := by (first | lia | omega)
    have hlt : n - 1 < ns.length := by (first | lia | omega)
    have e1 : ((n : Int) - 1).toNat = n - 1 := by (first | lia | omega)
    top_args
    with_reducible refine T_item (x := ns[n - 1]) (.fx (by passes_own)) (by (first | lia | omega)) (by (first | lia | omega)) (by rw [e1]; exact List.getElem?_eq_getElem hlt) ?_
    intro _
    top_args
    regstrif_gather
    · rename_i hb
      top_args
      refine ⟨fun _ => ?_, nofun⟩
      top_args
      refine ⟨n - 1, by (first | lia | omega), by (first | lia | omega), drop_zero_step (by rw [show n - 1 + 1 = n by (first | lia | omega)]; exact hz) (by rw [List.getElem?_eq_getElem hlt, hb]), ?_⟩
      rw [show ((n : Int) - 1) = ((n - 1 : Nat) : Int) by (first | lia | omega)]
    · rename_i hb
      refine ⟨nofun, fun _ => ?_⟩
      top_args
      with_reducible refine T_slice ?_
      top_args
      refine ⟨ns, none, some (n : Int), by pv_eval, by (first | lia | omega), .none, .int _ _, fun v => ?_⟩
      rw [pick_upto, take_row hw hd hle hz (.inr ⟨_, List.getElem?_eq_getElem hlt, hb⟩)]
      exact ⟨v, rfl, by pv_eval, .inl (.head _)⟩
  · rename_i hb
    refine ⟨nofun, fun _ => ?_⟩
    top_args
    with_reducible refine T_slice ?_
    top_args
    refine ⟨ns, none, some (n : Int), by pv_eval, by (first | lia | omega), .none, .int _ _, fun v => ?_⟩
    rw [pick_upto, take_row hw hd hle hz (.inl (by (first | lia | omega)))]
    exact ⟨v, rfl, by pv_eval, .inl (.head _)⟩
theorem con_compare (wd : World) {va vb : Value} {w x y : Nat} (hw : 0 < w) (hx : x < 2 ^ 64) (hy : y < 2 ^ 64) : Pure wd 1 53 [va, vb] [(va, .nums (row w x)), (vb, .nums (row w y))] (.i (cmpI x y)) := by
  refine Pure.mk' (m := [("a", .v va), ("b", .v vb), ("at", .un)]) (by rfl) (by kernel_rfl) (by rfl) (by kernel_rfl) (by decide +kernel) (by kernel_rfl) (.cons rfl (.cons rfl (.nil rfl))) (by kernel_rfl) ?_
  intro A L hA
  have lx := len64 hw hx
  have ly := len64 hw hy
  top_args
  regstrif_gather
  · rename_i hb
    top_args
    regstrif_gather
    · rename_i hb'
      top_args
      exact ⟨_, rfl, _, by rw [cmp_lt (lt_of_len hw (by (first | lia | omega)))]⟩
    · rename_i hb'
      top_args
      exact ⟨_, rfl, _, by rw [cmp_gt (lt_of_len (y := x) hw (by (first | lia | omega)))]⟩
  · rename_i hb
    have hl : (row w x).length = (row w y).length := by (first | lia | omega)
    top_args
    with_reducible refine T_For_range hA.h ?_
    top_args
    with_reducible refine T_range3 (by decide) (by decide) ?_
    intro r
    refine ⟨_, _, _, .head _, (range_dn (by (first | lia | omega))).1, _, (range_dn (by (first | lia | omega))).2, fun i σ => (∃ av, σ = ⟨[("a", .v va), ("b", .v vb), ("at", av)], [(r, .range ((row w x).length - 1) (-1) (-1)), (va, .nums (row w x)), (vb, .nums (row w y))], [], []⟩) ∧ (row w x).drop ((row w x).length - i) = (row w y).drop ((row w x).length - i),
      ⟨⟨_, rfl⟩, by simp [hl]⟩, ?_, ?_⟩
    · rintro i σ' hi ⟨⟨av, rfl⟩, he⟩
      refine ⟨_, by one_sign, ?_⟩
      have hk : (row w x).length - 1 - i < (row w x).length := by (first | lia | omega)
      have hk' : (row w x).length - 1 - i < (row w y).length := by (first | lia | omega)
      have e1 : (((row w x).length : Int) - 1 + i * (-1)).toNat = (row w x).length - 1 - i := by (first | lia | omega)
      have e2 : (row w x).length - 1 - i + 1 = (row w x).length - i := by (first | lia | omega)
      have g1 : (row w x)[(((row w x).length : Int) - 1 + i * (-1)).toNat]? = some (row w x)[(row w x).length - 1 - i] := by rw [e1]; exact List.getElem?_eq_getElem hk
      have g2 : (row w y)[(((row w x).length : Int) - 1 + i * (-1)).toNat]? = some (row w y)[(row w x).length - 1 - i] := by rw [e1]; exact List.getElem?_eq_getElem hk'
      top_args
      with_reducible refine T_item (.fx (by passes_own)) (by (first | lia | omega)) (by (first | lia | omega)) g1 ?_
      intro _
      top_args
      with_reducible refine T_item (.fx (by passes_own)) (by (first | lia | omega)) (by (first | lia | omega)) g2 ?_
      intro _
      top_args
      regstrif_gather
      · rename_i hb
        top_args
        with_reducible refine T_item (.fx (by passes_own)) (by (first | lia | omega)) (by (first | lia | omega)) g1 ?_
        intro _
        top_args
        with_reducible refine T_item (.fx (by passes_own)) (by (first | lia | omega)) (by (first | lia | omega)) g2 ?_
        intro _
        top_args
        regstrif_gather
        · rename_i hb'
          top_args
          exact ⟨_, rfl, _, by rw [cmp_lt (lt_of_row hw hk hk' (by rw [e2]; exact he) hb')]⟩
        · rename_i hb'
          top_args
          exact ⟨_, rfl, _, by rw [cmp_gt (lt_of_row (x := y) (y := x) hw hk' hk (by rw [e2]; exact he.symm) (by (first | lia | omega)))]⟩
      · rename_i hb
        top_args
        refine ⟨⟨_, rfl⟩, ?_⟩
        have e3 : (row w x).length - (i + 1) = (row w x).length - 1 - i := by (first | lia | omega)
        rw [e3, List.drop_eq_getElem_cons hk, List.drop_eq_getElem_cons hk', e2, he]
        congr 1
        (first | lia | omega)
    · rintro σ' ⟨⟨av, rfl⟩, he⟩
      rw [Nat.sub_self, List.drop_zero, List.drop_zero] at he
      top_args
      exact ⟨_, rfl, _, by rw [cmp_eq (row_inj hw he)]⟩
theorem con_add (wd : World) {va vb : Value} {tw : Tok} {w x y : Nat} (hw : 0 < w) (hw9 : w ≤ 30) (hx : x < 2 ^ 64) (hy : y < 2 ^ 64) :
    Pure wd 1 60 [va, vb, .int w tw] [(va, .nums (row w x)), (vb, .nums (row w y))] (.nums (row w (x + y))) := by
  refine Pure.mk' (m := [("a", .v va), ("b", .v vb), ("w", .i w), ("found", .un), ("carry", .un), ("mask", .un), ("at", .un)]) (by rfl) (by kernel_rfl) (by rfl) (by kernel_rfl) (by decide +kernel) (by kernel_rfl) (.cons rfl (.cons rfl (.cons ⟨_, rfl⟩ (.nil rfl)))) (by kernel_rfl) ?_
  intro A L hA
  have lx := len64 hw hx
  have ly := len64 hw hy
  refine T_cut (fun σ => ∃ ua ub x' y', (row w y').length ≤ (row w x').length ∧ (row w x').length ≤ 64 ∧ x' + y' = x + y ∧ σ = ⟨[("a", .v ua), ("b", .v ub), ("w", .i w), ("found", .un), ("carry", .un), ("mask", .un), ("at", .un)], [(ua, .nums (row w x')), (ub, .nums (row w y'))], [], []⟩) ?_ ?_
  · top_args
    regstrif_gather
    · rename_i hb
      top_args
      refine ⟨rfl, ⟨[("a", .v vb), ("b", .v va), ("w", .i w), ("found", .un), ("carry", .un), ("mask", .un), ("at", .un)], [(vb, .nums (row w y)), (va, .nums (row w x))], [], []⟩, ⟨?_, ?_, ?_, rfl, ?_⟩, vb, va, y, x, by (first | lia | omega), by (first | lia | omega), by (first | lia | omega), rfl⟩
      · intro p hp; exact .inr hp
      · exact nodupB_iff (by kernel_rfl)
      · intro p hp
        rcases List.mem_cons.mp hp with rfl | hp
        · exact .tail _ (.head _)
        · cases List.mem_singleton.mp hp; exact .head _
      · intro v hv; exact hv
    · rename_i hb
      top_args
      refine ⟨rfl, _, Wk.refl (nodupB_iff (by kernel_rfl)), va, vb, x, y, by (first | lia | omega), by (first | lia | omega), by (first | lia | omega), rfl⟩
  · rintro σ ⟨ua, ub, x', y', hl, lx', exy, rfl⟩
    top_args
    with_reducible refine T_newApp (ns := []) .nil (by decide) ?_
    intro vf
    top_args
    with_reducible refine T_lshiftE (c := 2 ^ w) (by (first | lia | omega)) (by (first | lia | omega)) (by decide) (by rw [Int.toNat_natCast, Int.one_mul]) ?_
    intro _
    top_args
    -- the first loop
    with_reducible refine T_For_range hA.h ?_
    top_args
    rename_i r
    refine ⟨_, _, _, .head _, (range_0 (by (first | lia | omega))).1, _, (range_0 (by (first | lia | omega))).2, fun i σ => ∃ av fs c, AddInv w (row w x') (row w y') i fs c ∧ σ = ⟨[("a", .v ua), ("b", .v ub), ("w", .i w), ("found", .v vf), ("carry", .i c), ("mask", .i (2 ^ w - 1)), ("at", av)], [(r, .range 0 (row w y').length 1), (ua, .nums (row w x')), (ub, .nums (row w y'))], [], [(vf, .app fs)]⟩,
      ⟨_, [], 0, .nil .., rfl⟩, ?_, ?_⟩
    · rintro i σ' hi ⟨av, fs, c, I, rfl⟩
      refine ⟨_, by one_sign, ?_⟩
      have ha : i < (row w x').length := by (first | lia | omega)
      have e0 : ((0 : Int) + i * 1).toNat = i := by (first | lia | omega)
      have g1 : (row w x')[((0 : Int) + i * 1).toNat]? = some (row w x')[i] := by rw [e0]; exact List.getElem?_eq_getElem ha
      have g2 : (row w y')[((0 : Int) + i * 1).toNat]? = some (row w y')[i] := by rw [e0]; exact List.getElem?_eq_getElem hi
      top_args
      with_reducible refine T_item (.fx (by passes_own)) (by (first | lia | omega)) (by (first | lia | omega)) g1 ?_
      intro _
      top_args
      with_reducible refine T_item (.fx (by passes_own)) (by (first | lia | omega)) (by (first | lia | omega)) g2 ?_
      intro _
      top_args
      none_booked
      · obtain ⟨d1, d2⟩ := getElem_dig (dig_row hw x') ha
        obtain ⟨d3, d4⟩ := getElem_dig (dig_row hw y') hi
        have := I.c0
        rw [bitAnd_mask (by (first | lia | omega))]
        top_args
        with_reducible refine T_irshiftE (c := (c + ((row w x')[i] + (row w y')[i])) / 2 ^ w) (by (first | lia | omega)) (by rw [Int.toNat_natCast]) ?_
        intro _
        top_args
        exact ⟨_, _, _, I.step ⟨d1, d2⟩ ⟨d3, d4⟩ (val_take_snoc ha) (val_take_snoc hi), rfl⟩
      · have := I.len; (first | lia | omega)
    · rintro σ' ⟨av, fs, c, I, rfl⟩
      top_args
      -- the second loop
      with_reducible refine T_For_range hA.h ?_
      top_args
      rename_i r2
      refine ⟨_, _, _, .head _, (range_up (by (first | lia | omega)) (by (first | lia | omega))).1, _, (range_up (by (first | lia | omega)) (by (first | lia | omega))).2, fun i σ => ∃ av fs c, AddInv w (row w x') (row w y') ((row w y').length + i) fs c ∧ σ = ⟨[("a", .v ua), ("b", .v ub), ("w", .i w), ("found", .v vf), ("carry", .i c), ("mask", .i (2 ^ w - 1)), ("at", av)], [(r2, .range (row w y').length (row w x').length 1), (r, .range 0 (row w y').length 1), (ua, .nums (row w x')), (ub, .nums (row w y'))], [], [(vf, .app fs)]⟩,
        ⟨_, fs, c, I, rfl⟩, ?_, ?_⟩
      · rintro i σ' hi ⟨av, fs, c, I, rfl⟩
        refine ⟨_, by one_sign, ?_⟩
        have ha : (row w y').length + i < (row w x').length := by (first | lia | omega)
        have e0 : (((row w y').length : Int) + i * 1).toNat = (row w y').length + i := by (first | lia | omega)
        have g1 : (row w x')[(((row w y').length : Int) + i * 1).toNat]? = some (row w x')[(row w y').length + i] := by rw [e0]; exact List.getElem?_eq_getElem ha
        top_args
        with_reducible refine T_item (.fx (by passes_own)) (by (first | lia | omega)) (by (first | lia | omega)) g1 ?_
        intro _
        top_args
        none_booked
        · obtain ⟨d1, d2⟩ := getElem_dig (dig_row hw x') ha
          have := I.c0
          rw [bitAnd_mask (by (first | lia | omega))]
          top_args
          with_reducible refine T_irshiftE (c := (c + (row w x')[(row w y').length + i]) / 2 ^ w) (by (first | lia | omega)) (by rw [Int.toNat_natCast]) ?_
          intro _
          top_args
          have st := I.step ⟨d1, d2⟩ ⟨Int.le_refl 0, two_pow_pos w⟩ (val_take_snoc ha) (by rw [List.take_of_length_le (by (first | lia | omega)), List.take_of_length_le (by (first | lia | omega))]; (first | lia | omega))
          rw [Int.add_zero] at st
          exact ⟨_, _, _, st, rfl⟩
        · have := I.len; (first | lia | omega)
      · rintro σ' ⟨av, fs, c, I, rfl⟩
        rw [show (row w y').length + ((row w x').length - (row w y').length) = (row w x').length by (first | lia | omega)] at I
        have fin := I.fin hw hl
        rw [exy] at fin
        top_args
        regstrif_gather
        · rename_i hb
          top_args
          none_booked
          · top_args
            rw [if_pos hb] at fin
            exact ⟨vf, rfl, by rw [← fin]; pv_eval, .inr (.head _)⟩
          · have := I.len; (first | lia | omega)
        · rename_i hb
          top_args
          rw [if_neg hb] at fin
          exact ⟨vf, rfl, by rw [← fin]; pv_eval, .inr (.head _)⟩
theorem con_sub (wd : World) {va vb : Value} {tw : Tok} {w x y : Nat} (hw : 0 < w) (hw9 : w ≤ 30) (hx : x < 2 ^ 64) (hy : y ≤ x) :
    Pure wd 3 67 [va, vb, .int w tw] [(va, .nums (row w x)), (vb, .nums (row w y))] (.nums (row w (x - y))) := by
  refine Pure.mk' (m := [("a", .v va), ("b", .v vb), ("w", .i w), ("found", .un), ("borrow", .un), ("base", .un), ("at", .un), ("limb", .un)]) (by rfl) (by kernel_rfl) (by rfl) (by kernel_rfl) (by decide +kernel) (by kernel_rfl) (.cons rfl (.cons rfl (.cons ⟨_, rfl⟩ (.nil rfl)))) (by kernel_rfl) ?_
  intro A L hA
  have lx := len64 hw hx
  have ly := len64 (x := y) hw (by (first | lia | omega))
  top_args
  with_reducible refine T_pure_i (con_compare wd hw hx (y := y) (by (first | lia | omega))) (hA.le (by (first | lia | omega))) (rd2 (by pv_eval) (by pv_eval)) ?_
  intro _
  top_args
  regstrif_gather
  · rename_i hb
    exact absurd hb (cmp_nonneg hy)
  · rename_i hb
    top_args
    with_reducible refine T_newApp (ns := []) .nil (by decide) ?_
    intro vf
    top_args
    with_reducible refine T_lshiftE (c := 2 ^ w) (by (first | lia | omega)) (by (first | lia | omega)) (by decide) (by rw [Int.toNat_natCast, Int.one_mul]) ?_
    intro _
    top_args
    with_reducible refine T_For_range hA.h ?_
    top_args
    rename_i r
    refine ⟨_, _, _, .head _, (range_0 (by (first | lia | omega))).1, _, (range_0 (by (first | lia | omega))).2, fun i σ => ∃ av lv fs c, SubInv w (row w x) (row w y) i fs c ∧ σ = ⟨[("a", .v va), ("b", .v vb), ("w", .i w), ("found", .v vf), ("borrow", .i c), ("base", .i (2 ^ w)), ("at", av), ("limb", lv)], [(r, .range 0 (row w x).length 1), (va, .nums (row w x)), (vb, .nums (row w y))], [], [(vf, .app fs)]⟩,
      ⟨_, _, [], 0, .nil .., rfl⟩, ?_, ?_⟩
    · rintro i σ' ha ⟨av, lv, fs, c, I, rfl⟩
      refine ⟨_, by one_sign, ?_⟩
      have g1 := getElem_take (w := w) ha
      refine T_cut (fun σ => ∃ e, 0 ≤ e ∧ e < 2 ^ w ∧ val w ((row w y).take (i + 1)) = val w ((row w y).take i) + 2 ^ (w * i) * e ∧ σ = ⟨[("a", .v va), ("b", .v vb), ("w", .i w), ("found", .v vf), ("borrow", .i c), ("base", .i (2 ^ w)), ("at", .i (0 + i * 1)), ("limb", .i ((row w x)[i] - c - e))], [(r, .range 0 (row w x).length 1), (va, .nums (row w x)), (vb, .nums (row w y))], [], [(vf, .app fs)]⟩) ?_ ?_
      · top_args
        with_reducible refine T_item (.fx (by passes_own)) (by (first | lia | omega)) (by (first | lia | omega)) g1 ?_
        intro _
        top_args
        regstrif_gather
        · rename_i hb
          have hb' : i < (row w y).length := by (first | lia | omega)
          top_args
          with_reducible refine T_item (.fx (by passes_own)) (by (first | lia | omega)) (by (first | lia | omega)) (getElem_take (w := w) hb') ?_
          intro _
          top_args
          exact ⟨rfl, _, Wk.refl (nodupB_iff (by kernel_rfl)), _, (getElem_dig (dig_row hw y) hb').1, (getElem_dig (dig_row hw y) hb').2, val_take_snoc hb', rfl⟩
        · rename_i hb
          top_args
          exact ⟨rfl, _, Wk.refl (nodupB_iff (by kernel_rfl)), 0, by (first | lia | omega), two_pow_pos w, val_take_over (by (first | lia | omega)), rfl⟩
      · rintro σ ⟨e, e0, e1, e2, rfl⟩
        have hd := getElem_dig (dig_row hw x) ha
        top_args
        regstrif_gather
        · rename_i hb
          top_args
          refine ⟨fun _ => ?_, fun h => absurd hb (of_decide_eq_false h)⟩
          top_args
          none_booked
          · top_args
            exact ⟨_, _, _, _, I.neg hd ⟨e0, e1⟩ (val_take_snoc ha) e2 hb, rfl⟩
          · have := I.len; (first | lia | omega)
        · rename_i hb
          top_args
          refine ⟨fun h => absurd (of_decide_eq_true h) hb, fun _ => ?_⟩
          top_args
          none_booked
          · top_args
            exact ⟨_, _, _, _, I.pos hd ⟨e0, e1⟩ (val_take_snoc ha) e2 hb, rfl⟩
          · have := I.len; (first | lia | omega)
    · rintro σ' ⟨av, lv, fs, c, I, rfl⟩
      top_args
      have := I.len
      with_reducible refine T_pure_n (con_normal wd hw I.dig (by (first | lia | omega))) (hA.le (by (first | lia | omega))) (rd1 (by pv_eval)) ?_
      intro vr
      rw [I.fin hw hy]
      exact ⟨vr, rfl, by pv_eval, .inl (.head _)⟩
theorem con_shl (wd : World) {va : Value} {tn tw : Tok} {w x n : Nat} (hw : 0 < w) (hw9 : w ≤ 30) (hx : x < 2 ^ 64) (hn : n ≤ 64) :
    Pure wd 1 74 [va, .int n tn, .int w tw] [(va, .nums (row w x))] (.nums (row w (x * 2 ^ n))) := by
  refine Pure.mk' (m := [("a", .v va), ("n", .i n), ("w", .i w), ("spots", .un), ("few", .un), ("found", .un), ("carry", .un), ("mask", .un), ("one", .un)]) (by rfl) (by kernel_rfl) (by rfl) (by kernel_rfl) (by decide +kernel) (by kernel_rfl) (.cons rfl (.cons ⟨_, rfl⟩ (.cons ⟨_, rfl⟩ (.nil rfl)))) (by kernel_rfl) ?_
  intro A L hA
  have lx := len64 hw hx
  obtain ⟨sp, few, esp, efew, hsp, hfew, hfs⟩ := parts n hw
  top_args
  regstrif_gather
  · rename_i hb
    have h0 : x = 0 := (row_nil_iff hw).mp (List.eq_nil_of_length_eq_zero (by (first | lia | omega)))
    top_args
    with_reducible refine T_newNums (ns := []) .nil (by decide) ?_
    intro v
    rw [h0, Nat.zero_mul, row_zero]
    exact ⟨v, rfl, by pv_eval, .inl (.head _)⟩
  · rename_i hb
    have h0 : 0 < x := by
      rcases Nat.eq_zero_or_pos x with q | q
      · rw [q, row_zero] at hb; simp at hb
      · exact q
    top_args
    with_reducible refine T_floordivN esp hw (by (first | lia | omega)) ?_
    intro _
    top_args
    with_reducible refine T_modN efew hw ?_
    intro _
    top_args
    with_reducible refine T_newNums (ns := [0]) (.cons _ _ .nil) (Nat.le_of_ble_eq_true rfl) ?_
    intro v0
    top_args
    with_reducible refine T_mulOne (by passes_own) (by (first | lia | omega)) (by (first | lia | omega)) (.inl rfl) ?_
    intro vf
    rw [Int.toNat_natCast]
    top_args
    with_reducible refine T_lshiftE (c := 2 ^ w) (by (first | lia | omega)) (by (first | lia | omega)) (by decide) (by rw [Int.toNat_natCast, Int.one_mul]) ?_
    intro _
    top_args
    with_reducible refine T_For_nums hA.h ?_
    top_args
    refine ⟨row w x, by passes_own, fun i σ => ∃ av fs c, ShlInv w few sp (row w x) i fs c ∧ σ = ⟨[("a", .v va), ("n", .i n), ("w", .i w), ("spots", .i sp), ("few", .i few), ("found", .v vf), ("carry", .i c), ("mask", .i (2 ^ w - 1)), ("one", av)], [(v0, .app [0]), (va, .nums (row w x))], [], [(vf, .app fs)]⟩,
      ⟨_, _, 0, .nil .., rfl⟩, ?_, ?_⟩
    · rintro i σ' hi ⟨av, fs, c, I, rfl⟩
      refine ⟨_, by one_sign, ?_⟩
      have hd := getElem_dig (dig_row hw x) hi
      have hlt : (2 : Int) ^ w ≤ 2 ^ 30 := by exact_mod_cast Nat.pow_le_pow_right (by decide) hw9
      top_args
      with_reducible refine T_lshiftE (c := (row w x)[i] * 2 ^ few) (by (first | lia | omega)) (by (first | lia | omega)) (by (first | lia | omega)) (by rw [Int.toNat_natCast]) ?_
      intro _
      top_args
      rw [bitOr_apart I.c0 I.c1 hd.1]
      top_args
      none_booked
      · have h1 := I.c0
        have h2 : 0 ≤ (row w x)[i] * 2 ^ few := Int.mul_nonneg hd.1 (Int.le_of_lt (two_pow_pos _))
        rw [bitAnd_mask (by (first | lia | omega))]
        top_args
        with_reducible refine T_irshiftE (c := (c + (row w x)[i] * 2 ^ few) / 2 ^ w) (by (first | lia | omega)) (by rw [Int.toNat_natCast]) ?_
        intro _
        top_args
        exact ⟨_, _, _, I.step hd (val_take_snoc hi), rfl⟩
      · have := I.len; (first | lia | omega)
    · rintro σ' ⟨av, fs, c, I, rfl⟩
      have fin := I.fin hw hfew h0
      rw [hfs] at fin
      top_args
      regstrif_gather
      · rename_i hb
        top_args
        none_booked
        · top_args
          rw [if_pos hb] at fin
          exact ⟨vf, rfl, by rw [← fin]; pv_eval, .inr (.head _)⟩
        · have := I.len; (first | lia | omega)
      · rename_i hb
        top_args
        rw [if_neg hb] at fin
        exact ⟨vf, rfl, by rw [← fin]; pv_eval, .inr (.head _)⟩
theorem con_shr (wd : World) {va : Value} {tn tw : Tok} {w x n : Nat} (hw : 0 < w) (hw9 : w ≤ 30) (hx : x < 2 ^ 64) (hn : n ≤ 64) :
    Pure wd 3 81 [va, .int n tn, .int w tw] [(va, .nums (row w x))] (.nums (row w (x / 2 ^ n))) := by
  refine Pure.mk' (m := [("a", .v va), ("n", .i n), ("w", .i w), ("spots", .un), ("few", .un), ("found", .un), ("mask", .un), ("at", .un), ("above", .un)]) (by rfl) (by kernel_rfl) (by rfl) (by kernel_rfl) (by decide +kernel) (by kernel_rfl) (.cons rfl (.cons ⟨_, rfl⟩ (.cons ⟨_, rfl⟩ (.nil rfl)))) (by kernel_rfl) ?_
  intro A L hA
  have lx := len64 hw hx
  obtain ⟨sp, few, esp, efew, hsp, hfew, hfs⟩ := parts n hw
  have hlt : (2 : Int) ^ w ≤ 2 ^ 30 := by exact_mod_cast Nat.pow_le_pow_right (by decide) hw9
  top_args
  with_reducible refine T_floordivN esp hw (by (first | lia | omega)) ?_
  intro _
  top_args
  with_reducible refine T_modN efew hw ?_
  intro _
  top_args
  with_reducible refine T_newApp (ns := []) .nil (by decide) ?_
  intro vf
  top_args
  with_reducible refine T_lshiftE (c := 2 ^ w) (by (first | lia | omega)) (by (first | lia | omega)) (by decide) (by rw [Int.toNat_natCast, Int.one_mul]) ?_
  intro _
  top_args
  with_reducible refine T_For_range hA.h ?_
  top_args
  rename_i r
  refine ⟨_, _, _, .head _, (range_up (by (first | lia | omega)) (by (first | lia | omega))).1, _, (range_up (by (first | lia | omega)) (by (first | lia | omega))).2, fun i σ => ∃ av bv fs, ShrInv w few ((row w x).drop sp) i fs ∧ σ = ⟨[("a", .v va), ("n", .i n), ("w", .i w), ("spots", .i sp), ("few", .i few), ("found", .v vf), ("mask", .i (2 ^ w - 1)), ("at", av), ("above", bv)], [(r, .range sp (row w x).length 1), (va, .nums (row w x))], [], [(vf, .app fs)]⟩,
    ⟨_, _, [], .nil .., rfl⟩, ?_, ?_⟩
  · rintro i σ' hi ⟨av, bv, fs, I, rfl⟩
    refine ⟨_, by one_sign, ?_⟩
    have ha : sp + i < (row w x).length := by (first | lia | omega)
    have e0 : ((sp : Int) + i * 1).toNat = sp + i := by (first | lia | omega)
    have g1 : (row w x)[((sp : Int) + i * 1).toNat]? = some (((row w x).drop sp).getD i 0) := by
      rw [e0, List.getD_eq_getElem?_getD, List.getElem?_drop, List.getElem?_eq_getElem ha]; rfl
    have hd := getD_lt ((dig_row hw x).drop' sp) i
    have he := getD_lt ((dig_row hw x).drop' sp) (i + 1)
    refine T_cut (fun σ => σ = ⟨[("a", .v va), ("n", .i n), ("w", .i w), ("spots", .i sp), ("few", .i few), ("found", .v vf), ("mask", .i (2 ^ w - 1)), ("at", .i (sp + i * 1)), ("above", .i (((row w x).drop sp).getD (i + 1) 0))], [(r, .range sp (row w x).length 1), (va, .nums (row w x))], [], [(vf, .app fs)]⟩) ?_ ?_
    · top_args
      regstrif_gather
      · rename_i hb
        top_args
        have e1 : ((sp : Int) + i * 1 + 1).toNat = sp + (i + 1) := by (first | lia | omega)
        have g2 : (row w x)[((sp : Int) + i * 1 + 1).toNat]? = some (((row w x).drop sp).getD (i + 1) 0) := by
          rw [e1, List.getD_eq_getElem?_getD, List.getElem?_drop, List.getElem?_eq_getElem (show sp + (i + 1) < (row w x).length by (first | lia | omega))]; rfl
        with_reducible refine T_item (.fx (by passes_own)) (by (first | lia | omega)) (by (first | lia | omega)) g2 ?_
        intro _
        top_args
        exact ⟨rfl, _, Wk.refl (nodupB_iff (by kernel_rfl)), rfl⟩
      · rename_i hb
        top_args
        refine ⟨rfl, _, Wk.refl (nodupB_iff (by kernel_rfl)), ?_⟩
        rw [List.getD_eq_getElem?_getD, List.getElem?_drop, List.getElem?_eq_none (show (row w x).length ≤ sp + (i + 1) by (first | lia | omega))]; rfl
    · rintro σ rfl
      top_args
      with_reducible refine T_item (.fx (by passes_own)) (by (first | lia | omega)) (by (first | lia | omega)) g1 ?_
      intro _
      top_args
      with_reducible refine T_rshiftE (c := ((row w x).drop sp).getD i 0 / 2 ^ few) (by (first | lia | omega)) (by rw [Int.toNat_natCast]) ?_
      intro _
      top_args
      with_reducible refine T_lshiftE (c := ((row w x).drop sp).getD (i + 1) 0 * 2 ^ (w - few)) (by (first | lia | omega)) (by (first | lia | omega)) (by (first | lia | omega)) (by rw [show ((w : Int) - few).toNat = w - few by (first | lia | omega)]) ?_
      intro _
      top_args
      none_booked
      · rw [(shr_dig hfew hd he.1).1]
        top_args
        exact ⟨_, _, _, I.step hfew ((dig_row hw x).drop' sp), rfl⟩
      · have := I.len; (first | lia | omega)
  · rintro σ' ⟨av, bv, fs, I, rfl⟩
    top_args
    have := I.len
    with_reducible refine T_pure_n (con_normal wd hw I.dig (by (first | lia | omega))) (hA.le (by (first | lia | omega))) (rd1 (by pv_eval)) ?_
    intro vr
    rw [I.last hw, hfs]
    exact ⟨vr, rfl, by pv_eval, .inl (.head _)⟩
theorem con_bits (wd : World) {w x : Nat} (hw : 0 < w) (hw9 : w ≤ 30) (hx : x < 2 ^ 64) :
    ∃ b : Int, (x : Int) < 2 ^ b.toNat ∧ ∀ (va : Value) (tw : Tok), Pure wd 1 88 [va, .int w tw] [(va, .nums (row w x))] (.i b) := by
  have lx := len64 hw hx
  have hd := dig_row hw x
  have hv := val_row hw x
  revert lx hd hv
  generalize row w x = ns
  rcases List.eq_nil_or_concat ns with rfl | ⟨ns, l, rfl⟩
  · intro lx hd hv
    refine ⟨0, by simp [val] at hv; simp; (first | lia | omega), fun va tw => ?_⟩
    refine Pure.mk' (m := [("a", .v va), ("w", .i w)]) (by rfl) (by kernel_rfl) (by rfl) (by kernel_rfl) (by decide +kernel) (by kernel_rfl) (.cons rfl (.cons ⟨_, rfl⟩ (.nil rfl))) (by kernel_rfl) ?_
    intro A L hA
    have hz : ([] : List Int).length < 2 ^ 62 := by decide
    top_args
    regstrif_gather
    · rename_i hb
      exact absurd hb (by decide)
    · rename_i hb
      top_args
      exact ⟨_, rfl, _, rfl⟩
  · intro lx hd hv
    rw [List.concat_eq_append] at lx hd hv ⊢
    have := bits_val hd
    rw [hv] at this
    refine ⟨_, this, fun va tw => ?_⟩
    rw [List.length_append] at lx
    have hz : (ns ++ [l]).length < 2 ^ 62 := by rw [List.length_append]; simp only [List.length_cons, List.length_nil] at lx ⊢; (first | lia | omega)
    refine Pure.mk' (m := [("a", .v va), ("w", .i w)]) (by rfl) (by kernel_rfl) (by rfl) (by kernel_rfl) (by decide +kernel) (by kernel_rfl) (.cons rfl (.cons ⟨_, rfl⟩ (.nil rfl))) (by kernel_rfl) ?_
    intro A L hA
    top_args
    regstrif_gather
    · rename_i hb
      top_args
      simp only [List.length_cons, List.length_nil] at lx
      have e : (((ns ++ [l]).length : Int) - 1) = ns.length := by rw [List.length_append]; simp only [List.length_cons, List.length_nil]; (first | lia | omega)
      rw [e]
      with_reducible refine T_mul ?_ (mulok_small (by (first | lia | omega)) (by (first | lia | omega)))
      intro _
      top_args
      with_reducible refine T_itemLast (ns := ns) (x := l) (by pv_eval) ?_
      intro _
      top_args
      refine ⟨_, _, rfl, fun _ => ?_⟩
      top_args
      exact ⟨_, rfl, _, rfl⟩
    · rename_i hb
      rw [List.length_append] at hb
      simp only [List.length_cons, List.length_nil] at hb
      (first | lia | omega)
theorem con_low (wd : World) {va : Value} {tn tw : Tok} {w x n : Nat} (hw : 0 < w) (hw9 : w ≤ 30) (hx : x < 2 ^ 64) (hn : n ≤ 64) :
    Pure wd 3 95 [va, .int n tn, .int w tw] [(va, .nums (row w x))] (.nums (row w (x % 2 ^ n))) := by
  refine Pure.mk' (m := [("a", .v va), ("n", .i n), ("w", .i w), ("spots", .un), ("few", .un)]) (by rfl) (by kernel_rfl) (by rfl) (by kernel_rfl) (by decide +kernel) (by kernel_rfl) (.cons rfl (.cons ⟨_, rfl⟩ (.cons ⟨_, rfl⟩ (.nil rfl)))) (by kernel_rfl) ?_
  intro A L hA
  have lx := len64 hw hx
  obtain ⟨sp, few, esp, efew, hsp, hfew, hfs⟩ := parts n hw
  top_args
  with_reducible refine T_floordivN esp hw (by (first | lia | omega)) ?_
  intro _
  top_args
  with_reducible refine T_modN efew hw ?_
  intro _
  top_args
  regstrif_gather
  · rename_i hb
    top_args
    with_reducible refine T_slice ?_
    top_args
    refine ⟨row w x, none, none, by pv_eval, by (first | lia | omega), .none, .none, fun v => ?_⟩
    rw [pick_all, ← hfs, low_all hw (by (first | lia | omega))]
    exact ⟨v, rfl, by pv_eval, .inl (.head _)⟩
  · rename_i hb
    have hl : sp < (row w x).length := by (first | lia | omega)
    top_args
    with_reducible refine T_slice ?_
    top_args
    refine ⟨row w x, none, some (sp : Int), by pv_eval, by (first | lia | omega), .none, .int _ _, fun v => ?_⟩
    rw [pick_upto]
    top_args
    with_reducible refine T_item (x := (row w x)[sp]) (.fx (by passes_own)) (by (first | lia | omega)) (by (first | lia | omega)) (by rw [Int.toNat_natCast]; exact List.getElem?_eq_getElem hl) ?_
    intro _
    top_args
    with_reducible refine T_lshiftE (c := 2 ^ few) (by (first | lia | omega)) (by (first | lia | omega)) (by decide) (by rw [Int.toNat_natCast, Int.one_mul]) ?_
    intro _
    top_args
    rw [bitAnd_mask (getElem_dig (dig_row hw x) hl).1]
    with_reducible refine T_newNums (ns := [(row w x)[sp] % 2 ^ few]) (.cons _ _ .nil) (Nat.le_of_ble_eq_true rfl) ?_
    intro v1
    top_args
    obtain ⟨hD, hV⟩ := low_val (few := few) hw hfew hl
    have hlen : ((row w x).take sp).length ≤ 64 := by rw [List.length_take]; (first | lia | omega)
    with_reducible refine T_addNums (by pv_eval) (by pv_eval) (by rw [List.length_cons, List.length_nil]; (first | lia | omega)) ?_
    intro v2
    top_args
    with_reducible refine T_pure_n (con_normal wd hw hD (by rw [List.length_append, List.length_cons, List.length_nil]; (first | lia | omega))) (hA.le (by (first | lia | omega))) (rd1 (by pv_eval)) ?_
    intro vr
    rw [hV, hfs]
    exact ⟨vr, rfl, by pv_eval, .inl (.head _)⟩
theorem con_one (wd : World) {tn tw : Tok} {w n : Nat} (hw : 0 < w) (hw9 : w ≤ 30) (hn : n ≤ 16) :
    Pure wd 2 102 [.int n tn, .int w tw] [] (.nums (row w (md n))) := by
  refine Pure.mk' (m := [("n", .i n), ("w", .i w)]) (by rfl) (by kernel_rfl) (by rfl) (by kernel_rfl) (by decide +kernel) (by kernel_rfl) (.cons ⟨_, rfl⟩ (.cons ⟨_, rfl⟩ (.nil rfl))) (by kernel_rfl) ?_
  intro A L hA
  top_args
  with_reducible refine T_newNums (ns := [1]) (.cons _ _ .nil) (Nat.le_of_ble_eq_true rfl) ?_
  intro v1
  top_args
  have C : ∀ t u, Pure wd 1 74 [v1, .int n t, .int w u] [(v1, .nums [1])] (.nums (row w (2 ^ n))) := fun t u => by
    have := con_shl wd (va := v1) (tn := t) (tw := u) (x := 1) (n := n) hw hw9 (by decide) (by (first | lia | omega))
    rw [row_one hw, Nat.one_mul] at this
    exact this
  with_reducible refine T_pure_n (C _ _) hA (rd1 (by pv_eval)) ?_
  intro v2
  top_args
  with_reducible refine T_newNums (ns := [1]) (.cons _ _ .nil) (Nat.le_of_ble_eq_true rfl) ?_
  intro v3
  top_args
  have hm := md_le hn
  have C2 : ∀ u, Pure wd 1 60 [v2, v3, .int w u] [(v2, .nums (row w (2 ^ n))), (v3, .nums [1])] (.nums (row w (md n))) := fun u => by
    have := con_add wd (va := v2) (vb := v3) (tw := u) (x := 2 ^ n) (y := 1) hw hw9 (by unfold md at hm; (first | lia | omega)) (by decide)
    rw [row_one hw] at this
    exact this
  with_reducible refine T_pure_n (C2 _) hA (rd2 (by pv_eval) (by pv_eval)) ?_
  intro v4
  exact ⟨v4, rfl, by pv_eval, .inl (.head _)⟩

theorem con_radd (wd : World) {va vb : Value} {tn tw : Tok} {w n : Nat} {a b : Int} (hw : 0 < w) (hw9 : w ≤ 30) (hn : n ≤ 16) :
    Pure wd 4 109 [va, vb, .int n tn, .int w tw] [(va, .nums (rr w n a)), (vb, .nums (rr w n b))] (.nums (rr w n (a + b))) := by
  change Pure wd 4 109 [va, vb, .int n tn, .int w tw] [(va, .nums (row w (res n a))), (vb, .nums (row w (res n b)))] (.nums (rr w n (a + b)))
  refine Pure.mk' (m := [("a", .v va), ("b", .v vb), ("n", .i n), ("w", .i w), ("found", .un)]) (by rfl) (by kernel_rfl) (by rfl) (by kernel_rfl) (by decide +kernel) (by kernel_rfl) (.cons rfl (.cons rfl (.cons ⟨_, rfl⟩ (.cons ⟨_, rfl⟩ (.nil rfl))))) (by kernel_rfl) ?_
  intro A L hA
  have ha := res_lt n a
  have hb := res_lt n b
  have hm := md_le hn
  have hs : res n a + res n b < 2 ^ 64 := by (first | lia | omega)
  top_args
  with_reducible refine T_pure_n (con_add wd hw hw9 (res_64 hn a) (res_64 hn b)) (hA.le (by (first | lia | omega))) (rd2 (by pv_eval) (by pv_eval)) ?_
  intro vf
  top_args
  obtain ⟨bl, hbl, CB⟩ := con_bits wd hw hw9 hs
  with_reducible refine T_pure_i (CB _ _) (hA.le (by (first | lia | omega))) (rd1 (by pv_eval)) ?_
  intro _
  top_args
  regstrif_gather
  · rename_i hb
    top_args
    with_reducible refine T_pure_n (con_one wd hw hw9 hn) (hA.le (by (first | lia | omega))) rd0 ?_
    intro v1
    top_args
    with_reducible refine T_pure_i (con_compare wd hw hs (y := md n) (by (first | lia | omega))) (hA.le (by (first | lia | omega))) (rd2 (by pv_eval) (by pv_eval)) ?_
    intro _
    top_args
    regstrif_gather
    · rename_i hc
      have hc' := cmp_ge.mp hc
      top_args
      refine ⟨fun _ => ?_, nofun⟩
      top_args
      with_reducible refine T_pure_n (con_one wd hw hw9 hn) (hA.le (by (first | lia | omega))) rd0 ?_
      intro v2
      top_args
      with_reducible refine T_pure_n (con_sub wd hw hw9 hs hc') (hA.le (by (first | lia | omega))) (rd2 (by pv_eval) (by pv_eval)) ?_
      intro v3
      rw [ring_add_big hc']
      exact ⟨v3, rfl, by pv_eval, .inl (.head _)⟩
    · rename_i hc
      have hc' : ¬ md n ≤ res n a + res n b := fun q => hc (cmp_ge.mpr q)
      top_args
      refine ⟨nofun, fun _ => ?_⟩
      top_args
      exact ⟨vf, rfl, by rw [← ring_add_small (show res n a + res n b < md n by (first | lia | omega))]; pv_eval, .inl (.tail _ (.head _))⟩
  · rename_i hb
    top_args
    refine ⟨nofun, fun _ => ?_⟩
    top_args
    have hc' : res n a + res n b < md n := by
      have : bl.toNat ≤ n := by (first | lia | omega)
      have h2 : (2 : Int) ^ bl.toNat ≤ 2 ^ n := by exact_mod_cast Nat.pow_le_pow_right (by decide) this
      have := cast_pow n
      unfold md; (first | lia | omega)
    exact ⟨vf, rfl, by rw [← ring_add_small hc']; pv_eval, .inl (.head _)⟩

theorem con_rsub (wd : World) {va vb : Value} {tn tw : Tok} {w n : Nat} {a b : Int} (hw : 0 < w) (hw9 : w ≤ 30) (hn : n ≤ 16) :
    Pure wd 4 116 [va, vb, .int n tn, .int w tw] [(va, .nums (rr w n a)), (vb, .nums (rr w n b))] (.nums (rr w n (a - b))) := by
  change Pure wd 4 116 [va, vb, .int n tn, .int w tw] [(va, .nums (row w (res n a))), (vb, .nums (row w (res n b)))] (.nums (rr w n (a - b)))
  refine Pure.mk' (m := [("a", .v va), ("b", .v vb), ("n", .i n), ("w", .i w)]) (by rfl) (by kernel_rfl) (by rfl) (by kernel_rfl) (by decide +kernel) (by kernel_rfl) (.cons rfl (.cons rfl (.cons ⟨_, rfl⟩ (.cons ⟨_, rfl⟩ (.nil rfl))))) (by kernel_rfl) ?_
  intro A L hA
  have ha := res_lt n a
  have hb := res_lt n b
  have hm := md_le hn
  top_args
  with_reducible refine T_pure_i (con_compare wd hw (res_64 hn a) (res_64 hn b)) (hA.le (by (first | lia | omega))) (rd2 (by pv_eval) (by pv_eval)) ?_
  intro _
  top_args
  regstrif_gather
  · rename_i hc
    have hc' := cmp_ge.mp hc
    top_args
    with_reducible refine T_pure_n (con_sub wd hw hw9 (res_64 hn a) hc') (hA.le (by (first | lia | omega))) (rd2 (by pv_eval) (by pv_eval)) ?_
    intro v3
    rw [ring_sub_pos hc']
    exact ⟨v3, rfl, by pv_eval, .inl (.head _)⟩
  · rename_i hc
    have hc' : res n a < res n b := Nat.lt_of_not_le fun q => hc (cmp_ge.mpr q)
    top_args
    with_reducible refine T_pure_n (con_one wd hw hw9 hn) (hA.le (by (first | lia | omega))) rd0 ?_
    intro v1
    top_args
    with_reducible refine T_pure_n (con_add wd hw hw9 (res_64 hn a) (y := md n) (by (first | lia | omega))) (hA.le (by (first | lia | omega))) (rd2 (by pv_eval) (by pv_eval)) ?_
    intro v2
    top_args
    with_reducible refine T_pure_n (con_sub wd hw hw9 (x := res n a + md n) (y := res n b) (by (first | lia | omega)) (by (first | lia | omega))) (hA.le (by (first | lia | omega))) (rd2 (by pv_eval) (by pv_eval)) ?_
    intro v3
    rw [ring_sub_neg hc']
    exact ⟨v3, rfl, by pv_eval, .inl (.head _)⟩

theorem con_rneg (wd : World) {va : Value} {tn tw : Tok} {w n : Nat} {a : Int} (hw : 0 < w) (hw9 : w ≤ 30) (hn : n ≤ 16) :
    Pure wd 4 123 [va, .int n tn, .int w tw] [(va, .nums (rr w n a))] (.nums (rr w n (-a))) := by
  change Pure wd 4 123 [va, .int n tn, .int w tw] [(va, .nums (row w (res n a)))] (.nums (rr w n (-a)))
  refine Pure.mk' (m := [("a", .v va), ("n", .i n), ("w", .i w)]) (by rfl) (by kernel_rfl) (by rfl) (by kernel_rfl) (by decide +kernel) (by kernel_rfl) (.cons rfl (.cons ⟨_, rfl⟩ (.cons ⟨_, rfl⟩ (.nil rfl)))) (by kernel_rfl) ?_
  intro A L hA
  have ha := res_lt n a
  have hm := md_le hn
  have la := len64 hw (res_64 hn a)
  top_args
  regstrif_gather
  · rename_i hc
    have h0 : 0 < res n a := by
      rcases Nat.eq_zero_or_pos (res n a) with q | q
      · rw [q, row_zero] at hc; simp at hc
      · exact q
    top_args
    with_reducible refine T_pure_n (con_one wd hw hw9 hn) (hA.le (by (first | lia | omega))) rd0 ?_
    intro v1
    top_args
    with_reducible refine T_pure_n (con_sub wd hw hw9 (x := md n) (y := res n a) (by (first | lia | omega)) (by (first | lia | omega))) (hA.le (by (first | lia | omega))) (rd2 (by pv_eval) (by pv_eval)) ?_
    intro v3
    rw [ring_neg_pos h0]
    exact ⟨v3, rfl, by pv_eval, .inl (.head _)⟩
  · rename_i hc
    have h0 : res n a = 0 := (row_nil_iff hw).mp (List.eq_nil_of_length_eq_zero (by (first | lia | omega)))
    top_args
    with_reducible refine T_newNums (ns := []) .nil (by decide) ?_
    intro v
    rw [← ring_neg_zero h0]
    exact ⟨v, rfl, by pv_eval, .inl (.head _)⟩
theorem con_fold (wd : World) {va : Value} {tn tw : Tok} {w n x : Nat} (hw : 0 < w) (hw9 : w ≤ 30) (hn0 : 0 < n) (hn : n ≤ 16) (hx : x < 2 ^ 64) :
    Pure wd 5 130 [va, .int n tn, .int w tw] [(va, .nums (row w x))] (.nums (rr w n x)) := by
  refine Pure.mk' (m := [("a", .v va), ("n", .i n), ("w", .i w), ("found", .un), ("is_minus", .un), ("part", .un)]) (by rfl) (by kernel_rfl) (by rfl) (by kernel_rfl) (by decide +kernel) (by kernel_rfl) (.cons rfl (.cons ⟨_, rfl⟩ (.cons ⟨_, rfl⟩ (.nil rfl)))) (by kernel_rfl) ?_
  intro A L hA
  top_args
  with_reducible refine T_newNum (ns := []) .nil (by decide) ?_
  intro v0
  top_args
  refine T_While (fun z σ => ∃ ua uf pv m f, FoldInv n x f z m ∧ z < 2 ^ 64 ∧ Wk ⟨[("a", .v ua), ("n", .i n), ("w", .i w), ("found", .v uf), ("is_minus", .b m), ("part", pv)], [(ua, .nums (row w z)), (uf, .nums (rr w n f))], [uf], []⟩ σ) x ⟨va, v0, .un, false, 0, .nil n x, hx, Wk.of (by kernel_rfl) (.cons (by passes_own) (.cons (by rw [rr_zero]; passes_own) .nil)) (.cons (.head _) .nil)⟩ ?_
  rintro z σ' ⟨ua, uf, pv, m, f, I, hz, K⟩
  refine T_wk K ?_
  have lz := len64 hw hz
  top_args
  regstrif_gather
  · rename_i hc
    have h0 : 0 < z := by
      rcases Nat.eq_zero_or_pos z with q | q
      · rw [q, row_zero] at hc; simp at hc
      · exact q
    have hlt : z / 2 ^ n < z := Nat.div_lt_self h0 (Nat.one_lt_two_pow (by (first | lia | omega)))
    top_args
    with_reducible refine T_pure_n (con_low wd hw hw9 hz (n := n) (by (first | lia | omega))) (hA.le (by (first | lia | omega))) (rd1 (by pv_eval)) ?_
    intro vp
    rw [row_low]
    top_args
    cases m
    · refine ⟨nofun, fun _ => ?_⟩
      top_args
      with_reducible refine T_pure_n (con_radd wd hw hw9 hn) hA (rd2 (by pv_eval) (by pv_eval)) ?_
      intro vq
      top_args
      with_reducible refine T_pure_n (con_shr wd hw hw9 hz (n := n) (by (first | lia | omega))) (hA.le (by (first | lia | omega))) (rd1 (by pv_eval)) ?_
      intro vs
      top_args
      exact ⟨z / 2 ^ n, hlt, vs, vq, _, true, _, I.plus, by (first | lia | omega), Wk.of (by kernel_rfl) (.cons (by passes_own) (.cons (by passes_own) .nil)) (.cons (by passes_own) .nil)⟩
    · refine ⟨fun _ => ?_, nofun⟩
      top_args
      with_reducible refine T_pure_n (con_rsub wd hw hw9 hn) hA (rd2 (by pv_eval) (by pv_eval)) ?_
      intro vq
      top_args
      with_reducible refine T_pure_n (con_shr wd hw hw9 hz (n := n) (by (first | lia | omega))) (hA.le (by (first | lia | omega))) (rd1 (by pv_eval)) ?_
      intro vs
      top_args
      exact ⟨z / 2 ^ n, hlt, vs, vq, _, false, _, I.minus, by (first | lia | omega), Wk.of (by kernel_rfl) (.cons (by passes_own) (.cons (by passes_own) .nil)) (.cons (by passes_own) .nil)⟩
  · rename_i hc
    have h0 : z = 0 := (row_nil_iff hw).mp (List.eq_nil_of_length_eq_zero (by (first | lia | omega)))
    subst h0
    top_args
    exact ⟨uf, rfl, by rw [← I.fin (w := w)]; pv_eval, .inl (.head _)⟩
theorem con_rshift0 (wd : World) {va : Value} {tk tn tw : Tok} {w n k : Nat} {z : Int} (hw : 0 < w) (hw9 : w ≤ 30) (hn : n ≤ 16) (hk : k < n) :
    Pure wd 6 137 [va, .int k tk, .int n tn, .int w tw] [(va, .nums (rr w n z))] (.nums (rr w n (z * 2 ^ k))) := by
  refine Pure.mk' (m := [("a", .v va), ("k", .i k), ("n", .i n), ("w", .i w)]) (by rfl) (by kernel_rfl) (by rfl) (by kernel_rfl) (by decide +kernel) (by kernel_rfl) (.cons rfl (.cons ⟨_, rfl⟩ (.cons ⟨_, rfl⟩ (.cons ⟨_, rfl⟩ (.nil rfl))))) (by kernel_rfl) ?_
  intro A L hA
  have hm := md_le hn
  have hr := res_lt n z
  have hp : 2 ^ k ≤ 2 ^ 16 := Nat.pow_le_pow_right (by decide) (by (first | lia | omega))
  have hb : res n z * 2 ^ k ≤ 65537 * 2 ^ 16 := Nat.mul_le_mul (by (first | lia | omega)) hp
  top_args
  with_reducible refine T_mul ?_ (mulok_small (by decide) (by decide))
  intro _
  top_args
  with_reducible refine T_modE (c := k) (Int.emod_eq_of_lt (by (first | lia | omega)) (by (first | lia | omega))) (by (first | lia | omega)) ?_
  intro _
  top_args
  regstrif_gather
  · rename_i hc
    (first | lia | omega)
  · rename_i hc
    top_args
    with_reducible refine T_pure_n (con_shl wd (x := res n z) (n := k) hw hw9 (res_64 hn z) (by (first | lia | omega))) (hA.le (by (first | lia | omega))) (rd1 (.fx (List.Mem.head _))) ?_
    intro v1
    top_args
    with_reducible refine T_pure_n (con_fold wd (x := res n z * 2 ^ k) hw hw9 (by (first | lia | omega)) hn (by (first | lia | omega))) hA (rd1 (by pv_eval)) ?_
    intro v2
    rw [rr_shl]
    exact ⟨v2, rfl, by pv_eval, .inl (.head _)⟩
theorem con_rshift (wd : World) {va : Value} {tk tn tw : Tok} {w n : Nat} {z k : Int} (hw : 0 < w) (hw9 : w ≤ 30) (hn0 : 0 < n) (hn : n ≤ 16) :
    Pure wd 7 137 [va, .int k tk, .int n tn, .int w tw] [(va, .nums (rr w n z))] (.nums (rr w n (z * 2 ^ (k % (2 * n)).toNat))) := by
  refine Pure.mk' (m := [("a", .v va), ("k", .i k), ("n", .i n), ("w", .i w)]) (by rfl) (by kernel_rfl) (by rfl) (by kernel_rfl) (by decide +kernel) (by kernel_rfl) (.cons rfl (.cons ⟨_, rfl⟩ (.cons ⟨_, rfl⟩ (.cons ⟨_, rfl⟩ (.nil rfl))))) (by kernel_rfl) ?_
  intro A L hA
  obtain ⟨j, hj⟩ : ∃ j : Nat, k % (2 * n) = j := ⟨_, (Int.toNat_of_nonneg (Int.emod_nonneg k (by (first | lia | omega)))).symm⟩
  have hj2 : j < 2 * n := by have := Int.emod_lt_of_pos k (show (0 : Int) < 2 * n by (first | lia | omega)); (first | lia | omega)
  have hm := md_le hn
  have hr := res_lt n z
  rw [hj, Int.toNat_natCast]
  top_args
  with_reducible refine T_mul ?_ (mulok_small (by decide) (by decide))
  intro _
  top_args
  with_reducible refine T_modE hj (by (first | lia | omega)) ?_
  intro _
  top_args
  regstrif_gather
  · rename_i hc
    have hjn : n ≤ j := by (first | lia | omega)
    top_args
    rw [show (j : Int) - n = ((j - n : Nat) : Int) by (first | lia | omega)]
    top_args
    with_reducible refine T_pure_n (con_rshift0 wd (k := j - n) hw hw9 hn (by (first | lia | omega))) hA (rd1 (by pv_eval)) ?_
    intro v1
    top_args
    with_reducible refine T_pure_n (con_rneg wd hw hw9 hn) (hA.le (by (first | lia | omega))) (rd1 (by pv_eval)) ?_
    intro v2
    rw [rr_neg_shl z hjn]
    exact ⟨v2, rfl, by pv_eval, .inl (.head _)⟩
  · rename_i hc
    have hp : 2 ^ j ≤ 2 ^ 16 := Nat.pow_le_pow_right (by decide) (by (first | lia | omega))
    have hb : res n z * 2 ^ j ≤ 65537 * 2 ^ 16 := Nat.mul_le_mul (by (first | lia | omega)) hp
    top_args
    with_reducible refine T_pure_n (con_shl wd (x := res n z) (n := j) hw hw9 (res_64 hn z) (by (first | lia | omega))) (hA.le (by (first | lia | omega))) (rd1 (.fx (List.Mem.head _))) ?_
    intro v1
    top_args
    with_reducible refine T_pure_n (con_fold wd (x := res n z * 2 ^ j) hw hw9 (by (first | lia | omega)) hn (by (first | lia | omega))) (hA.le (by (first | lia | omega))) (rd1 (by pv_eval)) ?_
    intro v2
    rw [rr_shl]
    exact ⟨v2, rfl, by pv_eval, .inl (.head _)⟩
theorem con_mul (wd : World) {va vb : Value} {tw : Tok} {w x y : Nat} (hw : 0 < w) (hw9 : w ≤ 30) (hx : x < 2 ^ 20) (hy : y < 2 ^ 20) :
    Pure wd 3 180 [va, vb, .int w tw] [(va, .nums (row w x)), (vb, .nums (row w y))] (.nums (row w (x * y))) := by
  refine Pure.mk' (m := [("a", .v va), ("b", .v vb), ("w", .i w), ("found", .un), ("mask", .un), ("at", .un), ("limb", .un), ("carry", .un), ("spot", .un), ("other", .un)]) (by rfl) (by kernel_rfl) (by rfl) (by kernel_rfl) (by decide +kernel) (by kernel_rfl) (.cons rfl (.cons rfl (.cons ⟨_, rfl⟩ (.nil rfl)))) (by kernel_rfl) ?_
  intro A L hA
  have lx := row_len_pow hw hx
  have ly := row_len_pow hw hy
  have lx' : (row w x).length < 2 ^ 62 := by (first | lia | omega)
  have ly' : (row w y).length < 2 ^ 62 := by (first | lia | omega)
  have hlt : (2 : Int) ^ w ≤ 2 ^ 30 := by exact_mod_cast Nat.pow_le_pow_right (by decide) hw9
  top_args
  with_reducible refine T_newNums (ns := [0]) (.cons _ _ .nil) (Nat.le_of_ble_eq_true rfl) ?_
  intro v0
  top_args
  with_reducible refine T_mulOne (by passes_own) (by (first | lia | omega)) (by (first | lia | omega)) (.inr rfl) ?_
  intro vf
  rw [show ((((row w x).length : Int) + (row w y).length).toNat) = (row w x).length + (row w y).length by (first | lia | omega)]
  top_args
  with_reducible refine T_lshiftE (c := 2 ^ w) (by (first | lia | omega)) (by (first | lia | omega)) (by decide) (by rw [Int.toNat_natCast, Int.one_mul]) ?_
  intro _
  top_args
  with_reducible refine T_For_any (opens_enumN hA.h ?_)
  top_args
  refine ⟨row w x, by passes_own, fun i σ => ∃ v1 v2 v3 v4 v5 fs, MulOut w (row w x) (row w y) i fs ∧ σ = ⟨[("a", .v va), ("b", .v vb), ("w", .i w), ("found", .v vf), ("mask", .i (2 ^ w - 1)), ("at", v1), ("limb", v2), ("carry", v3), ("spot", v4), ("other", v5)], [(v0, .app [0]), (va, .nums (row w x)), (vb, .nums (row w y))], [], [(vf, .nums fs)]⟩,
    ⟨_, _, _, _, _, _, .nil .., rfl⟩, ?_, ?_⟩
  · rintro i σ' hi ⟨v1, v2, v3, v4, v5, fs, I, rfl⟩
    refine ⟨hi, _, _, by one_sign, by one_sign, ?_⟩
    have hd := getElem_dig (dig_row hw x) hi
    top_args
    with_reducible refine T_For_any (opens_enumN hA.h ?_)
    top_args
    refine ⟨row w y, by passes_own, fun j σ => ∃ v4 v5 fs' c, MulIn w (row w x) (row w y) i (row w x)[i] (val w fs) j fs' c ∧ σ = ⟨[("a", .v va), ("b", .v vb), ("w", .i w), ("found", .v vf), ("mask", .i (2 ^ w - 1)), ("at", .i i), ("limb", .i (row w x)[i]), ("carry", .i c), ("spot", v4), ("other", v5)], [(v0, .app [0]), (va, .nums (row w x)), (vb, .nums (row w y))], [], [(vf, .nums fs')]⟩,
      ⟨_, _, _, _, I.inn _, rfl⟩, ?_, ?_⟩
    · rintro j σ' hj ⟨v4, v5, fs', c, I', rfl⟩
      refine ⟨hj, _, _, by one_sign, by one_sign, ?_⟩
      have he := getElem_dig (dig_row hw y) hj
      have hk : i + j < fs'.length := by rw [I'.len]; (first | lia | omega)
      have hf := getElem_dig I'.dig hk
      have hlen := I'.len
      have eij : ((i : Int) + j).toNat = i + j := by (first | lia | omega)
      top_args
      with_reducible refine T_item (x := fs'[i + j]) (by pv_eval) (by (first | lia | omega)) (by (first | lia | omega)) (by rw [eij]; exact List.getElem?_eq_getElem hk) ?_
      intro _
      top_args
      with_reducible refine T_mul ?_ (mulok_small (by (first | lia | omega)) (by (first | lia | omega)))
      intro _
      top_args
      have hc0 := I'.c0
      have hde : 0 ≤ (row w x)[i] * (row w y)[j] := Int.mul_nonneg hd.1 he.1
      rw [bitAnd_mask (by (first | lia | omega))]
      with_reducible refine T_set (by leaf_len) (by (first | lia | omega)) (by (first | lia | omega)) (by (first | lia | omega)) ?_
      rw [eij]
      top_args
      with_reducible refine T_irshiftE (c := (c + (fs'[i + j] + (row w x)[i] * (row w y)[j])) / 2 ^ w) (by (first | lia | omega)) (by rw [Int.toNat_natCast]) ?_
      intro _
      top_args
      exact ⟨_, _, _, _, I'.step hd (dig_row hw y) hj hk, rfl⟩
    · rintro σ' ⟨v4, v5, fs', c, I', rfl⟩
      have hlen := I'.len
      have eij : ((i : Int) + (row w y).length).toNat = i + (row w y).length := by (first | lia | omega)
      top_args
      with_reducible refine T_set (by leaf_len) (by (first | lia | omega)) (by (first | lia | omega)) (by (first | lia | omega)) ?_
      rw [eij]
      top_args
      exact ⟨_, _, _, _, _, _, I'.fin hi I, rfl⟩
  · rintro σ' ⟨v1, v2, v3, v4, v5, fs, I, rfl⟩
    have hlen := I.len
    top_args
    with_reducible refine T_pure_n (con_normal wd hw I.dig (by (first | lia | omega))) (hA.le (by (first | lia | omega))) (rd1 (by pv_eval)) ?_
    intro vr
    rw [I.fin hw]
    exact ⟨vr, rfl, by pv_eval, .inl (.head _)⟩
theorem con_rmul (wd : World) {va vb : Value} {tn tw : Tok} {w n : Nat} {a b : Int} (hw : 0 < w) (hw9 : w ≤ 30) (hn0 : 0 < n) (hn : n ≤ 16) :
    Pure wd 6 144 [va, vb, .int n tn, .int w tw, .ref 180] [(va, .nums (rr w n a)), (vb, .nums (rr w n b))] (.nums (rr w n (a * b))) := by
  change Pure wd 6 144 [va, vb, .int n tn, .int w tw, .ref 180] [(va, .nums (row w (res n a))), (vb, .nums (row w (res n b)))] (.nums (rr w n (a * b)))
  refine Pure.mk' (m := [("a", .v va), ("b", .v vb), ("n", .i n), ("w", .i w), ("mul", .v (.ref 180))]) (by rfl) (by kernel_rfl) (by rfl) (by kernel_rfl) (by decide +kernel) (by kernel_rfl) (.cons rfl (.cons rfl (.cons ⟨_, rfl⟩ (.cons ⟨_, rfl⟩ (.cons rfl (.nil rfl)))))) (by kernel_rfl) ?_
  intro A L hA
  have hm := md_le hn
  have ha := res_lt n a
  have hb := res_lt n b
  have hab : res n a * res n b ≤ 65537 * 65537 := Nat.mul_le_mul (by (first | lia | omega)) (by (first | lia | omega))
  top_args
  with_reducible refine T_pure_n (con_mul wd (x := res n a) (y := res n b) hw hw9 (by (first | lia | omega)) (by (first | lia | omega))) (hA.le (by (first | lia | omega))) (rd2 (by pv_eval) (by pv_eval)) ?_
  intro v1
  top_args
  with_reducible refine T_pure_n (con_fold wd (x := res n a * res n b) hw hw9 hn0 hn (by (first | lia | omega))) hA (rd1 (by pv_eval)) ?_
  intro v2
  rw [rr_mul]
  exact ⟨v2, rfl, by pv_eval, .inl (.head _)⟩
theorem con_forward (wd : World) {vr : Value} {tn tw : Tok} {w n : Nat} {zs : List Int} (hw : 0 < w) (hw9 : w ≤ 30) (hn0 : 0 < n) (hn : n ≤ 16) (hm : Many zs.length) :
    Pure wd 8 151 [vr, .int n tn, .int w tw] [(vr, .rows (rrs w n zs))] (.rows (rrs w n (fwd n zs))) := by
  refine Pure.mk' (m := [("row", .v vr), ("n", .i n), ("w", .i w), ("found", .un), ("half", .un), ("step", .un), ("begin", .un), ("at", .un), ("one", .un), ("other", .un)]) (by rfl) (by kernel_rfl) (by rfl) (by kernel_rfl) (by decide +kernel) (by kernel_rfl) (.cons rfl (.cons ⟨_, rfl⟩ (.cons ⟨_, rfl⟩ (.nil rfl)))) (by kernel_rfl) ?_
  intro A L hA
  have hm0 : 0 < zs.length := hm.le.1
  have hm4 : zs.length ≤ 4 := hm.le.2
  top_args
  with_reducible refine T_sliceRows ?_
  top_args
  refine ⟨rrs w n zs, .inl (by passes_own), by rw [rrs_len]; (first | lia | omega), ?_⟩
  intro vf
  top_args
  with_reducible refine T_lenR (by pv_eval) rrs_len (by (first | lia | omega)) ?_
  intro _
  top_args
  with_reducible refine T_floordivE (c := ((zs.length / 2 : Nat) : Int)) (by (first | lia | omega)) (by decide) (by decide) ?_
  intro _
  top_args
  with_reducible refine T_mul ?_ (mulok_small (by decide) (by decide))
  intro _
  top_args
  with_reducible refine T_lenR (by pv_eval) rrs_len (by (first | lia | omega)) ?_
  intro _
  top_args
  with_reducible refine T_floordivE (c := ((2 * n / zs.length : Nat) : Int)) (by push_cast; rfl) (by (first | lia | omega)) (by (first | lia | omega)) ?_
  intro _
  top_args
  refine T_While (fun h σ => ∃ s ys v1 v2 v3 v4 fx fr, Half h zs.length ∧ ys.length = zs.length ∧ whF n h s ys = fwd n zs ∧ σ = ⟨[("row", .v vr), ("n", .i n), ("w", .i w), ("found", .v vf), ("half", .i h), ("step", .i (s : Nat)), ("begin", v1), ("at", v2), ("one", v3), ("other", v4)], fx, fr, [(vf, .rows (rrs w n ys))]⟩)
    (zs.length / 2) ⟨2 * n / zs.length, zs, _, _, _, _, _, _, Half.start hm, rfl, rfl, rfl⟩ ?_
  rintro h σ' ⟨s, ys, v1, v2, v3, v4, fx, fr, H, hl, hf, rfl⟩
  refine T_wk (Wk.of (fx' := []) (fr' := []) (by kernel_rfl) .nil .nil) ?_
  top_args
  regstrif_gather
  · rename_i hb
    have h0 : 0 < h := by (first | lia | omega)
    obtain ⟨hr1, hr2, hr3⟩ := H.range h0
    obtain ⟨hle1, hle2, hle3⟩ := H.le
    top_args
    with_reducible refine T_For_any (opens_range hA.h ?_)
    top_args
    with_reducible refine T_lenR (by pv_eval) (rrs_len.trans hl) (by (first | lia | omega)) ?_
    intro _
    top_args
    with_reducible refine T_mul ?_ (mulok_small (by decide) (by decide))
    intro _
    top_args
    with_reducible refine T_range3 (by (first | lia | omega)) (by (first | lia | omega)) ?_
    intro r
    refine ⟨_, _, _, .head _, hr1, _, hr2, fun i σ => ∃ v1 v2 v3 v4 fx fr, σ = ⟨[("row", .v vr), ("n", .i n), ("w", .i w), ("found", .v vf), ("half", .i h), ("step", .i s), ("begin", v1), ("at", v2), ("one", v3), ("other", v4)], fx, fr, [(vf, .rows (rrs w n (outF n s h i ys)))]⟩,
      ⟨_, _, _, _, _, _, rfl⟩, ?_, ?_⟩
    · rintro i σ' hi ⟨v1, v2, v3, v4, fx, fr, rfl⟩
      refine ⟨_, by one_sign, ?_⟩
      obtain ⟨eB, hB⟩ := hr3 i hi
      rw [eB]
      have hxl : (outF n s h i ys).length = zs.length := (outF_len i).trans hl
      generalize ex : outF n s h i ys = xs at hxl
      generalize eb : i * (2 * h) = B at hB
      refine T_wk (Wk.of (fx' := []) (fr' := []) (by kernel_rfl) .nil .nil) ?_
      top_args
      with_reducible refine T_For_any (opens_range hA.h ?_)
      top_args
      rename_i r2
      refine ⟨_, _, _, .head _, (range_0 (by (first | lia | omega))).1, _, (range_0 (by (first | lia | omega))).2, fun j σ => ∃ v2 v3 v4 fx fr, σ = ⟨[("row", .v vr), ("n", .i n), ("w", .i w), ("found", .v vf), ("half", .i h), ("step", .i s), ("begin", .i B), ("at", v2), ("one", v3), ("other", v4)], fx, fr, [(vf, .rows (rrs w n (inF n s h B j xs)))]⟩,
        ⟨_, _, _, _, _, rfl⟩, ?_, ?_⟩
      · rintro j σ' hj ⟨v2, v3, v4, fx, fr, rfl⟩
        refine ⟨_, by one_sign, ?_⟩
        have hyl : (inF n s h B j xs).length = zs.length := (inF_len j).trans hxl
        rw [show (0 : Int) + j * 1 = j by (first | lia | omega)]
        refine T_wk (Wk.of (fx' := []) (fr' := []) (by kernel_rfl) .nil .nil) ?_
        show T wd A _ _ _ ⟨_, _, _, [(vf, .rows (rrs w n (inF n s h B j xs)))]⟩
        generalize eu : inF n s h B j xs = us at hyl
        have e1 : ((B : Int) + j).toNat = B + j := by (first | lia | omega)
        have e2 : ((B : Int) + h + j).toNat = B + h + j := by (first | lia | omega)
        have l1 : B + j < us.length := by (first | lia | omega)
        have l2 : B + h + j < us.length := by (first | lia | omega)
        top_args
        with_reducible refine T_ir (.inr (by passes_own)) (by (first | lia | omega)) (by (first | lia | omega)) (by rw [e1]; exact rrs_get l1) ?_
        intro u1
        top_args
        with_reducible refine T_ir (.inr (by passes_own)) (by (first | lia | omega)) (by (first | lia | omega)) (by rw [e2]; exact rrs_get l2) ?_
        intro u2
        top_args
        with_reducible refine T_pn (con_radd wd hw hw9 hn) (hA.le (by (first | lia | omega))) (rd2 (by pv_eval) (by pv_eval)) ?_
        intro u3
        top_args
        with_reducible refine T_sr (by passes_own) (by leaf_len) (by (first | lia | omega)) (by rw [rrs_len]; (first | lia | omega)) (by (first | lia | omega)) ?_
        rw [e1, rrs_set]
        top_args
        with_reducible refine T_pn (con_rsub wd hw hw9 hn) (hA.le (by (first | lia | omega))) (rd2 (by pv_eval) (by pv_eval)) ?_
        intro u4
        top_args
        with_reducible refine T_mul ?_ (.of_right (intBits_le_64 (by (first | lia | omega)) (by (first | lia | omega))))
        intro _
        top_args
        with_reducible refine T_pn (con_rshift wd hw hw9 hn0 hn) hA (rd1 (by pv_eval)) ?_
        intro u5
        top_args
        with_reducible refine T_sr (by passes_own) (by leaf_len) (by (first | lia | omega)) (by rw [rrs_len, List.length_set]; (first | lia | omega)) (by (first | lia | omega)) ?_
        rw [e2, rrs_set]
        top_args
        dsimp only [Turn]
        rw [inF, eu, bfF]
        exact ⟨_, _, _, _, _, rfl⟩
      · rintro σ' ⟨v2, v3, v4, fx, fr, rfl⟩
        top_args
        dsimp only [Turn]
        rw [outF, ex, eb]
        exact ⟨_, _, _, _, _, _, rfl⟩
    · rintro σ' ⟨v1, v2, v3, v4, fx, fr, rfl⟩
      top_args
      with_reducible refine T_floordivE (c := ((h / 2 : Nat) : Int)) (by (first | lia | omega)) (by decide) (by decide) ?_
      intro _
      top_args
      with_reducible refine T_mul ?_ (mulok_small (by decide) (by decide))
      intro _
      top_args
      have ew : whF n (h / 2) (2 * s) (outF n s h (zs.length / (2 * h)) ys) = fwd n zs := by rw [← hf, whF.eq_def n h, dif_neg (by (first | lia | omega)), hl]
      rw [show (2 * (s : Int)) = ((2 * s : Nat) : Int) by push_cast; rfl]
      exact ⟨h / 2, by (first | lia | omega), 2 * s, outF n s h (zs.length / (2 * h)) ys, _, _, _, _, _, _, H.next, (outF_len _).trans hl, ew, rfl⟩
  · rename_i hb
    have h0 : h = 0 := by (first | lia | omega)
    subst h0
    rw [whF, dif_pos rfl] at hf
    subst hf
    top_args
    exact ⟨vf, rfl, by exact Sg.Has.ow (by boot_fact)⟩
theorem con_backward (wd : World) {vr : Value} {tn tw : Tok} {w n : Nat} {zs : List Int} (hw : 0 < w) (hw9 : w ≤ 30) (hn0 : 0 < n) (hn : n ≤ 16) (hm : Many zs.length) :
    Pure wd 8 156 [vr, .int n tn, .int w tw] [(vr, .rows (rrs w n zs))] (.rows (rrs w n (bwd n zs))) := by
  refine Pure.mk' (m := [("row", .v vr), ("n", .i n), ("w", .i w), ("found", .un), ("half", .un), ("step", .un), ("begin", .un), ("at", .un), ("one", .un), ("other", .un), ("less", .un)]) (by rfl) (by kernel_rfl) (by rfl) (by kernel_rfl) (by decide +kernel) (by kernel_rfl) (.cons rfl (.cons ⟨_, rfl⟩ (.cons ⟨_, rfl⟩ (.nil rfl)))) (by kernel_rfl) ?_
  intro A L hA
  have hm0 : 0 < zs.length := hm.le.1
  have hm4 : zs.length ≤ 4 := hm.le.2
  top_args
  with_reducible refine T_sliceRows ?_
  top_args
  refine ⟨rrs w n zs, .inl (by passes_own), by rw [rrs_len]; (first | lia | omega), ?_⟩
  intro vf
  top_args
  refine T_While (fun f σ => ∃ h ys v0 v1 v2 v3 v4 fx fr, Up f h zs.length ∧ ys.length = zs.length ∧ whB n f h ys = whB n 3 1 zs ∧ (vr, D.rows (rrs w n zs)) ∈ fx ∧ σ = ⟨[("row", .v vr), ("n", .i n), ("w", .i w), ("found", .v vf), ("half", .i (h : Nat)), ("step", v0), ("begin", v1), ("at", v2), ("one", v3), ("other", v4), ("less", .un)], fx, fr, [(vf, .rows (rrs w n ys))]⟩)
    3 ⟨1, zs, _, _, _, _, _, _, _, Up.start hm, rfl, rfl, List.Mem.head _, rfl⟩ ?_
  rintro f σ' ⟨h, ys, v0, v1, v2, v3, v4, fx, fr, H, hl, hf, hfx, rfl⟩
  refine T_wk (Wk.of (fx' := [(vr, D.rows (rrs w n zs))]) (fr' := []) (by kernel_rfl) (.cons hfx .nil) .nil) ?_
  obtain ⟨hp0, hp4, hpf, _⟩ := H.pos
  top_args
  with_reducible refine T_lenR (by pv_eval) (rrs_len.trans hl) (by (first | lia | omega)) ?_
  intro _
  top_args
  regstrif_gather
  · rename_i hb
    have hb' : h < zs.length := by (first | lia | omega)
    obtain ⟨hr1, hr2, hr3⟩ := (H.half hb').range hp0
    top_args
    with_reducible refine T_floordivE (c := ((n / h : Nat) : Int)) (by push_cast; rfl) (by (first | lia | omega)) (by (first | lia | omega)) ?_
    intro _
    top_args
    with_reducible refine T_For_any (opens_range hA.h ?_)
    top_args
    with_reducible refine T_lenR (by pv_eval) (rrs_len.trans hl) (by (first | lia | omega)) ?_
    intro _
    top_args
    with_reducible refine T_mul ?_ (mulok_small (by decide) (by decide))
    intro _
    top_args
    with_reducible refine T_range3 (by (first | lia | omega)) (by (first | lia | omega)) ?_
    intro r
    refine ⟨_, _, _, .head _, hr1, _, hr2, fun i σ => ∃ v1 v2 v3 v4 fx fr, (vr, D.rows (rrs w n zs)) ∈ fx ∧ σ = ⟨[("row", .v vr), ("n", .i n), ("w", .i w), ("found", .v vf), ("half", .i h), ("step", .i (n / h : Nat)), ("begin", v1), ("at", v2), ("one", v3), ("other", v4), ("less", .un)], fx, fr, [(vf, .rows (rrs w n (outB n (n / h) h i ys)))]⟩,
      ⟨_, _, _, _, _, _, List.Mem.tail _ (List.Mem.head _), rfl⟩, ?_, ?_⟩
    · rintro i σ' hi ⟨v1, v2, v3, v4, fx, fr, hfx, rfl⟩
      refine ⟨_, by one_sign, ?_⟩
      obtain ⟨eB, hB⟩ := hr3 i hi
      rw [eB]
      have hxl : (outB n (n / h) h i ys).length = zs.length := (outB_len i).trans hl
      generalize ex : outB n (n / h) h i ys = xs at hxl
      generalize eb : i * (2 * h) = B at hB
      refine T_wk (Wk.of (fx' := [(vr, D.rows (rrs w n zs))]) (fr' := []) (by kernel_rfl) (.cons hfx .nil) .nil) ?_
      top_args
      with_reducible refine T_For_any (opens_range hA.h ?_)
      top_args
      rename_i r2
      refine ⟨_, _, _, .head _, (range_0 (by (first | lia | omega))).1, _, (range_0 (by (first | lia | omega))).2, fun j σ => ∃ v2 v3 v4 fx fr, (vr, D.rows (rrs w n zs)) ∈ fx ∧ σ = ⟨[("row", .v vr), ("n", .i n), ("w", .i w), ("found", .v vf), ("half", .i h), ("step", .i (n / h : Nat)), ("begin", .i B), ("at", v2), ("one", v3), ("other", v4), ("less", .un)], fx, fr, [(vf, .rows (rrs w n (inB n (n / h) h B j xs)))]⟩,
        ⟨_, _, _, _, _, List.Mem.tail _ (List.Mem.head _), rfl⟩, ?_, ?_⟩
      · rintro j σ' hj ⟨v2, v3, v4, fx, fr, hfx, rfl⟩
        refine ⟨_, by one_sign, ?_⟩
        have hyl : (inB n (n / h) h B j xs).length = zs.length := (inB_len j).trans hxl
        rw [show (0 : Int) + j * 1 = j by (first | lia | omega)]
        refine T_wk (Wk.of (fx' := [(vr, D.rows (rrs w n zs))]) (fr' := []) (by kernel_rfl) (.cons hfx .nil) .nil) ?_
        show T wd A _ _ _ ⟨_, _, _, [(vf, .rows (rrs w n (inB n (n / h) h B j xs)))]⟩
        generalize eu : inB n (n / h) h B j xs = us at hyl
        have e1 : ((B : Int) + j).toNat = B + j := by (first | lia | omega)
        have e2 : ((B : Int) + h + j).toNat = B + h + j := by (first | lia | omega)
        have l1 : B + j < us.length := by (first | lia | omega)
        have l2 : B + h + j < us.length := by (first | lia | omega)
        top_args
        with_reducible refine T_ir (.inr (by passes_own)) (by (first | lia | omega)) (by (first | lia | omega)) (by rw [e1]; exact rrs_get l1) ?_
        intro u1
        top_args
        with_reducible refine T_ir (.inr (by passes_own)) (by (first | lia | omega)) (by (first | lia | omega)) (by rw [e2]; exact rrs_get l2) ?_
        intro u2
        top_args
        with_reducible refine T_mul ?_ (.of_right (intBits_le_64 (by (first | lia | omega)) (by (first | lia | omega))))
        intro _
        top_args
        with_reducible refine T_pn (con_rshift wd hw hw9 hn0 hn) hA (rd1 (by pv_eval)) ?_
        intro u5
        top_args
        with_reducible refine T_pn (con_radd wd hw hw9 hn) (hA.le (by (first | lia | omega))) (rd2 (by pv_eval) (by pv_eval)) ?_
        intro u3
        top_args
        with_reducible refine T_sr (by passes_own) (by leaf_len) (by (first | lia | omega)) (by rw [rrs_len]; (first | lia | omega)) (by (first | lia | omega)) ?_
        rw [e1, rrs_set]
        top_args
        with_reducible refine T_pn (con_rsub wd hw hw9 hn) (hA.le (by (first | lia | omega))) (rd2 (by pv_eval) (by pv_eval)) ?_
        intro u4
        top_args
        with_reducible refine T_sr (by passes_own) (by leaf_len) (by (first | lia | omega)) (by rw [rrs_len, List.length_set]; (first | lia | omega)) (by (first | lia | omega)) ?_
        rw [e2, rrs_set]
        top_args
        dsimp only [Turn]
        rw [inB, eu, bbF]
        exact ⟨_, _, _, _, _, by passes_own, rfl⟩
      · rintro σ' ⟨v2, v3, v4, fx, fr, hfx, rfl⟩
        top_args
        dsimp only [Turn]
        rw [outB, ex, eb]
        exact ⟨_, _, _, _, _, _, hfx, rfl⟩
    · rintro σ' ⟨v1, v2, v3, v4, fx, fr, hfx, rfl⟩
      top_args
      with_reducible refine T_mul ?_ (mulok_small (by decide) (by decide))
      intro _
      top_args
      obtain ⟨g, rfl, H'⟩ := H.next hb'
      have ew : whB n g (2 * h) (outB n (n / h) h (zs.length / (2 * h)) ys) = whB n 3 1 zs := by rw [← hf, whB, if_pos (by (first | lia | omega)), hl]
      rw [show (2 * (h : Int)) = ((2 * h : Nat) : Int) by push_cast; rfl]
      exact ⟨g, by (first | lia | omega), 2 * h, outB n (n / h) h (zs.length / (2 * h)) ys, _, _, _, _, _, _, _, H', (outB_len _).trans hl, ew, hfx, rfl⟩
  · rename_i hb
    have ew : whB n 3 1 zs = ys := by
      rw [← hf]
      cases f with
      | zero => rfl
      | succ f => rw [whB, if_neg (by (first | lia | omega))]
    top_args
    with_reducible refine T_lenR (by pv_eval) rrs_len (by (first | lia | omega)) ?_
    intro _
    top_args
    refine ⟨_, _, rfl, fun _ => ?_⟩
    top_args
    rw [show ((Builtin.Int.intBits (zs.length : Int) : Nat) : Int) - 1 = lessOf zs.length from rfl]
    with_reducible refine T_freeze ?_
    refine T_comp [("one", .un)] [("w", .i w), ("n", .i n), ("less", .i (lessOf zs.length))] (.rows []) (opens_rows hA.h ?_)
    top_args
    have hyl : (ys.map fun z => z * 2 ^ ((-lessOf zs.length % (2 * n)).toNat)).length = ys.length := List.length_map ..
    refine ⟨rrs w n ys, by passes_own, ?_, fun acc => ⟨fun i σ => ∃ tv fx fr, (vf, D.rows (rrs w n ys)) ∈ fx ∧ σ = ⟨[("one", tv), ("w", .i w), ("n", .i n), ("less", .i (lessOf zs.length))], fx, fr, [(acc, .rows (rrs w n ((ys.map fun z => z * 2 ^ ((-lessOf zs.length % (2 * n)).toNat)).take i)))]⟩,
      ⟨_, _, _, List.Mem.head _, rfl⟩, ?_, ?_⟩⟩
    · exact All.cons (by passes_own) (All.cons (by passes_own) (All.cons (by passes_own) All.nil))
    · rintro C i σ' hi ⟨tv, fx, fr, hfx, rfl⟩
      refine ⟨hfx, hi, fun u => ⟨_, by one_sign, ?_⟩⟩
      have hi' : i < ys.length := by rw [rrs_len] at hi; exact hi
      rw [rrs_at hi]
      with_reducible refine T_tests_nil ?_
      refine ⟨fun _ => ?_, nofun⟩
      refine T_wk (Wk.of (fx' := [(u, D.nums (rr w n ys[i])), (vf, D.rows (rrs w n ys))]) (fr' := []) (by kernel_rfl) (.cons (.head _) (.cons (.tail _ hfx) .nil)) .nil) ?_
      top_args
      with_reducible refine T_pn (con_rshift wd hw hw9 hn0 hn) hA (rd1 (by pv_eval)) ?_
      intro u2
      top_args
      with_reducible refine T_addRow (by passes_own) (by leaf_len) (by rw [rrs_len, List.length_take]; (first | lia | omega)) ?_
      have es := rrs_snoc (w := w) (n := n) (zs := ys.map fun z => z * 2 ^ ((-lessOf zs.length % (2 * n)).toNat)) (k := i) (by rw [hyl]; exact hi')
      rw [List.getElem_map] at es
      rw [es]
      exact ⟨_, _, _, by passes_own, rfl⟩
    · rintro σ' ⟨tv, fx, fr, hfx, rfl⟩
      refine ⟨[("one", tv)], [], [], _, Wk.of (by kernel_rfl) .nil .nil, rfl, ?_⟩
      rw [rrs_len, List.take_of_length_le (by rw [hyl]; exact Nat.le_refl _)]
      top_args
      refine ⟨acc, rfl, ?_⟩
      rw [bwd, ew]
      exact .fx (.head _)
theorem con_conv (wd : World) {v1 v2 : Value} {tn tw : Tok} {w n : Nat} {xs ys : List Int} (hw : 0 < w) (hw9 : w ≤ 30) (hn0 : 0 < n) (hn : n ≤ 16) (hm : Many xs.length) (hl : xs.length = ys.length) :
    Pure wd 9 161 [v1, v2, .int n tn, .int w tw, .ref 180] [(v1, .rows (rrs w n xs)), (v2, .rows (rrs w n ys))] (.rows (rrs w n (conv n xs ys))) := by
  refine Pure.mk' (m := [("one", .v v1), ("other", .v v2), ("n", .i n), ("w", .i w), ("mul", .v (.ref 180)), ("left", .un), ("right", .un)]) (by rfl) (by kernel_rfl) (by rfl) (by kernel_rfl) (by decide +kernel) (by kernel_rfl) (.cons rfl (.cons rfl (.cons ⟨_, rfl⟩ (.cons ⟨_, rfl⟩ (.cons rfl (.nil rfl)))))) (by kernel_rfl) ?_
  intro A L hA
  have hlx : (fwd n xs).length = xs.length := fwd_len
  have hly : (fwd n ys).length = xs.length := fwd_len.trans hl.symm
  top_args
  with_reducible refine T_pr (con_forward wd hw hw9 hn0 hn hm) hA (rd1 (by pv_eval)) ?_
  intro u1
  top_args
  with_reducible refine T_pr (con_forward wd hw hw9 hn0 hn (by rw [← hl]; exact hm)) hA (rd1 (by pv_eval)) ?_
  intro u2
  top_args
  have hzl : (List.zipWith (· * ·) (fwd n xs) (fwd n ys) : List Int).length = xs.length := (zip_len (hlx.trans hly.symm)).trans hlx
  have hm4 : xs.length ≤ 4 := hm.le.2
  refine T_comp [("a", .un), ("b", .un)] [("w", .i w), ("n", .i n), ("mul", .v (.ref 180))] (.rows []) (opens_zip hA.h ?_)
  top_args
  refine ⟨rrs w n (fwd n xs), rrs w n (fwd n ys), by passes_own, by passes_own, ?_, fun acc => ⟨fun i σ => ∃ t1 t2 fx fr, (u1, D.rows (rrs w n (fwd n xs))) ∈ fx ∧ (u2, D.rows (rrs w n (fwd n ys))) ∈ fx ∧ σ = ⟨[("a", t1), ("b", t2), ("w", .i w), ("n", .i n), ("mul", .v (.ref 180))], fx, fr, [(acc, .rows (rrs w n ((List.zipWith (· * ·) (fwd n xs) (fwd n ys) : List Int).take i)))]⟩,
    ⟨_, _, _, _, List.Mem.tail _ (List.Mem.head _), List.Mem.head _, rfl⟩, ?_, ?_⟩⟩
  · exact All.cons (by passes_own) (All.cons (by passes_own) (All.cons (by passes_own) All.nil))
  · rintro C i σ' hi ⟨t1, t2, fx, fr, hfx, hfx2, rfl⟩
    have h1 : i < (rrs w n (fwd n xs)).length := by (first | lia | omega)
    have h2 : i < (rrs w n (fwd n ys)).length := by (first | lia | omega)
    refine ⟨hfx, hfx2, h1, h2, fun u u' => ⟨_, _, by one_sign, by one_sign, ?_⟩⟩
    rw [rrs_at h1, rrs_at h2]
    rw [rrs_len] at h1 h2
    with_reducible refine T_tests_nil ?_
    refine ⟨fun _ => ?_, nofun⟩
    refine T_wk (Wk.of (fx' := [(u, D.nums (rr w n (fwd n xs)[i])), (u', D.nums (rr w n (fwd n ys)[i])), (u1, D.rows (rrs w n (fwd n xs))), (u2, D.rows (rrs w n (fwd n ys)))]) (fr' := []) (by kernel_rfl) (.cons (.head _) (.cons (.tail _ (.head _)) (.cons (.tail _ (.tail _ hfx)) (.cons (.tail _ (.tail _ hfx2)) .nil)))) .nil) ?_
    top_args
    with_reducible refine T_pn (con_rmul wd hw hw9 hn0 hn) (hA.le (by (first | lia | omega))) (rd2 (by pv_eval) (by pv_eval)) ?_
    intro u3
    top_args
    with_reducible refine T_addRow (by passes_own) (by leaf_len) (by rw [rrs_len, List.length_take]; (first | lia | omega)) ?_
    have es := rrs_snoc (w := w) (n := n) (zs := (List.zipWith (· * ·) (fwd n xs) (fwd n ys) : List Int)) (k := i) (by (first | lia | omega))
    rw [List.getElem_zipWith] at es
    rw [es]
    exact ⟨_, _, _, _, by passes_own, by passes_own, rfl⟩
  · rintro σ' ⟨t1, t2, fx, fr, hfx, hfx2, rfl⟩
    refine ⟨[("a", t1), ("b", t2)], [], [], _, Wk.of (by kernel_rfl) .nil .nil, rfl, ?_⟩
    rw [rrs_len, rrs_len, List.take_of_length_le (by (first | lia | omega))]
    top_args
    with_reducible refine T_pr (con_backward wd hw hw9 hn0 hn (by rw [hzl]; exact hm)) hA (rd1 (by pv_eval)) ?_
    intro u4
    exact ⟨u4, rfl, .fx (.head _)⟩
theorem con_weighted (wd : World) {vr : Value} {ts tn tw : Tok} {w n : Nat} {step : Int} {zs : List Int} (hw : 0 < w) (hw9 : w ≤ 30) (hn0 : 0 < n) (hn : n ≤ 16) (hm : Many zs.length) :
    Pure wd 8 166 [vr, .int step ts, .int n tn, .int w tw] [(vr, .rows (rrs w n zs))] (.rows (rrs w n (wt n step zs))) := by
  refine Pure.mk' (m := [("row", .v vr), ("step", .i step), ("n", .i n), ("w", .i w)]) (by rfl) (by kernel_rfl) (by rfl) (by kernel_rfl) (by decide +kernel) (by kernel_rfl) (.cons rfl (.cons ⟨_, rfl⟩ (.cons ⟨_, rfl⟩ (.cons ⟨_, rfl⟩ (.nil rfl))))) (by kernel_rfl) ?_
  intro A L hA
  have hm4 : zs.length ≤ 4 := hm.le.2
  top_args
  refine T_comp [("at", .un), ("one", .un)] [("w", .i w), ("step", .i step), ("n", .i n)] (.rows []) (opens_enumR hA.h ?_)
  top_args
  refine ⟨rrs w n zs, by passes_own, ?_, fun acc => ⟨fun i σ => ∃ t1 t2 fx fr, (vr, D.rows (rrs w n zs)) ∈ fx ∧ σ = ⟨[("at", t1), ("one", t2), ("w", .i w), ("step", .i step), ("n", .i n)], fx, fr, [(acc, .rows (rrs w n ((wt n step zs).take i)))]⟩,
    ⟨_, _, _, _, List.Mem.head _, rfl⟩, ?_, ?_⟩⟩
  · exact All.cons (by passes_own) (All.cons (by passes_own) (All.cons (by passes_own) All.nil))
  · rintro C i σ' hi ⟨t1, t2, fx, fr, hfx, rfl⟩
    refine ⟨hfx, hi, fun u => ⟨_, _, by one_sign, by one_sign, ?_⟩⟩
    rw [rrs_at hi]
    rw [rrs_len] at hi
    with_reducible refine T_tests_nil ?_
    refine ⟨fun _ => ?_, nofun⟩
    refine T_wk (Wk.of (fx' := [(u, D.nums (rr w n zs[i])), (vr, D.rows (rrs w n zs))]) (fr' := []) (by kernel_rfl) (.cons (.head _) (.cons (.tail _ hfx) .nil)) .nil) ?_
    top_args
    with_reducible refine T_mul ?_ (.of_right (intBits_le_64 (by (first | lia | omega)) (by (first | lia | omega))))
    intro _
    top_args
    with_reducible refine T_pn (con_rshift wd hw hw9 hn0 hn) hA (rd1 (by pv_eval)) ?_
    intro u3
    top_args
    with_reducible refine T_addRow (by passes_own) (by leaf_len) (by rw [rrs_len, List.length_take]; (first | lia | omega)) ?_
    have es := rrs_snoc (w := w) (n := n) (zs := wt n step zs) (k := i) (by rw [wt_len]; exact hi)
    rw [wt_at hi] at es
    rw [es]
    exact ⟨_, _, _, _, by passes_own, rfl⟩
  · rintro σ' ⟨t1, t2, fx, fr, hfx, rfl⟩
    refine ⟨[("at", t1), ("one", t2)], [], [], _, Wk.of (by kernel_rfl) .nil .nil, rfl, ?_⟩
    rw [rrs_len, List.take_of_length_le (by rw [wt_len]; exact Nat.le_refl _)]
    top_args
    exact ⟨acc, rfl, .fx (.head _)⟩
theorem con_convM (wd : World) {v1 v2 : Value} {tn tw : Tok} {w n : Nat} {xs ys : List Int} (hw : 0 < w) (hw9 : w ≤ 30) (hn0 : 0 < n) (hn : n ≤ 16) (hm : Many xs.length) (hl : xs.length = ys.length) :
    Pure wd 10 173 [v1, v2, .int n tn, .int w tw, .ref 180] [(v1, .rows (rrs w n xs)), (v2, .rows (rrs w n ys))] (.rows (rrs w n (convM n xs ys))) := by
  refine Pure.mk' (m := [("one", .v v1), ("other", .v v2), ("n", .i n), ("w", .i w), ("mul", .v (.ref 180)), ("step", .un), ("found", .un)]) (by rfl) (by kernel_rfl) (by rfl) (by kernel_rfl) (by decide +kernel) (by kernel_rfl) (.cons rfl (.cons rfl (.cons ⟨_, rfl⟩ (.cons ⟨_, rfl⟩ (.cons rfl (.nil rfl)))))) (by kernel_rfl) ?_
  intro A L hA
  have hm0 : 0 < xs.length := hm.le.1
  have hm4 : xs.length ≤ 4 := hm.le.2
  top_args
  with_reducible refine T_lenR (by pv_eval) rrs_len (by (first | lia | omega)) ?_
  intro _
  top_args
  with_reducible refine T_floordivN (c := n / xs.length) rfl (by (first | lia | omega)) (by (first | lia | omega)) ?_
  intro _
  top_args
  with_reducible refine T_pr (con_weighted wd hw hw9 hn0 hn hm) (hA.le (by (first | lia | omega))) (rd1 (by pv_eval)) ?_
  intro u1
  top_args
  with_reducible refine T_pr (con_weighted wd hw hw9 hn0 hn (by rw [← hl]; exact hm)) (hA.le (by (first | lia | omega))) (rd1 (by pv_eval)) ?_
  intro u2
  top_args
  have h1 : (wt n ((n / xs.length : Nat) : Int) xs).length = xs.length := wt_len
  have h2 : (wt n ((n / xs.length : Nat) : Int) ys).length = xs.length := wt_len.trans hl.symm
  have h3 : (conv n (wt n ((n / xs.length : Nat) : Int) xs) (wt n ((n / xs.length : Nat) : Int) ys)).length = xs.length := (conv_len (h1.trans h2.symm)).trans h1
  with_reducible refine T_pr (con_conv wd (xs := wt n ((n / xs.length : Nat) : Int) xs) (ys := wt n ((n / xs.length : Nat) : Int) ys) hw hw9 hn0 hn (by rw [h1]; exact hm) (h1.trans h2.symm)) hA (rd2 (by pv_eval) (by pv_eval)) ?_
  intro u3
  top_args
  with_reducible refine T_pr (con_weighted wd (zs := conv n (wt n ((n / xs.length : Nat) : Int) xs) (wt n ((n / xs.length : Nat) : Int) ys)) hw hw9 hn0 hn (by rw [h3]; exact hm)) (hA.le (by (first | lia | omega))) (rd1 (by pv_eval)) ?_
  intro u4
  exact ⟨u4, rfl, .fx (.head _)⟩
theorem con_take (wd : World) {dl v0 : Value} {tm : Tok} {ns : List Int} {many : Int} (hm : 0 < many) :
    DealC wd 1 192 [dl, .int many tm] dl v0 ns [] (IntIn 0 many) := by
  refine DealC.mk' (m := [("deal", .v dl), ("many", .i many)]) (by rfl) (by kernel_rfl) (by rfl) (by kernel_rfl) (by decide +kernel) (by kernel_rfl) (.cons rfl (.cons ⟨_, rfl⟩ (.nil rfl))) (by kernel_rfl) ?_
  intro A L i sd hA
  top_args
  with_reducible refine T_deal1 (by passes_own) ?_
  intro _ h0 h1 h2
  top_args
  with_reducible refine T_deal0 (by passes_own) ?_
  top_args
  have hl : ns.length < 2 ^ 62 := by (first | lia | omega)
  top_args
  regstrif_gather
  · rename_i hb
    top_args
    with_reducible refine T_deal1 (by passes_own) ?_
    intro _ _ _ _
    top_args
    with_reducible refine T_dset1 (by leaf_len) (by (first | lia | omega)) (by (first | lia | omega)) ?_
    top_args
    with_reducible refine T_deal0 (by passes_own) ?_
    top_args
    with_reducible refine T_deal1 (by passes_own) ?_
    intro _ _ _ _
    top_args
    have e : (i + 1 - 1).toNat = i.toNat := by (first | lia | omega)
    have hi : i.toNat < ns.length := by (first | lia | omega)
    with_reducible refine T_item (x := ns[i.toNat]) (by pv_eval) (by (first | lia | omega)) (by (first | lia | omega)) (by rw [e]; exact List.getElem?_eq_getElem hi) ?_
    intro _
    top_args
    with_reducible refine T_mod hm ?_
    intro _
    top_args
    exact ⟨_, rfl, ⟨_, _, rfl, emod_in hm⟩, _, _, .head _⟩
  · rename_i hb
    top_args
    with_reducible refine T_deal2 (by passes_own) ?_
    intro _ h3 h4
    top_args
    with_reducible refine T_mul ?_ (mulok_small (by (first | lia | omega)) (by (first | lia | omega)))
    intro _
    top_args
    with_reducible refine T_mod (by decide) ?_
    intro _
    top_args
    have h5 := emod_in (a := sd * 48271 + 7919) (b := 2147483647) (by decide)
    with_reducible refine T_dset2 (by leaf_len) h5.1 h5.2 ?_
    top_args
    with_reducible refine T_deal2 (by passes_own) ?_
    intro _ _ _
    top_args
    with_reducible refine T_floordiv (by decide) (by decide) ?_
    intro _
    top_args
    with_reducible refine T_mod hm ?_
    intro _
    top_args
    exact ⟨_, rfl, ⟨_, _, rfl, emod_in hm⟩, _, _, .head _⟩
theorem con_great (wd : World) {dl v0 : Value} {tm : Tok} {ns : List Int} {size : Nat} (hs : size ≤ 100) :
    DealC wd 2 199 [dl, .int size tm] dl v0 ns [] (IntIn 0 (2 ^ size)) := by
  refine DealC.mk' (m := [("deal", .v dl), ("size", .i size), ("kind", .un), ("found", .un), ("turn", .un)]) (by rfl) (by kernel_rfl) (by rfl) (by kernel_rfl) (by decide +kernel) (by kernel_rfl) (.cons rfl (.cons ⟨_, rfl⟩ (.nil rfl))) (by kernel_rfl) ?_
  intro A L i sd hA
  have hp := two_pow_pos size
  top_args
  with_reducible refine T_dc (con_take wd (by decide)) hA All.nil ?_
  rintro v i1 sd1 ⟨kd, t, rfl, hk0, hk1⟩
  top_args
  regstrif_gather
  · rename_i hb
    top_args
    with_reducible refine T_pow2E (c := 2 ^ size) (by (first | lia | omega)) (by (first | lia | omega)) (by rw [Int.toNat_natCast]) ?_
    intro _
    top_args
    with_reducible refine T_pow2E (c := 2 ^ size) (by (first | lia | omega)) (by (first | lia | omega)) (by rw [Int.toNat_natCast]) ?_
    intro _
    top_args
    with_reducible refine T_floordiv (by decide) (by decide) ?_
    intro _
    top_args
    with_reducible refine T_newNums (ns := [2 ^ size - 1, 2 ^ size / 2]) (.cons _ _ (.cons _ _ .nil)) (Nat.le_of_ble_eq_true rfl) ?_
    intro vl
    top_args
    by_cases hk : kd = 0
    · subst hk
      with_reducible refine T_item (x := 2 ^ size - 1) (by pv_eval) (by decide) (by decide) (by simp) ?_
      intro _
      top_args
      exact ⟨_, rfl, ⟨_, _, rfl, by (first | lia | omega), by (first | lia | omega)⟩, _, _, .head _⟩
    · have : kd = 1 := by (first | lia | omega)
      subst this
      with_reducible refine T_item (x := 2 ^ size / 2) (by pv_eval) (by decide) (by decide) (by simp) ?_
      intro _
      top_args
      exact ⟨_, rfl, ⟨_, _, rfl, by (first | lia | omega), by (first | lia | omega)⟩, _, _, .head _⟩
  · rename_i hb
    top_args
    with_reducible refine T_For_any (opens_range hA.h ?_)
    top_args
    with_reducible refine T_floordivE (c := ((size / 16 : Nat) : Int)) (by push_cast; rfl) (by decide) (by decide) ?_
    intro _
    top_args
    rename_i r
    rw [show ((size / 16 : Nat) : Int) + 1 = ((size / 16 + 1 : Nat) : Int) from rfl]
    refine ⟨_, _, _, .head _, (range_0 (by (first | lia | omega))).1, _, (range_0 (by (first | lia | omega))).2, fun j σ => ∃ f tv fx fr i sd, σ = ⟨[("deal", .v dl), ("size", .i size), ("kind", .i kd), ("found", .i f), ("turn", tv)], fx, fr, [(dl, .deal v0 ns i sd)]⟩,
      ⟨_, _, _, _, _, _, rfl⟩, ?_, ?_⟩
    · rintro j σ' hj ⟨f, tv, fx, fr, i2, sd2, rfl⟩
      refine ⟨_, by one_sign, ?_⟩
      top_args
      with_reducible refine T_mul ?_ (.of_right (intBits_le_64 (by decide) (by decide)))
      intro _
      top_args
      with_reducible refine T_dc (con_take wd (by decide)) hA All.nil ?_
      rintro v i3 sd3 ⟨kd3, t3, rfl, hk30, hk31⟩
      top_args
      exact ⟨_, _, _, _, _, _, rfl⟩
    · rintro σ' ⟨f, tv, fx, fr, i2, sd2, rfl⟩
      top_args
      with_reducible refine T_pow2E (c := 2 ^ size) (by (first | lia | omega)) (by (first | lia | omega)) (by rw [Int.toNat_natCast]) ?_
      intro _
      top_args
      with_reducible refine T_mod hp ?_
      intro _
      top_args
      exact ⟨_, rfl, ⟨_, _, rfl, emod_in hp⟩, _, _, .head _⟩
theorem con_element (wd : World) {dl v0 : Value} {tm : Tok} {ns : List Int} {n : Nat} (hn : n ≤ 100) :
    DealC wd 3 218 [dl, .int n tm] dl v0 ns [] (IntIn 0 (2 ^ n + 1)) := by
  refine DealC.mk' (m := [("deal", .v dl), ("n", .i n), ("at", .un)]) (by rfl) (by kernel_rfl) (by rfl) (by kernel_rfl) (by decide +kernel) (by kernel_rfl) (.cons rfl (.cons ⟨_, rfl⟩ (.nil rfl))) (by kernel_rfl) ?_
  intro A L i sd hA
  have hp := two_pow_pos n
  top_args
  with_reducible refine T_dc (con_take wd (by decide)) (hA.le (by (first | lia | omega))) All.nil ?_
  rintro v i1 sd1 ⟨kd, t, rfl, hk0, hk1⟩
  top_args
  regstrif_gather
  · rename_i hb
    top_args
    with_reducible refine T_pow2E (c := 2 ^ n) (by (first | lia | omega)) (by (first | lia | omega)) (by rw [Int.toNat_natCast]) ?_
    intro _
    top_args
    with_reducible refine T_newNums (ns := [2 ^ n, 0, 1]) (.cons _ _ (.cons _ _ (.cons _ _ .nil))) (Nat.le_of_ble_eq_true rfl) ?_
    intro vl
    top_args
    by_cases hk : kd = 0
    · subst hk
      with_reducible refine T_item (x := 2 ^ n) (by pv_eval) (by decide) (by decide) (by simp) ?_
      intro _
      top_args
      exact ⟨_, rfl, ⟨_, _, rfl, by (first | lia | omega), by (first | lia | omega)⟩, _, _, .head _⟩
    · by_cases hk : kd = 1
      · subst hk
        with_reducible refine T_item (x := 0) (by pv_eval) (by decide) (by decide) (by simp) ?_
        intro _
        top_args
        exact ⟨_, rfl, ⟨_, _, rfl, by (first | lia | omega), by (first | lia | omega)⟩, _, _, .head _⟩
      · have : kd = 2 := by (first | lia | omega)
        subst this
        with_reducible refine T_item (x := 1) (by pv_eval) (by decide) (by decide) (by simp) ?_
        intro _
        top_args
        exact ⟨_, rfl, ⟨_, _, rfl, by (first | lia | omega), by (first | lia | omega)⟩, _, _, .head _⟩
  · rename_i hb
    top_args
    with_reducible refine T_dc (con_great wd hn) hA All.nil ?_
    rintro v i3 sd3 ⟨r, t3, rfl, h30, h31⟩
    exact ⟨_, rfl, ⟨_, _, rfl, by (first | lia | omega), by (first | lia | omega)⟩, _, _, .head _⟩
theorem con_row (wd : World) {tx tw : Tok} {w x : Nat} (hw : 0 < w) (hw9 : w ≤ 16) (hx : x < 2 ^ 64) :
    Pure wd 1 206 [.int x tx, .int w tw] [] (.nums (row w x)) := by
  refine Pure.mk' (m := [("number", .i x), ("w", .i w), ("found", .un)]) (by rfl) (by kernel_rfl) (by rfl) (by kernel_rfl) (by decide +kernel) (by kernel_rfl) (.cons ⟨_, rfl⟩ (.cons ⟨_, rfl⟩ (.nil rfl))) (by kernel_rfl) ?_
  intro A L hA
  have lx := len64 hw hx
  have hlt : (2 : Int) ^ w ≤ 2 ^ 16 := by exact_mod_cast Nat.pow_le_pow_right (by decide) hw9
  have hp := two_pow_pos w
  have h1 : 1 < 2 ^ w := Nat.one_lt_two_pow (by (first | lia | omega))
  top_args
  with_reducible refine T_newApp (ns := []) .nil (by decide) ?_
  intro vf
  top_args
  refine T_While (fun z σ => ∃ fs, fs ++ row w z = row w x ∧ σ = ⟨[("number", .i z), ("w", .i w), ("found", .v vf)], [], [], [(vf, .app fs)]⟩) x ⟨[], rfl, rfl⟩ ?_
  rintro z σ' ⟨fs, he, rfl⟩
  top_args
  regstrif_gather
  · rename_i hb
    have hz : 0 < z := by (first | lia | omega)
    have hl : fs.length ≤ 64 := by
      have := congrArg List.length he
      rw [List.length_append] at this
      (first | lia | omega)
    top_args
    with_reducible refine T_pow2E (c := 2 ^ w) (by (first | lia | omega)) (by (first | lia | omega)) (by rw [Int.toNat_natCast]) ?_
    intro _
    top_args
    with_reducible refine T_modE (c := ((z % 2 ^ w : Nat) : Int)) (by push_cast; rfl) hp ?_
    intro _
    top_args
    none_booked
    · top_args
      with_reducible refine T_pow2E (c := 2 ^ w) (by (first | lia | omega)) (by (first | lia | omega)) (by rw [Int.toNat_natCast]) ?_
      intro _
      top_args
      with_reducible refine T_floordivE (c := ((z / 2 ^ w : Nat) : Int)) (by push_cast; rfl) hp (by (first | lia | omega)) ?_
      intro _
      top_args
      refine ⟨z / 2 ^ w, Nat.div_lt_self hz h1, fs ++ [((z % 2 ^ w : Nat) : Int)], ?_, rfl⟩
      rw [← he, row_pos hw hz, List.append_assoc]
      rfl
    · (first | lia | omega)
  · rename_i hb
    have hz : z = 0 := by (first | lia | omega)
    subst hz
    rw [row_zero, List.append_nil] at he
    top_args
    exact ⟨vf, rfl, by rw [← he]; pv_eval, .inr (.head _)⟩
theorem con_value (wd : World) {vr : Value} {tw : Tok} {w x : Nat} (hw : 0 < w) (hw9 : w ≤ 16) (hx : x < 2 ^ 64) :
    Pure wd 8 211 [vr, .int w tw] [(vr, .nums (row w x))] (.i x) := by
  refine Pure.mk' (m := [("row", .v vr), ("w", .i w), ("found", .un), ("limb", .un)]) (by rfl) (by kernel_rfl) (by rfl) (by kernel_rfl) (by decide +kernel) (by kernel_rfl) (.cons rfl (.cons ⟨_, rfl⟩ (.nil rfl))) (by kernel_rfl) ?_
  intro A L hA
  have lx := len64 hw hx
  have hlt : (2 : Int) ^ w ≤ 2 ^ 16 := by exact_mod_cast Nat.pow_le_pow_right (by decide) hw9
  have hu : A.units + 64 < cLine := by have := hA.u; (first | lia | omega)
  -- the test that all is well
  refine T_cut (fun σ => σ = ⟨[("row", .v vr), ("w", .i w), ("found", .un), ("limb", .un)], [(vr, .nums (row w x))], [], []⟩) ?_ ?_
  · top_args
    refine T_comp [("limb", .un)] [("w", .i w)] (.nums []) (opens_nums hA.h ?_)
    top_args
    refine ⟨row w x, by passes_own, All.cons (by passes_own) All.nil, fun acc => ⟨fun i σ => ∃ tv fx fr, (vr, D.nums (row w x)) ∈ fx ∧ σ = ⟨[("limb", tv), ("w", .i w)], fx, fr, [(acc, .nums [])]⟩, ⟨_, _, _, List.Mem.head _, rfl⟩, ?_, ?_⟩⟩
    · rintro C i σ' hi ⟨tv, fx, fr, hfx, rfl⟩
      refine ⟨hi, _, by one_sign, ?_⟩
      have hd := getElem_dig (dig_row hw x) hi
      with_reducible refine T_tests_one ?_
      top_args
      refine ⟨fun _ => ?_, fun h => absurd hd.1 (of_decide_eq_false h)⟩
      top_args
      with_reducible refine T_pow2E (c := 2 ^ w) (by (first | lia | omega)) (by (first | lia | omega)) (by rw [Int.toNat_natCast]) ?_
      intro _
      top_args
      rw [decide_eq_true hd.2]
      refine ⟨nofun, fun _ => ⟨_, _, _, hfx, rfl⟩⟩
    · rintro σ' ⟨tv, fx, fr, hfx, rfl⟩
      refine ⟨[("limb", tv)], [(vr, .nums (row w x))], [], _, Wk.of (by kernel_rfl) (All.cons hfx All.nil) All.nil, rfl, ?_⟩
      top_args
      with_reducible refine T_nn (ns := []) .nil (by decide) ?_
      intro v1
      top_args
      with_reducible refine T_neNums (ns := []) (ms := []) (by pv_eval) (by pv_eval) hu ?_
      top_args
      refine ⟨fun _ => ?_, nofun⟩
      top_args
      with_reducible refine T_nn (ns := []) .nil (by decide) ?_
      intro v2
      top_args
      with_reducible refine T_neNums (ns := row w x) (ms := []) (by pv_eval) (by pv_eval) hu ?_
      top_args
      refine ⟨fun h => ?_, fun _ => ?_⟩
      · have hne : row w x ≠ [] := by
          intro q
          rw [q] at h
          exact absurd h (by decide)
        obtain ⟨ns, l, e⟩ : ∃ ns l, row w x = ns ++ [l] := ⟨_, _, (List.dropLast_concat_getLast hne).symm⟩
        have hl0 : l ≠ 0 := row_last (x := x) hw l (by rw [e]; simp)
        top_args
        with_reducible refine T_itemLast (ns := ns) (x := l) (by rw [← e]; pv_eval) ?_
        intro _
        top_args
        rw [decide_eq_false hl0]
        refine ⟨nofun, fun _ => ⟨fun _ => ?_, nofun⟩⟩
        top_args
        refine ⟨nofun, fun _ => ?_⟩
        top_args
        refine ⟨rfl, _, ?_, rfl⟩
        exact ⟨fun _ h => .inr h, nodupB_iff (by kernel_rfl), All.cons (by passes_own) All.nil, rfl, All.nil⟩
      · refine ⟨fun _ => ?_, nofun⟩
        top_args
        refine ⟨nofun, fun _ => ?_⟩
        top_args
        refine ⟨rfl, _, ?_, rfl⟩
        exact ⟨fun _ h => .inr h, nodupB_iff (by kernel_rfl), All.cons (by passes_own) All.nil, rfl, All.nil⟩
  · rintro σ rfl
    top_args
    with_reducible refine T_For_any (opens_nums hA.h ?_)
    top_args
    with_reducible refine T_revSlice ?_
    top_args
    refine ⟨row w x, _, rfl, by pv_eval, by (first | lia | omega), fun v => ⟨(row w x).reverse, by passes_own, fun i σ => ∃ f tv fx fr, f = val w ((row w x).drop ((row w x).length - i)) ∧ σ = ⟨[("row", .v vr), ("w", .i w), ("found", .i f), ("limb", tv)], fx, fr, []⟩, ⟨_, _, _, _, by rw [Nat.sub_zero, List.drop_length]; rfl, rfl⟩, ?_, ?_⟩⟩
    · rintro i σ' hi ⟨f, tv, fx, fr, hf, rfl⟩
      rw [List.length_reverse] at hi
      refine ⟨by rw [List.length_reverse]; exact hi, _, by one_sign, ?_⟩
      have hk : (row w x).length - 1 - i < (row w x).length := by (first | lia | omega)
      have e1 : (row w x).reverse[i]'(by rw [List.length_reverse]; exact hi) = (row w x)[(row w x).length - 1 - i] := by rw [List.getElem_reverse]
      rw [e1]
      top_args
      with_reducible refine T_pow2E (c := 2 ^ w) (by (first | lia | omega)) (by (first | lia | omega)) (by rw [Int.toNat_natCast]) ?_
      intro _
      top_args
      with_reducible refine T_mul ?_ (.of_right (intBits_le_64 (by have := two_pow_pos w; (first | lia | omega)) (by (first | lia | omega))))
      intro _
      top_args
      refine ⟨_, _, _, _, ?_, rfl⟩
      have e2 : (row w x).length - (i + 1) = (row w x).length - 1 - i := by (first | lia | omega)
      have e3 : (row w x).length - 1 - i + 1 = (row w x).length - i := by (first | lia | omega)
      rw [e2, val_drop_step hk, e3, hf, Int.mul_comm, Int.add_comm]
    · rintro σ' ⟨f, tv, fx, fr, hf, rfl⟩
      rw [List.length_reverse, Nat.sub_self, List.drop_zero, val_row hw] at hf
      top_args
      exact ⟨_, rfl, _, by rw [hf]⟩
theorem con_same (wd : World) {v1 v2 : Value} {tw : Tok} {w : Nat} {us : List Nat} {zs : List Int} (hw : 0 < w) (hw9 : w ≤ 16) (hu : ∀ u ∈ us, u < 2 ^ 64) (hl : us.length ≤ 100) :
    Pure wd 9 223 [v1, v2, .int w tw] [(v1, .rows (us.map (row w))), (v2, .nums zs)] (.b (decide (natZ us = zs))) := by
  refine Pure.mk' (m := [("rows", .v v1), ("numbers", .v v2), ("w", .i w)]) (by rfl) (by kernel_rfl) (by rfl) (by kernel_rfl) (by decide +kernel) (by kernel_rfl) (.cons rfl (.cons rfl (.cons ⟨_, rfl⟩ (.nil rfl)))) (by kernel_rfl) ?_
  intro A L hA
  have hun : A.units + 64 < cLine := by have := hA.u; (first | lia | omega)
  top_args
  refine T_comp [("row", .un)] [("w", .i w)] (.nums []) (opens_rows hA.h ?_)
  top_args
  refine ⟨us.map (row w), by passes_own, All.cons (by passes_own) All.nil, fun acc => ⟨fun i σ => ∃ tv fx fr, (v1, D.rows (us.map (row w))) ∈ fx ∧ (v2, D.nums zs) ∈ fx ∧ σ = ⟨[("row", tv), ("w", .i w)], fx, fr, [(acc, .nums ((natZ us).take i))]⟩, ⟨_, _, _, List.Mem.head _, List.Mem.tail _ (List.Mem.head _), rfl⟩, ?_, ?_⟩⟩
  · rintro C i σ' hi ⟨tv, fx, fr, hfx, hfx2, rfl⟩
    refine ⟨hfx, hi, fun u => ⟨_, by one_sign, ?_⟩⟩
    have hi' : i < us.length := by rw [List.length_map] at hi; exact hi
    rw [List.getElem_map]
    with_reducible refine T_tests_nil ?_
    refine ⟨fun _ => ?_, nofun⟩
    refine T_wk (Wk.of (fx' := [(u, D.nums (row w us[i])), (v1, D.rows (us.map (row w))), (v2, D.nums zs)]) (fr' := []) (by kernel_rfl) (.cons (.head _) (.cons (.tail _ hfx) (.cons (.tail _ hfx2) .nil))) .nil) ?_
    top_args
    with_reducible refine T_pure_i (con_value wd hw hw9 (hu _ (List.getElem_mem hi'))) hA (rd1 (by pv_eval)) ?_
    intro _
    top_args
    with_reducible refine T_addNum (by leaf_len) (by rw [List.length_take]; (first | lia | omega)) ?_
    dsimp only
    rw [natZ_snoc hi']
    exact ⟨_, _, _, by passes_own, by passes_own, rfl⟩
  · rintro σ' ⟨tv, fx, fr, hfx, hfx2, rfl⟩
    refine ⟨[("row", tv)], [(v2, .nums zs)], [], _, Wk.of (by kernel_rfl) (All.cons hfx2 All.nil) All.nil, rfl, ?_⟩
    rw [List.length_map, List.take_of_length_le (by rw [natZ_len]; exact Nat.le_refl _)]
    top_args
    with_reducible refine T_eqNums (ns := natZ us) (ms := zs) (by pv_eval) (by pv_eval) hun ?_
    exact ⟨_, rfl, rfl⟩
theorem con_turned (wd : World) {tn tm : Tok} {number many : Nat} :
    Pure wd 1 237 [.int number tn, .int many tm] [] (.i (turnF many 0 number)) := by
  refine Pure.mk' (m := [("number", .i number), ("many", .i many), ("found", .un)]) (by rfl) (by kernel_rfl) (by rfl) (by kernel_rfl) (by decide +kernel) (by kernel_rfl) (.cons ⟨_, rfl⟩ (.cons ⟨_, rfl⟩ (.nil rfl))) (by kernel_rfl) ?_
  intro A L hA
  top_args
  refine T_While (fun m σ => ∃ f x : Nat, turnF m f x = turnF many 0 number ∧ σ = ⟨[("number", .i x), ("many", .i m), ("found", .i f)], [], [], []⟩) many ⟨0, number, rfl, rfl⟩ ?_
  rintro m σ' ⟨f, x, he, rfl⟩
  top_args
  regstrif_gather
  · rename_i hb
    top_args
    with_reducible refine T_mul ?_ (mulok_small (by decide) (by decide))
    intro _
    top_args
    with_reducible refine T_modE (c := ((x % 2 : Nat) : Int)) (by (first | lia | omega)) (by decide) ?_
    intro _
    top_args
    with_reducible refine T_floordivE (c := ((x / 2 : Nat) : Int)) (by (first | lia | omega)) (by decide) (by decide) ?_
    intro _
    top_args
    with_reducible refine T_floordivE (c := ((m / 2 : Nat) : Int)) (by (first | lia | omega)) (by decide) (by decide) ?_
    intro _
    top_args
    rw [show (2 : Int) * f + ((x % 2 : Nat) : Int) = ((2 * f + x % 2 : Nat) : Int) by push_cast; rfl]
    exact ⟨m / 2, by (first | lia | omega), 2 * f + x % 2, x / 2, by rw [← he, turnF.eq_def m, dif_neg (by (first | lia | omega))], rfl⟩
  · rename_i hb
    top_args
    rw [turnF, dif_pos (by (first | lia | omega))] at he
    exact ⟨_, rfl, _, by rw [he]⟩
theorem con_sums (wd : World) {dl v0 : Value} {ta tb tn tw : Tok} {ns : List Int} {a b n w : Nat} (hw : 0 < w) (hw9 : w ≤ 16) (hn0 : 0 < n) (hn : n ≤ 12) (ha : a < md n) (hb : b < md n) :
    DealC wd 11 230 [dl, .int a ta, .int b tb, .int n tn, .int w tw] dl v0 ns [] (fun v => v = .bool true) := by
  refine DealC.mk' (m := [("deal", .v dl), ("a", .i a), ("b", .i b), ("n", .i n), ("w", .i w), ("one", .un), ("other", .un), ("modulus", .un), ("k", .un), ("long", .un), ("told", .un), ("by", .un), ("due", .un)]) (by rfl) (by kernel_rfl) (by rfl) (by kernel_rfl) (by decide +kernel) (by kernel_rfl) (.cons rfl (.cons ⟨_, rfl⟩ (.cons ⟨_, rfl⟩ (.cons ⟨_, rfl⟩ (.cons ⟨_, rfl⟩ (.nil rfl)))))) (by kernel_rfl) ?_
  intro A L i sd hA
  have hm := md_le (n := n) (by (first | lia | omega))
  have hm0 := md_pos n
  have hw30 : w ≤ 30 := by (first | lia | omega)
  have hn16 : n ≤ 16 := by (first | lia | omega)
  top_args
  with_reducible refine T_pn (con_row wd hw hw9 (x := a) (by (first | lia | omega))) (hA.le (by (first | lia | omega))) rd0 ?_
  intro v1
  top_args
  with_reducible refine T_pn (con_row wd hw hw9 (x := b) (by (first | lia | omega))) (hA.le (by (first | lia | omega))) rd0 ?_
  intro v2
  rw [← rr_self ha, ← rr_self hb]
  top_args
  with_reducible refine T_pow2E (c := 2 ^ n) (by (first | lia | omega)) (by (first | lia | omega)) (by rw [Int.toNat_natCast]) ?_
  intro _
  top_args
  rw [← md_cast]
  with_reducible refine T_mul ?_ (mulok_small (by decide) (by decide))
  intro _
  top_args
  with_reducible refine T_dc (con_take wd (by (first | lia | omega))) (hA.le (by (first | lia | omega))) All.nil ?_
  rintro v i1 sd1 ⟨k0, t, rfl, hk0, hk1⟩
  top_args
  with_reducible refine T_mul ?_ (mulok_small (by decide) (by decide))
  intro _
  top_args
  generalize k0 - 3 * (n : Int) = k
  with_reducible refine T_mul ?_ (mulok_small (by decide) (by decide))
  intro _
  top_args
  rw [show 4 * (n : Int) = ((4 * n : Nat) : Int) by push_cast; rfl]
  with_reducible refine T_dc (con_great wd (size := 4 * n) (by (first | lia | omega))) (hA.le (by (first | lia | omega))) All.nil ?_
  rintro v i2 sd2 ⟨l0, t, rfl, hl0, hl1⟩
  obtain ⟨l, rfl⟩ := Int.eq_ofNat_of_zero_le hl0
  have hl2 : l < 2 ^ 48 := by
    have h1 : (2 : Int) ^ (4 * n) ≤ 2 ^ 48 := by exact_mod_cast Nat.pow_le_pow_right (by decide) (by (first | lia | omega))
    (first | lia | omega)
  top_args
  with_reducible refine T_pn (con_radd wd hw hw30 hn16) (hA.le (by (first | lia | omega))) (rd2 (by pv_eval) (by pv_eval)) ?_
  intro u1
  top_args
  with_reducible refine T_pn (con_rsub wd hw hw30 hn16) (hA.le (by (first | lia | omega))) (rd2 (by pv_eval) (by pv_eval)) ?_
  intro u2
  top_args
  with_reducible refine T_pn (con_rneg wd hw hw30 hn16) (hA.le (by (first | lia | omega))) (rd1 (by pv_eval)) ?_
  intro u3
  top_args
  with_reducible refine T_pn (con_rshift wd hw hw30 hn0 hn16) (hA.le (by (first | lia | omega))) (rd1 (by pv_eval)) ?_
  intro u4
  top_args
  with_reducible refine T_nr (.cons (by passes_own) (.cons (by passes_own) (.cons (by passes_own) (.cons (by passes_own) .nil)))) (Nat.le_of_ble_eq_true rfl) ?_
  intro v5
  top_args
  with_reducible refine T_pn (con_row wd hw hw9 (x := l) (by (first | lia | omega))) (hA.le (by (first | lia | omega))) rd0 ?_
  intro v6
  top_args
  with_reducible refine T_pn (con_fold wd (x := l) hw hw30 hn0 hn16 (by (first | lia | omega))) (hA.le (by (first | lia | omega))) (rd1 (by pv_eval)) ?_
  intro u5
  top_args
  with_reducible refine T_pn (con_rmul wd hw hw30 hn0 hn16) (hA.le (by (first | lia | omega))) (rd2 (by pv_eval) (by pv_eval)) ?_
  intro u6
  top_args
  with_reducible refine T_nr (.cons (by passes_own) (.cons (by passes_own) .nil)) (Nat.le_of_ble_eq_true rfl) ?_
  intro v7
  top_args
  with_reducible refine T_addRows (by passes_own) (by passes_own) (Nat.le_of_ble_eq_true rfl) ?_
  intro v8
  dsimp only
  rw [show ([rr w n (a + b), rr w n (a - b), rr w n (-a), rr w n (a * 2 ^ (k % (2 * n)).toNat)] ++ [rr w n l, rr w n (a * b)]) = rrs w n [(a : Int) + b, a - b, -a, a * 2 ^ (k % (2 * n)).toNat, l, a * b] from rfl]
  top_args
  with_reducible refine T_mul ?_ (mulok_small (by decide) (by decide))
  intro _
  top_args
  with_reducible refine T_mod (by (first | lia | omega)) ?_
  intro _
  top_args
  have hkm := emod_in (a := k) (b := 2 * (n : Int)) (by (first | lia | omega))
  with_reducible refine T_pow2E (c := 2 ^ (k % (2 * n)).toNat) hkm.1 (by (first | lia | omega)) rfl ?_
  intro _
  top_args
  with_reducible refine T_mod (by (first | lia | omega)) ?_
  intro _
  top_args
  with_reducible refine T_mod (by (first | lia | omega)) ?_
  intro _
  top_args
  with_reducible refine T_mod (by (first | lia | omega)) ?_
  intro _
  top_args
  with_reducible refine T_mul ?_ (mulok_small (by (first | lia | omega)) (by (first | lia | omega)))
  intro _
  top_args
  with_reducible refine T_mod (by (first | lia | omega)) ?_
  intro _
  top_args
  with_reducible refine T_mod (by (first | lia | omega)) ?_
  intro _
  top_args
  with_reducible refine T_mul ?_ (mulok_small (by (first | lia | omega)) (by (first | lia | omega)))
  intro _
  top_args
  with_reducible refine T_mod (by (first | lia | omega)) ?_
  intro _
  top_args
  with_reducible refine T_nn (.cons _ _ (.cons _ _ (.cons _ _ (.cons _ _ (.cons _ _ (.cons _ _ .nil)))))) (Nat.le_of_ble_eq_true rfl) ?_
  intro v9
  top_args
  have C : ∀ (t : Tok) (zs : List Int), Pure wd 9 223 [v8, v9, .int w t] [(v8, .rows (rrs w n [(a : Int) + b, a - b, -a, a * 2 ^ (k % (2 * n)).toNat, l, a * b])), (v9, .nums zs)] (.b (decide (([(a : Int) + b, a - b, -a, a * 2 ^ (k % (2 * n)).toNat, l, a * b].map fun z => z % (md n : Int)) = zs))) := fun t zs => by
    have := con_same wd (v1 := v8) (v2 := v9) (tw := t) (us := [(a : Int) + b, a - b, -a, a * 2 ^ (k % (2 * n)).toNat, l, a * b].map (res n)) (zs := zs) hw hw9 (fun u hu => by
      obtain ⟨z, _, rfl⟩ := List.mem_map.mp hu
      exact res_64 hn16 z) (Nat.le_of_ble_eq_true rfl)
    rw [← rrs_nat, natZ_res] at this
    exact this
  with_reducible refine T_pure_b (C _ _) (hA.le (by (first | lia | omega))) (rd2 (by pv_eval) (by pv_eval)) ?_
  exact ⟨_, rfl, congrArg Value.bool (decide_eq_true rfl), _, _, .head _⟩
theorem con_values (wd : World) {vs : Value} {tn tw : Tok} {us : List Nat} {n w : Nat} (hw : 0 < w) (hw9 : w ≤ 16) (hn0 : 0 < n) (hn : n ≤ 12) (hm : Many us.length) (hu : ∀ u ∈ us, u < md n)
    (hV : (fwd n (natZ us)).map (fun z => z % (md n : Int)) = dueL n (natZ us)) (hW : (bwd n (fwd n (natZ us))).map (fun z => z % (md n : Int)) = natZ us) :
    Pure wd 11 242 [vs, .int n tn, .int w tw] [(vs, .nums (natZ us))] (.b true) := by
  refine Pure.mk' (m := [("some", .v vs), ("n", .i n), ("w", .i w), ("many", .un), ("modulus", .un), ("told", .un), ("due", .un), ("at", .un), ("root", .un)]) (by rfl) (by kernel_rfl) (by rfl) (by kernel_rfl) (by decide +kernel) (by kernel_rfl) (.cons rfl (.cons ⟨_, rfl⟩ (.cons ⟨_, rfl⟩ (.nil rfl)))) (by kernel_rfl) ?_
  intro A L hA
  have hmd := md_le (n := n) (by (first | lia | omega))
  have hmd0 := md_pos n
  have hw30 : w ≤ 30 := by (first | lia | omega)
  have hn16 : n ≤ 16 := by (first | lia | omega)
  have hm0 : 0 < us.length := hm.le.1
  have hm4 : us.length ≤ 4 := hm.le.2
  have hl : (natZ us).length = us.length := natZ_len
  have hlz : (natZ us).length < 2 ^ 62 := by (first | lia | omega)
  have hmz : Many (natZ us).length := by rw [hl]; exact hm
  top_args
  rw [hl]
  with_reducible refine T_pow2E (c := 2 ^ n) (by (first | lia | omega)) (by (first | lia | omega)) (by rw [Int.toNat_natCast]) ?_
  intro _
  top_args
  rw [← md_cast]
  -- the rows
  refine T_comp [("one", .un)] [("w", .i w)] (.rows []) (opens_nums hA.h ?_)
  top_args
  refine ⟨natZ us, by passes_own, All.cons (by passes_own) All.nil, fun acc => ⟨fun i σ => ∃ tv fx fr, (vs, D.nums (natZ us)) ∈ fx ∧ σ = ⟨[("one", tv), ("w", .i w)], fx, fr, [(acc, .rows ((us.map (row w)).take i))]⟩, ⟨_, _, _, List.Mem.head _, rfl⟩, ?_, ?_⟩⟩
  · rintro C i σ' hi ⟨tv, fx, fr, hfx, rfl⟩
    refine ⟨hi, _, by one_sign, ?_⟩
    have hi' : i < us.length := by (first | lia | omega)
    have e1 : (natZ us)[i] = ((us[i] : Nat) : Int) := by simp [natZ]
    have hui : us[i] < md n := hu _ (List.getElem_mem hi')
    rw [e1]
    with_reducible refine T_tests_nil ?_
    refine ⟨fun _ => ?_, nofun⟩
    refine T_wk (Wk.of (fx' := [(vs, D.nums (natZ us))]) (fr' := []) (by kernel_rfl) (.cons hfx .nil) .nil) ?_
    top_args
    with_reducible refine T_pn (con_row wd hw hw9 (x := us[i]) (by (first | lia | omega))) (hA.le (by (first | lia | omega))) rd0 ?_
    intro v1
    top_args
    with_reducible refine T_addRow (by passes_own) (by leaf_len) (by rw [List.length_take, List.length_map]; (first | lia | omega)) ?_
    rw [rows_snoc hi']
    exact ⟨_, _, _, by passes_own, rfl⟩
  · rintro σ' ⟨tv, fx, fr, hfx, rfl⟩
    refine ⟨[("one", tv)], [(vs, .nums (natZ us))], [], _, Wk.of (by kernel_rfl) (All.cons hfx All.nil) All.nil, rfl, ?_⟩
    rw [hl, List.take_of_length_le (by rw [List.length_map]; exact Nat.le_refl _), row_map_self hu]
    top_args
    with_reducible refine T_pr (con_forward wd hw hw30 hn0 hn16 hmz) (hA.le (by (first | lia | omega))) (rd1 (by pv_eval)) ?_
    intro vt
    top_args
    with_reducible refine T_newApp (ns := []) .nil (by decide) ?_
    intro vd
    top_args
    with_reducible refine T_For_any (opens_range hA.h ?_)
    top_args
    rename_i r
    refine ⟨_, _, _, .head _, (range_0 (by (first | lia | omega))).1, _, (range_0 (by (first | lia | omega))).2, fun i σ => ∃ v1 v2 fx fr, (vt, D.rows (rrs w n (fwd n (natZ us)))) ∈ fx ∧ (vs, D.nums (natZ us)) ∈ fx ∧ σ = ⟨[("some", .v vs), ("n", .i n), ("w", .i w), ("many", .i us.length), ("modulus", .i (md n)), ("told", .v vt), ("due", .v vd), ("at", v1), ("root", v2)], fx, fr, [(vd, .app ((dueL n (natZ us)).take i))]⟩,
      ⟨_, _, _, _, by passes_own, by passes_own, rfl⟩, ?_, ?_⟩
    · rintro i σ' hi ⟨v1, v2, fx, fr, hfx, hfx2, rfl⟩
      refine ⟨_, by one_sign, ?_⟩
      rw [show (0 : Int) + i * 1 = i by (first | lia | omega)]
      refine T_wk (Wk.of (fx' := [(vt, D.rows (rrs w n (fwd n (natZ us)))), (vs, D.nums (natZ us))]) (fr' := []) (by kernel_rfl) (.cons hfx (.cons hfx2 .nil)) .nil) ?_
      have ht := turn_lt hm hi
      have hdiv : 2 * n / us.length ≤ 24 := Nat.le_trans (Nat.div_le_self ..) (by (first | lia | omega))
      have hexp : 2 * n / us.length * turnF us.length 0 i ≤ 24 * 4 := Nat.mul_le_mul hdiv (by (first | lia | omega))
      top_args
      with_reducible refine T_mul ?_ (mulok_small (by decide) (by decide))
      intro _
      top_args
      with_reducible refine T_floordivE (c := ((2 * n / us.length : Nat) : Int)) (by push_cast; rfl) (by (first | lia | omega)) (by (first | lia | omega)) ?_
      intro _
      top_args
      with_reducible refine T_pure_i (con_turned wd) (hA.le (by (first | lia | omega))) rd0 ?_
      intro _
      top_args
      with_reducible refine T_mul ?_ (.of_right (intBits_le_64 (by (first | lia | omega)) (by (first | lia | omega))))
      intro _
      top_args
      rw [show ((2 * n / us.length : Nat) : Int) * ((turnF us.length 0 i : Nat) : Int) = ((2 * n / us.length * turnF us.length 0 i : Nat) : Int) by push_cast; rfl]
      with_reducible refine T_pow2E (c := rootOf n us.length i) (by (first | lia | omega)) (by (first | lia | omega)) (by rw [Int.toNat_natCast, rootOf]) ?_
      intro _
      top_args
      have hrb : (rootOf n us.length i).natAbs < 2 ^ 97 := by
        have h1 : (2 : Nat) ^ (2 * n / us.length * turnF us.length 0 i) ≤ 2 ^ 96 := Nat.pow_le_pow_right (by decide) hexp
        have h2 : rootOf n us.length i = ((2 ^ (2 * n / us.length * turnF us.length 0 i) : Nat) : Int) := by rw [rootOf]; push_cast; rfl
        rw [h2, Int.natAbs_natCast]; (first | lia | omega)
      refine T_comp [("spot", .un), ("one", .un)] [("root", .i (rootOf n us.length i))] (.nums []) (opens_enumN hA.h ?_)
      top_args
      refine ⟨natZ us, by passes_own, All.cons (by passes_own) All.nil, fun acc => ⟨fun j σ => ∃ t1 t2 fx fr, (vt, D.rows (rrs w n (fwd n (natZ us)))) ∈ fx ∧ (vs, D.nums (natZ us)) ∈ fx ∧ σ = ⟨[("spot", t1), ("one", t2), ("root", .i (rootOf n us.length i))], fx, fr, [(acc, .nums ((powL (natZ us) (rootOf n us.length i)).take j)), (vd, .app ((dueL n (natZ us)).take i))]⟩, ⟨_, _, _, _, List.Mem.head _, List.Mem.tail _ (List.Mem.head _), rfl⟩, ?_, ?_⟩⟩
      · rintro C j σ' hj ⟨t1, t2, fx, fr, hfx, hfx2, rfl⟩
        refine ⟨hj, _, _, by one_sign, by one_sign, ?_⟩
        have hj' : j < us.length := by (first | lia | omega)
        have e1 : (natZ us)[j] = ((us[j] : Nat) : Int) := by simp [natZ]
        have huj : us[j] < md n := hu _ (List.getElem_mem hj')
        with_reducible refine T_tests_nil ?_
        refine ⟨fun _ => ?_, nofun⟩
        refine T_wk (Wk.of (fx' := [(vt, D.rows (rrs w n (fwd n (natZ us)))), (vs, D.nums (natZ us))]) (fr' := []) (by kernel_rfl) (.cons hfx (.cons hfx2 .nil)) .nil) ?_
        top_args
        with_reducible refine T_powE (c := rootOf n us.length i ^ j) (by (first | lia | omega)) (powbits hrb (by (first | lia | omega))) (by rw [Int.toNat_natCast]) ?_
        intro _
        top_args
        with_reducible refine T_mul ?_ (mulok_small (by rw [e1]; (first | lia | omega)) (by rw [e1]; (first | lia | omega)))
        intro _
        top_args
        with_reducible refine T_addNum (by leaf_len) (by rw [List.length_take, powL_len]; (first | lia | omega)) ?_
        dsimp only
        rw [← powL_at hj, ← take_snoc (by rw [powL_len]; exact hj)]
        exact ⟨_, _, _, _, by passes_own, by passes_own, rfl⟩
      · rintro σ' ⟨t1, t2, fx, fr, hfx, hfx2, rfl⟩
        refine ⟨[("spot", t1), ("one", t2)], [(vt, .rows (rrs w n (fwd n (natZ us)))), (vs, .nums (natZ us))], [(vd, .app ((dueL n (natZ us)).take i))], _, Wk.of (by kernel_rfl) (All.cons hfx (All.cons hfx2 All.nil)) All.nil, rfl, ?_⟩
        rw [show (powL (natZ us) (rootOf n us.length i)).take (natZ us).length = powL (natZ us) (rootOf n us.length i) from List.take_of_length_le (by rw [powL_len]; exact Nat.le_refl _)]
        top_args
        with_reducible refine T_sum hA.h (by pv_eval) ?_
        intro _
        top_args
        with_reducible refine T_mod (by (first | lia | omega)) ?_
        intro _
        top_args
        none_booked
        · top_args
          dsimp only [Turn]
          rw [show (powL (natZ us) (rootOf n us.length i)).sum % (md n : Int) = dueV n (natZ us) i by rw [dueV, hl], dueL_snoc (by (first | lia | omega))]
          exact ⟨_, _, _, _, by passes_own, by passes_own, rfl⟩
        · rw [List.length_take, dueL_len]; (first | lia | omega)
    · rintro σ' ⟨v1, v2, fx, fr, hfx, hfx2, rfl⟩
      rw [List.take_of_length_le (by rw [dueL_len, hl]; exact Nat.le_refl _)]
      refine T_wk (Wk.of (fx' := [(vt, D.rows (rrs w n (fwd n (natZ us)))), (vs, D.nums (natZ us))]) (fr' := []) (by kernel_rfl) (.cons hfx (.cons hfx2 .nil)) .nil) ?_
      with_reducible refine T_freeze ?_
      top_args
      have C : ∀ (v1 v2 : Value) (t : Tok) (xs zs : List Int), xs.length ≤ 100 → xs.map (fun z => z % (md n : Int)) = zs → Pure wd 9 223 [v1, v2, .int w t] [(v1, .rows (rrs w n xs)), (v2, .nums zs)] (.b true) := fun v1 v2 t xs zs hx he => by
        have := con_same wd (v1 := v1) (v2 := v2) (tw := t) (us := xs.map (res n)) (zs := zs) hw hw9 (fun u hu => by
          obtain ⟨z, _, rfl⟩ := List.mem_map.mp hu
          exact res_64 hn16 z) (by rw [List.length_map]; exact hx)
        rw [← rrs_nat, natZ_res, decide_eq_true he] at this
        exact this
      with_reducible refine T_pure_b (C _ _ _ (fwd n (natZ us)) (dueL n (natZ us)) (by rw [fwd_len]; (first | lia | omega)) hV) (hA.le (by (first | lia | omega))) (rd2 (by pv_eval) (by pv_eval)) ?_
      top_args
      refine ⟨fun _ => ?_, nofun⟩
      top_args
      with_reducible refine T_pr (con_backward wd (zs := fwd n (natZ us)) hw hw30 hn0 hn16 (by rw [fwd_len]; exact hmz)) (hA.le (by (first | lia | omega))) (rd1 (by pv_eval)) ?_
      intro vb
      top_args
      with_reducible refine T_pure_b (C _ _ _ (bwd n (fwd n (natZ us))) (natZ us) (by rw [bwd_len, fwd_len]; (first | lia | omega)) hW) (hA.le (by (first | lia | omega))) (rd2 (by pv_eval) (by pv_eval)) ?_
      exact ⟨_, rfl, rfl⟩
theorem con_round (wd : World) {v1 v2 : Value} {tn tw : Tok} {us vs : List Nat} {n w : Nat} (hw : 0 < w) (hw9 : w ≤ 16) (hn0 : 0 < n) (hn : n ≤ 12) (hm : Many us.length) (hlen : vs.length = us.length) (hu : ∀ u ∈ us, u < md n) (hv : ∀ u ∈ vs, u < md n)
    (hP : (conv n (natZ us) (natZ vs)).map (fun z => z % (md n : Int)) = plusL n (natZ us) (natZ vs)) (hM : (convM n (natZ us) (natZ vs)).map (fun z => z % (md n : Int)) = minusL n (natZ us) (natZ vs)) :
    Pure wd 12 247 [v1, v2, .int n tn, .int w tw] [(v1, .nums (natZ us)), (v2, .nums (natZ vs))] (.b true) := by
  refine Pure.mk' (m := [("some", .v v1), ("others", .v v2), ("n", .i n), ("w", .i w), ("many", .un), ("modulus", .un), ("rows", .un), ("more", .un), ("plus", .un), ("minus", .un), ("at", .un), ("one", .un), ("spot", .un), ("other", .un), ("here", .un)]) (by rfl) (by kernel_rfl) (by rfl) (by kernel_rfl) (by decide +kernel) (by kernel_rfl) (.cons rfl (.cons rfl (.cons ⟨_, rfl⟩ (.cons ⟨_, rfl⟩ (.nil rfl))))) (by kernel_rfl) ?_
  intro A L hA
  have hmd := md_le (n := n) (by (first | lia | omega))
  have hmd0 := md_pos n
  have hw30 : w ≤ 30 := by (first | lia | omega)
  have hn16 : n ≤ 16 := by (first | lia | omega)
  have hm0 : 0 < us.length := hm.le.1
  have hm4 : us.length ≤ 4 := hm.le.2
  have hl : (natZ us).length = us.length := natZ_len
  have hl2 : (natZ vs).length = us.length := natZ_len.trans hlen
  have hlz : (natZ us).length < 2 ^ 62 := by (first | lia | omega)
  have hmz : Many (natZ us).length := by rw [hl]; exact hm
  top_args
  rw [hl]
  with_reducible refine T_pow2E (c := 2 ^ n) (by (first | lia | omega)) (by (first | lia | omega)) (by rw [Int.toNat_natCast]) ?_
  intro _
  top_args
  rw [← md_cast]
  -- the rows
  refine T_comp [("one", .un)] [("w", .i w)] (.rows []) (opens_nums hA.h ?_)
  top_args
  refine ⟨natZ us, by passes_own, All.cons (by passes_own) All.nil, fun acc => ⟨fun i σ => ∃ tv fx fr, (v1, D.nums (natZ us)) ∈ fx ∧ (v2, D.nums (natZ vs)) ∈ fx ∧ σ = ⟨[("one", tv), ("w", .i w)], fx, fr, [(acc, .rows ((us.map (row w)).take i))]⟩, ⟨_, _, _, List.Mem.head _, List.Mem.tail _ (List.Mem.head _), rfl⟩, ?_, ?_⟩⟩
  · rintro C i σ' hi ⟨tv, fx, fr, hfx, hfx2, rfl⟩
    refine ⟨hi, _, by one_sign, ?_⟩
    have hi' : i < us.length := by (first | lia | omega)
    have e1 : (natZ us)[i] = ((us[i] : Nat) : Int) := by simp [natZ]
    have hui : us[i] < md n := hu _ (List.getElem_mem hi')
    rw [e1]
    with_reducible refine T_tests_nil ?_
    refine ⟨fun _ => ?_, nofun⟩
    refine T_wk (Wk.of (fx' := [(v1, D.nums (natZ us)), (v2, D.nums (natZ vs))]) (fr' := []) (by kernel_rfl) (.cons hfx (.cons hfx2 .nil)) .nil) ?_
    top_args
    with_reducible refine T_pn (con_row wd hw hw9 (x := us[i]) (by (first | lia | omega))) (hA.le (by (first | lia | omega))) rd0 ?_
    intro u1
    top_args
    with_reducible refine T_addRow (by passes_own) (by leaf_len) (by rw [List.length_take, List.length_map]; (first | lia | omega)) ?_
    rw [rows_snoc hi']
    exact ⟨_, _, _, by passes_own, by passes_own, rfl⟩
  rintro σ' ⟨tv, fx, fr, hfx, hfx2, rfl⟩
  refine ⟨[("one", tv)], [(v1, .nums (natZ us)), (v2, .nums (natZ vs))], [], _, Wk.of (by kernel_rfl) (All.cons hfx (All.cons hfx2 All.nil)) All.nil, rfl, ?_⟩
  rw [hl, List.take_of_length_le (by rw [List.length_map]; exact Nat.le_refl _), row_map_self hu]
  rename_i w1
  top_args
  refine T_comp [("one", .un)] [("w", .i w)] (.rows []) (opens_nums hA.h ?_)
  top_args
  refine ⟨natZ vs, by passes_own, All.cons (by passes_own) All.nil, fun acc2 => ⟨fun i σ => ∃ tv fx fr, (acc, D.rows (rrs w n (natZ us))) ∈ fx ∧ (v1, D.nums (natZ us)) ∈ fx ∧ (v2, D.nums (natZ vs)) ∈ fx ∧ σ = ⟨[("one", tv), ("w", .i w)], fx, fr, [(acc2, .rows ((vs.map (row w)).take i))]⟩, ⟨_, _, _, List.Mem.head _, List.Mem.tail _ (List.Mem.head _), List.Mem.tail _ (List.Mem.tail _ (List.Mem.head _)), rfl⟩, ?_, ?_⟩⟩
  · rintro C i σ' hi ⟨tv, fx, fr, hfx0, hfx, hfx2, rfl⟩
    refine ⟨hi, _, by one_sign, ?_⟩
    have hi' : i < vs.length := by (first | lia | omega)
    have e1 : (natZ vs)[i] = ((vs[i] : Nat) : Int) := by simp [natZ]
    have hui : vs[i] < md n := hv _ (List.getElem_mem hi')
    rw [e1]
    with_reducible refine T_tests_nil ?_
    refine ⟨fun _ => ?_, nofun⟩
    refine T_wk (Wk.of (fx' := [(acc, D.rows (rrs w n (natZ us))), (v1, D.nums (natZ us)), (v2, D.nums (natZ vs))]) (fr' := []) (by kernel_rfl) (.cons hfx0 (.cons hfx (.cons hfx2 .nil))) .nil) ?_
    top_args
    with_reducible refine T_pn (con_row wd hw hw9 (x := vs[i]) (by (first | lia | omega))) (hA.le (by (first | lia | omega))) rd0 ?_
    intro u1
    top_args
    with_reducible refine T_addRow (by passes_own) (by leaf_len) (by rw [List.length_take, List.length_map]; (first | lia | omega)) ?_
    rw [rows_snoc hi']
    exact ⟨_, _, _, by passes_own, by passes_own, by passes_own, rfl⟩
  rintro σ' ⟨tv, fx, fr, hfx0, hfx, hfx2, rfl⟩
  refine ⟨[("one", tv)], [(acc, .rows (rrs w n (natZ us))), (v1, .nums (natZ us)), (v2, .nums (natZ vs))], [], _, Wk.of (by kernel_rfl) (All.cons hfx0 (All.cons hfx (All.cons hfx2 All.nil))) All.nil, rfl, ?_⟩
  rw [show (vs.map (row w)).take (natZ vs).length = rrs w n (natZ vs) by rw [List.take_of_length_le (by rw [List.length_map, natZ_len]; exact Nat.le_refl _), row_map_self hv]]
  top_args
  -- plus and minus
  with_reducible refine T_nn (ns := [0]) (.cons _ _ .nil) (Nat.le_of_ble_eq_true rfl) ?_
  intro z1
  top_args
  with_reducible refine T_mulOne (by passes_own) (by (first | lia | omega)) (by (first | lia | omega)) (.inr rfl) ?_
  intro vp
  rw [Int.toNat_natCast]
  dsimp only
  top_args
  with_reducible refine T_nn (ns := [0]) (.cons _ _ .nil) (Nat.le_of_ble_eq_true rfl) ?_
  intro z2
  top_args
  with_reducible refine T_mulOne (by passes_own) (by (first | lia | omega)) (by (first | lia | omega)) (.inr rfl) ?_
  intro vm
  rw [Int.toNat_natCast]
  dsimp only
  top_args
  with_reducible refine T_For_any (opens_enumN hA.h ?_)
  top_args
  refine ⟨natZ us, by passes_own, fun i σ => ∃ t1 t2 t3 t4 t5 fx fr, (acc2, D.rows (rrs w n (natZ vs))) ∈ fx ∧ (acc, D.rows (rrs w n (natZ us))) ∈ fx ∧ (v2, D.nums (natZ vs)) ∈ fx ∧
      σ = ⟨[("some", .v v1), ("others", .v v2), ("n", .i n), ("w", .i w), ("many", .i us.length), ("modulus", .i (md n)), ("rows", .v acc), ("more", .v acc2), ("plus", .v vp), ("minus", .v vm), ("at", t1), ("one", t2), ("spot", t3), ("other", t4), ("here", t5)], fx, fr,
        [(vm, .nums (outM n us.length (natZ us) (natZ vs) i (List.replicate us.length 0))), (vp, .nums (outP n us.length (natZ us) (natZ vs) i (List.replicate us.length 0)))]⟩,
    ⟨_, _, _, _, _, _, _, by passes_own, by passes_own, by passes_own, rfl⟩, ?_, ?_⟩
  · rintro i σ' hi ⟨t1, t2, t3, t4, t5, fx, fr, hfa, hfb, hfc, rfl⟩
    refine ⟨hi, _, _, by one_sign, by one_sign, ?_⟩
    have hxi := natZ_in (i := i) hu hmd0
    rw [natZ_at hi]
    refine T_wk (Wk.of (fx' := [(acc2, D.rows (rrs w n (natZ vs))), (acc, D.rows (rrs w n (natZ us))), (v2, D.nums (natZ vs))]) (fr' := []) (by kernel_rfl) (.cons hfa (.cons hfb (.cons hfc .nil))) .nil) ?_
    top_args
    with_reducible refine T_For_any (opens_enumN hA.h ?_)
    top_args
    refine ⟨natZ vs, by passes_own, fun j σ => ∃ t3 t4 t5 fx fr, (acc2, D.rows (rrs w n (natZ vs))) ∈ fx ∧ (acc, D.rows (rrs w n (natZ us))) ∈ fx ∧ (v2, D.nums (natZ vs)) ∈ fx ∧
        σ = ⟨[("some", .v v1), ("others", .v v2), ("n", .i n), ("w", .i w), ("many", .i us.length), ("modulus", .i (md n)), ("rows", .v acc), ("more", .v acc2), ("plus", .v vp), ("minus", .v vm), ("at", .i i), ("one", .i ((natZ us).getD i 0)), ("spot", t3), ("other", t4), ("here", t5)], fx, fr,
          [(vm, .nums (inM n us.length ((natZ us).getD i 0) (natZ vs) i j (outM n us.length (natZ us) (natZ vs) i (List.replicate us.length 0)))), (vp, .nums (inP n us.length ((natZ us).getD i 0) (natZ vs) i j (outP n us.length (natZ us) (natZ vs) i (List.replicate us.length 0))))]⟩,
      ⟨_, _, _, _, _, by passes_own, by passes_own, by passes_own, rfl⟩, ?_, ?_⟩
    · rintro j σ' hj ⟨t3, t4, t5, fx, fr, hfa, hfb, hfc, rfl⟩
      refine ⟨hj, _, _, by one_sign, by one_sign, ?_⟩
      have hyj := natZ_in (i := j) hv hmd0
      rw [natZ_at hj]
      have lP : (inP n us.length ((natZ us).getD i 0) (natZ vs) i j (outP n us.length (natZ us) (natZ vs) i (List.replicate us.length 0))).length = us.length := by rw [inP_len, outP_len, List.length_replicate]
      have lM : (inM n us.length ((natZ us).getD i 0) (natZ vs) i j (outM n us.length (natZ us) (natZ vs) i (List.replicate us.length 0))).length = us.length := by rw [inM_len, outM_len, List.length_replicate]
      generalize eP : inP n us.length ((natZ us).getD i 0) (natZ vs) i j (outP n us.length (natZ us) (natZ vs) i (List.replicate us.length 0)) = P at lP
      generalize eM : inM n us.length ((natZ us).getD i 0) (natZ vs) i j (outM n us.length (natZ us) (natZ vs) i (List.replicate us.length 0)) = Q at lM
      refine T_wk (Wk.of (fx' := [(acc2, D.rows (rrs w n (natZ vs))), (acc, D.rows (rrs w n (natZ us))), (v2, D.nums (natZ vs))]) (fr' := []) (by kernel_rfl) (.cons hfa (.cons hfb (.cons hfc .nil))) .nil) ?_
      have hh : (i + j) % us.length < us.length := Nat.mod_lt _ hm0
      generalize eh : (i + j) % us.length = h at hh
      have g1 : P[((h : Nat) : Int).toNat]? = some (P.getD h 0) := by
        rw [Int.toNat_natCast, List.getD_eq_getElem?_getD, List.getElem?_eq_getElem (by (first | lia | omega))]; rfl
      have g2 : Q[((h : Nat) : Int).toNat]? = some (Q.getD h 0) := by
        rw [Int.toNat_natCast, List.getD_eq_getElem?_getD, List.getElem?_eq_getElem (by (first | lia | omega))]; rfl
      top_args
      with_reducible refine T_modE (c := ((h : Nat) : Int)) (by rw [← eh]; push_cast; rfl) (by (first | lia | omega)) ?_
      intro _
      top_args
      with_reducible refine T_item (by pv_eval) (by (first | lia | omega)) (by (first | lia | omega)) g1 ?_
      intro _
      top_args
      with_reducible refine T_mul ?_ (mulok_small (by (first | lia | omega)) (by (first | lia | omega)))
      intro _
      top_args
      with_reducible refine T_mod (by (first | lia | omega)) ?_
      intro _
      top_args
      with_reducible refine T_set (by leaf_len) (by (first | lia | omega)) (by (first | lia | omega)) (by (first | lia | omega)) ?_
      rw [Int.toNat_natCast]
      dsimp only
      top_args
      with_reducible refine T_item (by pv_eval) (by (first | lia | omega)) (by (first | lia | omega)) g2 ?_
      intro _
      top_args
      regstrif_gather
      · rename_i hb
        top_args
        with_reducible refine T_mul ?_ (mulok_small (by (first | lia | omega)) (by (first | lia | omega)))
        intro _
        top_args
        with_reducible refine T_mod (by (first | lia | omega)) ?_
        intro _
        top_args
        with_reducible refine T_set (by leaf_len) (by (first | lia | omega)) (by (first | lia | omega)) (by (first | lia | omega)) ?_
        rw [Int.toNat_natCast]
        dsimp only
        top_args
        dsimp only [Turn]
        rw [inM, inP, eP, eM, plS, miS, eh, if_pos (by (first | lia | omega))]
        exact ⟨_, _, _, _, _, by passes_own, by passes_own, by passes_own, rfl⟩
      · rename_i hb
        top_args
        with_reducible refine T_mul ?_ (mulok_small (by (first | lia | omega)) (by (first | lia | omega)))
        intro _
        top_args
        with_reducible refine T_mod (by (first | lia | omega)) ?_
        intro _
        top_args
        with_reducible refine T_set (by leaf_len) (by (first | lia | omega)) (by (first | lia | omega)) (by (first | lia | omega)) ?_
        rw [Int.toNat_natCast]
        dsimp only
        top_args
        dsimp only [Turn]
        rw [inM, inP, eP, eM, plS, miS, eh, if_neg (by (first | lia | omega))]
        exact ⟨_, _, _, _, _, by passes_own, by passes_own, by passes_own, rfl⟩
    · rintro σ' ⟨t3, t4, t5, fx, fr, hfa, hfb, hfc, rfl⟩
      top_args
      dsimp only [Turn]
      rw [outM, outP]
      exact ⟨_, _, _, _, _, _, _, hfa, hfb, hfc, rfl⟩
  · rintro σ' ⟨t1, t2, t3, t4, t5, fx, fr, hfa, hfb, hfc, rfl⟩
    refine T_wk (Wk.of (fx' := [(acc2, D.rows (rrs w n (natZ vs))), (acc, D.rows (rrs w n (natZ us)))]) (fr' := []) (by kernel_rfl) (.cons hfa (.cons hfb .nil)) .nil) ?_
    rw [show outM n us.length (natZ us) (natZ vs) (natZ us).length (List.replicate us.length 0) = minusL n (natZ us) (natZ vs) by rw [minusL, hl], show outP n us.length (natZ us) (natZ vs) (natZ us).length (List.replicate us.length 0) = plusL n (natZ us) (natZ vs) by rw [plusL, hl]]
    with_reducible refine T_freeze ?_
    with_reducible refine T_freeze ?_
    have C : ∀ (v1 v2 : Value) (t : Tok) (xs zs : List Int), xs.length ≤ 100 → xs.map (fun z => z % (md n : Int)) = zs → Pure wd 9 223 [v1, v2, .int w t] [(v1, .rows (rrs w n xs)), (v2, .nums zs)] (.b true) := fun v1 v2 t xs zs hx he => by
      have := con_same wd (v1 := v1) (v2 := v2) (tw := t) (us := xs.map (res n)) (zs := zs) hw hw9 (fun u hu => by
        obtain ⟨z, _, rfl⟩ := List.mem_map.mp hu
        exact res_64 hn16 z) (by rw [List.length_map]; exact hx)
      rw [← rrs_nat, natZ_res, decide_eq_true he] at this
      exact this
    top_args
    with_reducible refine T_pr (con_conv wd (xs := natZ us) (ys := natZ vs) hw hw30 hn0 hn16 hmz (hl.trans hl2.symm)) (hA.le (by (first | lia | omega))) (rd2 (by pv_eval) (by pv_eval)) ?_
    intro vc
    top_args
    with_reducible refine T_pure_b (C _ _ _ (conv n (natZ us) (natZ vs)) (plusL n (natZ us) (natZ vs)) (by rw [conv_len (hl.trans hl2.symm)]; (first | lia | omega)) hP) (hA.le (by (first | lia | omega))) (rd2 (by pv_eval) (by pv_eval)) ?_
    top_args
    refine ⟨nofun, fun _ => ?_⟩
    top_args
    with_reducible refine T_pr (con_convM wd (xs := natZ us) (ys := natZ vs) hw hw30 hn0 hn16 hmz (hl.trans hl2.symm)) (hA.le (by (first | lia | omega))) (rd2 (by pv_eval) (by pv_eval)) ?_
    intro vc2
    top_args
    with_reducible refine T_pure_b (C _ _ _ (convM n (natZ us) (natZ vs)) (minusL n (natZ us) (natZ vs)) (by rw [convM, wt_len, conv_len (by rw [wt_len, wt_len]; exact hl.trans hl2.symm), wt_len]; (first | lia | omega)) hM) (hA.le (by (first | lia | omega))) (rd2 (by pv_eval) (by pv_eval)) ?_
    exact ⟨_, rfl, rfl⟩
theorem con_deal (wd : World) {vs : Value} {zs : List Int} (hz : zs.length ≤ 63) : NewDeal wd 1 185 [vs] [(vs, .nums zs)] := by
  refine NewDeal.mk' (m := [("script", .v vs), ("numbers", .un), ("seed", .un), ("number", .un)]) (by rfl) (by kernel_rfl) (by rfl) (by kernel_rfl) (by decide +kernel) (by kernel_rfl) (.cons rfl (.nil rfl)) (by kernel_rfl) ?_
  intro A L hA
  with_reducible refine T_execs_cons ?_
  refine T_AssignComp [("number", .un)] [] (.nums []) (opens_nums hA.h ?_)
  with_reducible refine T_slice ?_
  top_args
  refine ⟨zs, none, some ((24 : Nat) : Int), by pv_eval, by (first | lia | omega), .none, .int _ _, fun vsl => ⟨zs.take 24, by rw [pick_upto]; passes_own, fun _ h => (nomatch h), fun acc => ⟨fun i σ => ∃ tv fx fr ls, ls.length = i ∧ σ = ⟨[("number", tv)], fx, fr, [(acc, .nums ls)]⟩, ⟨_, _, _, [], rfl, rfl⟩, ?_, ?_⟩⟩⟩
  · rintro C i σ' hi ⟨tv, fx, fr, ls, hl, rfl⟩
    refine ⟨hi, _, by one_sign, ?_⟩
    rw [List.length_take] at hi
    with_reducible refine T_tests_nil ?_
    refine ⟨fun _ => ?_, nofun⟩
    top_args
    with_reducible refine T_addNum (by leaf_len) (by (first | lia | omega)) ?_
    exact ⟨_, _, _, _, by rw [List.length_append, hl]; rfl, rfl⟩
  · rintro σ' ⟨tv, fx, fr, ls, hl, rfl⟩
    rw [List.length_take] at hl
    refine ⟨[("number", tv)], [], [], _, Wk.of (by kernel_rfl) All.nil All.nil, rfl, _, by one_sign, ?_⟩
    top_args
    with_reducible refine T_For_any (opens_nums hA.h ?_)
    top_args
    refine ⟨ls, by passes_own, fun i σ => ∃ sd tv fx fr, 0 ≤ sd ∧ sd < 2147483647 ∧ (acc, D.nums ls) ∈ fx ∧ σ = ⟨[("script", .v vs), ("numbers", .v acc), ("seed", .i sd), ("number", tv)], fx, fr, []⟩, ⟨_, _, _, _, by decide, by decide, by passes_own, rfl⟩, ?_, ?_⟩
    · rintro i σ' hi ⟨sd, tv, fx, fr, h0, h1, hfx, rfl⟩
      refine ⟨hi, _, by one_sign, ?_⟩
      top_args
      with_reducible refine T_mul ?_ (mulok_small (by (first | lia | omega)) (by (first | lia | omega)))
      intro _
      top_args
      with_reducible refine T_mod (by decide) ?_
      intro _
      top_args
      with_reducible refine T_mod (by decide) ?_
      intro _
      top_args
      have h5 := emod_in (a := sd * 48271 + ls[i] % 1000003 + 11) (b := 2147483647) (by decide)
      exact ⟨_, _, _, _, h5.1, h5.2, hfx, rfl⟩
    · rintro σ' ⟨sd, tv, fx, fr, h0, h1, hfx, rfl⟩
      refine T_wk (Wk.of (fx' := [(acc, D.nums ls)]) (fr' := []) (by kernel_rfl) (.cons hfx .nil) .nil) ?_
      top_args
      with_reducible refine T_newDeal (v0 := acc) (ns := ls) (i := 0) (sd := sd) (by passes_own) (by decide) (by (first | lia | omega)) (by (first | lia | omega)) h0 h1 ?_
      intro vd
      exact ⟨vd, rfl, _, _, _, _, .head _⟩
theorem con_law (LW : Laws) (wd : World) {vs : Value} {zs : List Int} (hz : zs.length ≤ 63) : Pure wd 13 252 [vs] [(vs, .nums zs)] (.b true) := by
  refine Pure.mk' (m := [("script", .v vs), ("deal", .un), ("many", .un), ("w", .un), ("n", .un), ("some", .un), ("others", .un)]) (by rfl) (by kernel_rfl) (by rfl) (by kernel_rfl) (by decide +kernel) (by kernel_rfl) (.cons rfl (.nil rfl)) (by kernel_rfl) ?_
  intro A L hA
  top_args
  with_reducible refine T_nd (con_deal wd hz) (hA.le (by (first | lia | omega))) (rd1 (by pv_eval)) ?_
  intro vd v0 ns i sd
  top_args
  with_reducible refine T_nn (ns := [1, 2, 4]) (.cons _ _ (.cons _ _ (.cons _ _ .nil))) (Nat.le_of_ble_eq_true rfl) ?_
  intro vl
  top_args
  with_reducible refine T_dc (con_take wd (by decide)) (hA.le (by (first | lia | omega))) All.nil ?_
  rintro v i1 sd1 ⟨r1, t1, rfl, h10, h11⟩
  obtain ⟨m, hm, hg⟩ := pick_many h10 h11
  have hm0 := hm.le.1
  have hm4 := hm.le.2
  top_args
  with_reducible refine T_item (x := (m : Int)) (by pv_eval) h10 (by (first | lia | omega)) hg ?_
  intro _
  top_args
  with_reducible refine T_dc (con_take wd (by decide)) (hA.le (by (first | lia | omega))) All.nil ?_
  rintro v i2 sd2 ⟨r2, t2, rfl, h20, h21⟩
  obtain ⟨w0, rfl⟩ := Int.eq_ofNat_of_zero_le h20
  top_args
  rw [show (3 : Int) + w0 = ((3 + w0 : Nat) : Int) by push_cast; rfl]
  have hw : 0 < 3 + w0 := by (first | lia | omega)
  have hw9 : 3 + w0 ≤ 16 := by (first | lia | omega)
  generalize 3 + w0 = w at hw hw9
  top_args
  with_reducible refine T_dc (con_take wd (by decide)) (hA.le (by (first | lia | omega))) All.nil ?_
  rintro v i3 sd3 ⟨r3, t3, rfl, h30, h31⟩
  obtain ⟨c0, rfl⟩ := Int.eq_ofNat_of_zero_le h30
  top_args
  with_reducible refine T_mul ?_ (mulok_small (by (first | lia | omega)) (by (first | lia | omega)))
  intro _
  top_args
  rw [show (m : Int) * (1 + c0) = ((m * (1 + c0) : Nat) : Int) by push_cast; rfl]
  have hc0 : 0 < 1 + c0 := by (first | lia | omega)
  have hc3 : 1 + c0 ≤ 3 := by (first | lia | omega)
  generalize 1 + c0 = c at hc0 hc3
  have hn12 : m * c ≤ 4 * 3 := Nat.mul_le_mul hm4 hc3
  have hn0 : 0 < m * c := Nat.mul_pos hm0 hc0
  generalize en : m * c = n at hn12 hn0
  have hmd0 := md_pos n
  refine T_comp [("turn", .un)] [("n", .i n), ("deal", .v vd)] (.nums []) (opens_range hA.h ?_)
  top_args
  rename_i ra
  refine ⟨_, _, _, .head _, (range_0 (by (first | lia | omega))).1, _, (range_0 (by (first | lia | omega))).2, All.cons (by passes_own) (All.cons (by passes_own) All.nil), fun a1 => ⟨fun j σ => ∃ tv fx fr us i sd, us.length = j ∧ (∀ u ∈ us, u < md n) ∧ σ = ⟨[("turn", tv), ("n", .i n), ("deal", .v vd)], fx, fr, [(a1, .nums (natZ us)), (vd, .deal v0 ns i sd)]⟩, ⟨_, _, _, [], _, _, rfl, (fun _ h => nomatch h), rfl⟩, ?_, ?_⟩⟩
  · rintro C j σ' hj ⟨tv, fx, fr, us, i4, sd4, hlu, hu, rfl⟩
    refine ⟨_, by one_sign, ?_⟩
    with_reducible refine T_tests_nil ?_
    refine ⟨fun _ => ?_, nofun⟩
    top_args
    with_reducible refine T_dc2 (con_element wd (by (first | lia | omega))) (hA.le (by (first | lia | omega))) All.nil ?_
    rintro v i5 sd5 ⟨r5, t5, rfl, h50, h51⟩
    obtain ⟨u, rfl⟩ := Int.eq_ofNat_of_zero_le h50
    top_args
    with_reducible refine T_addNum (by leaf_len) (by rw [natZ_len]; (first | lia | omega)) ?_
    dsimp only
    rw [natZ_append]
    refine ⟨_, _, _, us ++ [u], _, _, by rw [List.length_append, hlu]; rfl, fun x hx => ?_, rfl⟩
    rcases List.mem_append.mp hx with q | q
    · exact hu x q
    · cases List.mem_singleton.mp q
      rw [← md_cast] at h51
      (first | lia | omega)
  rintro σ' ⟨tv, fx, fr, us, i4, sd4, hlu, hu, rfl⟩
  refine ⟨[("turn", tv)], [], [(vd, .deal v0 ns i4 sd4)], _, Wk.of (by kernel_rfl) All.nil All.nil, rfl, ?_⟩
  top_args
  refine T_comp [("turn", .un)] [("n", .i n), ("deal", .v vd)] (.nums []) (opens_range hA.h ?_)
  top_args
  rename_i rb
  refine ⟨_, _, _, .head _, (range_0 (by (first | lia | omega))).1, _, (range_0 (by (first | lia | omega))).2, All.cons (by passes_own) (All.cons (by passes_own) All.nil), fun a2 => ⟨fun j σ => ∃ tv fx fr vs i sd, vs.length = j ∧ (∀ u ∈ vs, u < md n) ∧ (a1, D.nums (natZ us)) ∈ fx ∧ σ = ⟨[("turn", tv), ("n", .i n), ("deal", .v vd)], fx, fr, [(a2, .nums (natZ vs)), (vd, .deal v0 ns i sd)]⟩, ⟨_, _, _, [], _, _, rfl, (fun _ h => nomatch h), by passes_own, rfl⟩, ?_, ?_⟩⟩
  · rintro C j σ' hj ⟨tv, fx, fr, vs, i4, sd4, hlu, hu, hfx, rfl⟩
    refine ⟨_, by one_sign, ?_⟩
    with_reducible refine T_tests_nil ?_
    refine ⟨fun _ => ?_, nofun⟩
    top_args
    with_reducible refine T_dc2 (con_element wd (by (first | lia | omega))) (hA.le (by (first | lia | omega))) All.nil ?_
    rintro v i5 sd5 ⟨r5, t5, rfl, h50, h51⟩
    obtain ⟨u, rfl⟩ := Int.eq_ofNat_of_zero_le h50
    top_args
    with_reducible refine T_addNum (by leaf_len) (by rw [natZ_len]; (first | lia | omega)) ?_
    dsimp only
    rw [natZ_append]
    refine ⟨_, _, _, vs ++ [u], _, _, by rw [List.length_append, hlu]; rfl, fun x hx => ?_, hfx, rfl⟩
    rcases List.mem_append.mp hx with q | q
    · exact hu x q
    · cases List.mem_singleton.mp q
      rw [← md_cast] at h51
      (first | lia | omega)
  rintro σ' ⟨tv, fx, fr, us2, i6, sd6, hlv, hv, hfx, rfl⟩
  refine ⟨[("turn", tv)], [(a1, .nums (natZ us))], [(vd, .deal v0 ns i6 sd6)], _, Wk.of (by kernel_rfl) (All.cons hfx All.nil) All.nil, rfl, ?_⟩
  top_args
  have hlv' : us2.length = us.length := hlv.trans hlu.symm
  have hmu : Many us.length := by rw [hlu]; exact hm
  have eu : (natZ us)[0]? = some ((us[0]'(by (first | lia | omega)) : Nat) : Int) := by simp [natZ, List.getElem?_eq_getElem (show 0 < us.length by (first | lia | omega))]
  have ev : (natZ us2)[0]? = some ((us2[0]'(by (first | lia | omega)) : Nat) : Int) := by simp [natZ, List.getElem?_eq_getElem (show 0 < us2.length by (first | lia | omega))]
  have bu : us[0]'(by (first | lia | omega)) < md n := hu _ (List.getElem_mem _)
  have bv : us2[0]'(by (first | lia | omega)) < md n := hv _ (List.getElem_mem _)
  generalize us[0]'(by (first | lia | omega)) = x0 at eu bu
  generalize us2[0]'(by (first | lia | omega)) = y0 at ev bv
  with_reducible refine T_item (x := (x0 : Int)) (by pv_eval) (by decide) (by decide) eu ?_
  intro _
  top_args
  with_reducible refine T_item (x := (y0 : Int)) (by pv_eval) (by decide) (by decide) ev ?_
  intro _
  top_args
  with_reducible refine T_dc (con_sums wd hw hw9 hn0 (by (first | lia | omega)) bu bv) (hA.le (by (first | lia | omega))) All.nil ?_
  rintro v i7 sd7 rfl
  top_args
  refine ⟨fun _ => ?_, nofun⟩
  top_args
  with_reducible refine T_item (x := (y0 : Int)) (by pv_eval) (by decide) (by decide) ev ?_
  intro _
  top_args
  with_reducible refine T_item (x := (x0 : Int)) (by pv_eval) (by decide) (by decide) eu ?_
  intro _
  top_args
  with_reducible refine T_dc (con_sums wd hw hw9 hn0 (by (first | lia | omega)) bv bu) (hA.le (by (first | lia | omega))) All.nil ?_
  rintro v i8 sd8 rfl
  top_args
  refine ⟨fun _ => ?_, nofun⟩
  top_args
  refine ⟨nofun, fun _ => ?_⟩
  have en' : us.length * c = n := by rw [hlu]; exact en
  have hV := LW.v us c hmu hc0
  have hW := LW.w us c hmu hc0 (by rw [en']; exact hu)
  have hP := LW.p us us2 c hmu hlv' hc0
  have hM := LW.m us us2 c hmu hlv' hc0
  rw [en'] at hV hW hP hM
  top_args
  with_reducible refine T_pure_b (con_values wd hw hw9 hn0 (by (first | lia | omega)) hmu hu hV hW) (hA.le (by (first | lia | omega))) (rd1 (by pv_eval)) ?_
  top_args
  refine ⟨fun _ => ?_, nofun⟩
  top_args
  with_reducible refine T_pure_b (con_round wd hw hw9 hn0 (by (first | lia | omega)) hmu hlv' hu hv hP hM) (hA.le (by (first | lia | omega))) (rd2 (by pv_eval) (by pv_eval)) ?_
  exact ⟨_, rfl, rfl⟩
theorem said_ok : PySem.Challenge.rw_nn0015_01.wellSaid = true := by
  unfold OpenLaw.wellSaid OpenRow.wellSaid OpenRow.partSaid looksOpen
  with_reducible repeat' refine look_both ?_ ?_
  all_goals decide +kernel
theorem joined : PySem.Challenge.rw_nn0015_01.Holds := by
  w_on
  refine holds_law said_ok fun said => ?_
  refine holds_open (q := qE) (loose := []) (Xt := XtE) (XP := XL qE []) (Yf := Hook.obs HE) (Ya := Hook.val HE) (YP := Hook.says HE) (N := 3088) headLeft (Hook.of HE) (Hook.keeps HE) (fun s e => xl_of s (Bool.and_eq_true_iff.mp e).1) XL.keeps (by rfl) (by rfl) (by rfl)
    (fun s e => recFacts_of (Bool.and_eq_true_iff.mp e).2) (by rfl) (by first | assumption | decide +kernel) (by decide +kernel) ⟨rfl, rfl, rfl, rfl, rfl, by decide +kernel⟩ ?hw ?_
  (case hw => w_witness2)
  intro w s₀ s₁ mg mb G Y fa o pm cd doc dV kV ho hfd hcd hD hmg hg args vals as hpre hlay hrd hwl hlo
  have KX : (hK w.params).In s₁.heap := kIn_of Y
  have T := G.T
  have hfa : fa = 252 := by
    have e := mg_of KX T.g (n := "law") (v := .ref 252) (by kernel_rfl)
    have : mg "law" = some (.ref fa) := hmg
    rw [e] at this
    cases this
    rfl
  clear hfd hcd hD hmg
  subst hfa
  wrow_args hpre hlay hrd hwl hlo
  rename_i zs _ _ _ _ _ _ _ a vs _ hL _ _ _ hI _ hc1 _
  refine wpAny_mono ((con_law laws w (vs := .ref a) (zs := zs) (by (first | lia | omega))).run callerA s₁ ⟨rfl, by decide, by decide⟩ ⟨KX, _, _, mg, mb, topRead_of T⟩ fun p hp => ?_) (fun v s' hv => ?_) fun _ _ f => f.elim
  · cases List.mem_singleton.mp hp
    exact ⟨a, rfl, vs, hL, hI⟩
  · obtain ⟨h', tk', e, sub, ev⟩ := hv
    cases (show v = Value.bool true from ev)
    subst e
    exact ⟨.inl ⟨.bool true, .bool true, [], rfl, fun _ => rfl, .bool true, (by kernel_rfl), fun _ => ⟨.nil, nofun⟩⟩, .of_keep sub, rfl, .of_eq hg⟩
end Mine
end
theorem PySem.Challenge.cw_nn0015_01_holds : PySem.Challenge.rw_nn0015_01.Holds :=
  Mine.joined
