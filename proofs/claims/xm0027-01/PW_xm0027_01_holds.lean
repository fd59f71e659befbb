import PyProof.Rows.All
import Wide.All
import OpenK.AllK
import Wide.FinOn
import PySem.Challenge.RW_xm0027_01
open PySem PySem.W PyProof.Rows
set_option Elab.async false
namespace Mine
set_option maxRecDepth 100000 in
set_option maxHeartbeats 8000000 in
open_top hd for PySem.Challenge.rw_xm0027_01
local macro_rules | `(tactic| walk_at "call ref") => `(tactic| (k_here; k_dflt (refine wpAny_call ?_; (refine' code_def ?k1 ?k2 ?k3 ?k4 ?k5 ?kA ?kF ?kK ?k6 ?k7 ?k8 ?k9 ?kB ?_ ?c2 ?c3 ?c4 ?c5; (case kA => exact rfl); (case kF => exact rfl); (case kK => first | exact rfl | assumption); (case k1 => k_asm); (case k2 => k_asm); (case k3 => k_asm); (case k4 => k_asm); (case k5 => k_asm); (case k6 => k_is); (case k7 => k_is); (case k8 => ktr_room); (case k9 => exact BindsTo.of_eq rfl); (case c5 => decide); (case kB => exact locs rfl); (case c2 => exact rfl); (case c3 => exact rfl); (case c4 => exact rfl); k_whole; intro g' L' h' FG' F' N' B' X' T'; (try dsimp only); (try k_lift B'); (try k_fold)))))
local macro_rules | `(tactic| walk_at $s:str) => `(tactic| k_extra $s)
local macro_rules | `(tactic| k_mem) => `(tactic| assumption)
local macro_rules | `(tactic| k_all) => `(tactic| k_extra "k_all")
/-- what a call of one of the text's defs does, in whatever frame -/
def Does (k : Nat) (w : World) (p : Program) (loose : List Str) (mean : ExcName → Option Value) (mg mb : Str → Option Value) (f : Addr) (news : List (Addr × Obj)) (vs : List Value) (Res : Value → List (Addr × Obj) → Prop) : Prop :=
  ∀ (dp un : Nat) (gd : Option (List Code)) (cn : Str) (cs : Scope) (a : Addr) (ccd : Value) (cl : List (Str × Addr)) (outer : List Env) (A₀ : Around) (base h₀ : Heap) (L : Addr) (m : Str → Option Value) (s : Shared) (Q E : Value → Shared → Prop),
    Below A₀ base outer h₀ → Fr h₀ L s.heap m → (hd.heap_39 w.params).In h₀ → News h₀ L s.heap news → Top p loose mean mg mb h₀ → cs.kind = .function → dp + k < recursionLimit → un + 8 * k < cLine →
    (∀ (r : Value) (news' : List (Addr × Obj)) (h' : Heap) (tk' : Nat), Fr h₀ L h' m → News h₀ L h' news' → Res r news' → Q r { s with heap := h', toks := tk' }) →
    wpAny (model PySem.Challenge.rw_xm0027_01.row.prog w) (ktrTop dp un gd cn cs L a ccd cl outer) (call (.ref f) vs) Q E s

/-- does part stand in text at place b - 1 + j -/
def standsAt (text part : Str) (b : Int) (j : Nat) : Bool := Txt.slice text (some (b - 1 + j)) (some (b - 1 + j + part.length)) == part
def turnsOf (text part : Str) (b : Int) : Nat := ((text.length : Int) - part.length + 1 - (b - 1)).toNat
def foundAt (text part : Str) (b : Int) : Int :=
  if (text.length : Int) < b then 0 else
    match (List.range (turnsOf text part b)).find? (standsAt text part b) with
    | some j => b - 1 + j + 1
    | none => 0
theorem found_nonneg {text part : Str} {b : Int} (h : 1 ≤ b) : 0 ≤ foundAt text part b := by
  unfold foundAt
  split
  · exact Int.le_refl _
  · split <;> omega
theorem found_le {text part : Str} {b : Int} (hT : text.length ≤ 64) : foundAt text part b ≤ 65 := by
  unfold foundAt
  split
  · omega
  · split
    · rename_i j hj
      have hm := List.mem_of_find?_eq_some hj
      rw [List.mem_range] at hm
      unfold turnsOf at hm
      omega
    · omega
theorem found_early {text part : Str} {b : Int} (h : (text.length : Int) < b) : foundAt text part b = 0 := by
  unfold foundAt; rw [if_pos h]
theorem found_here {text part : Str} {b k : Int} {pre : List Int} (h : ¬ (text.length : Int) < b) (e : k = b - 1 + (pre.length : Int)) (lt : pre.length < turnsOf text part b)
    (no : ∀ j, j < pre.length → standsAt text part b j = false) (y : (Txt.slice text (some k) (some (k + part.length)) == part) = true) : foundAt text part b = k + 1 := by
  unfold foundAt; rw [if_neg h]
  have : (List.range (turnsOf text part b)).find? (standsAt text part b) = some pre.length := by
    rw [List.find?_range_eq_some]
    refine ⟨by unfold standsAt; rw [← e]; exact y, List.mem_range.mpr lt, fun j hj => ?_⟩
    rw [no j hj]; rfl
  rw [this, e]
theorem found_none {text part : Str} {b : Int} (h : ¬ (text.length : Int) < b)
    (no : ∀ j, j < (rangeKs (b - 1) (turnsOf text part b)).length → standsAt text part b j = false) : foundAt text part b = 0 := by
  unfold foundAt; rw [if_neg h]
  have : (List.range (turnsOf text part b)).find? (standsAt text part b) = none := by
    rw [List.find?_range_eq_none]
    intro j hj
    rw [no j (by rw [rangeKs_length]; exact hj)]; rfl
  rw [this]
theorem found_turn {text part : Str} {b k : Int} {pre : List Int} (no : ∀ j, j < pre.length → standsAt text part b j = false) (e : k = b - 1 + (pre.length : Int))
    (y : (Txt.slice text (some k) (some (k + part.length)) == part) = false) : ∀ j, j < (pre ++ [k]).length → standsAt text part b j = false := by
  intro j hj
  rw [List.length_append, List.length_singleton] at hj
  by_cases h : j < pre.length
  · exact no j h
  · obtain rfl : j = pre.length := by omega
    unfold standsAt; rw [← e]; exact y
set_option maxRecDepth 100000 in
set_option maxHeartbeats 8000000 in
theorem found_c (w : World) {p loose mean mg mb} (text part : Str) (tt pt bt : Tok) (b : Int) (hT : text.length ≤ 64) (hP : part.length ≤ 64) (hb : 1 ≤ b) (hb2 : b ≤ 256) (news : List (Addr × Obj)) :
    Does 2 w p loose mean mg mb 93 news [.str text tt, .str part pt, .int b bt] (fun r news' => news = news' ∧ ∃ t, r = .int (foundAt text part b) t) := by
  w_top off
  k_with_none
  unfold Does
  k_fill
  intro dp un gd cn cs a ccd cl outer A₀ base h₀ L m s Q E B F X N T hk hd hu hret
  refine wpAny_call ?_
  k_dflt cell_enter
  (k_with "pyIter ref" => k_search (fun pre => ∀ j, j < pre.length → standsAt text part b j = false))
  (k_with "state" => first | exact fun j hj => absurd hj (Nat.not_lt_zero j) | exact found_turn (by assumption) (by assumption) (by assumption))
  k_steps
  · exact hret _ news _ _ (by assumption) (by assumption) ⟨rfl, _, congrArg (fun x => Value.int x _) (found_early (by assumption)).symm⟩
  · exact hret _ news _ _ (by assumption) (cb_drop (by assumption) (by kcj_all)) ⟨rfl, _, congrArg (fun x => Value.int x _) (found_here (by assumption) (by assumption) (by assumption) (by assumption) (by assumption)).symm⟩
  · exact hret _ news _ _ (by assumption) (by assumption) ⟨rfl, _, congrArg (fun x => Value.int x _) (found_none (by assumption) (by assumption)).symm⟩
theorem does_use {k : Nat} {w : World} {p : Program} {loose : List Str} {mean : ExcName → Option Value} {mg mb : Str → Option Value} {f : Addr} {news : List (Addr × Obj)} {vs : List Value} {Res : Value → List (Addr × Obj) → Prop}
    {dp un : Nat} {gd : Option (List Code)} {cn : Str} {cs : Scope} {a : Addr} {ccd : Value} {cl : List (Str × Addr)} {outer : List Env} {A₀ : Around} {base h₀ : Heap} {L : Addr} {m : Str → Option Value} {s : Shared} {Q E : Value → Shared → Prop}
    (D : Does k w p loose mean mg mb f news vs Res) (B : Below A₀ base outer h₀) (F : Fr h₀ L s.heap m) (X : (hd.heap_39 w.params).In h₀) (N : News h₀ L s.heap news) (T : Top p loose mean mg mb h₀) (hk : cs.kind = .function) (h1 : dp + k < recursionLimit) (h2 : un + 8 * k < cLine)
    (ret : ∀ (r : Value) (news' : List (Addr × Obj)) (h' : Heap) (tk' : Nat), Fr h₀ L h' m → News h₀ L h' news' → Res r news' → Q r { s with heap := h', toks := tk' }) :
    wpAny (model PySem.Challenge.rw_xm0027_01.row.prog w) (ktrTop dp un gd cn cs L a ccd cl outer) (call (.ref f) vs) Q E s := D _ _ _ _ _ _ _ _ _ _ _ _ _ _ _ _ _ B F X N T hk h1 h2 ret
theorem does_use2 {k : Nat} {w : World} {p : Program} {loose : List Str} {mean : ExcName → Option Value} {mg mb : Str → Option Value} {f : Addr} {news : List (Addr × Obj)} {vs : List Value} {Res : Value → List (Addr × Obj) → Prop}
    {dp un : Nat} {gd : Option (List Code)} {cn : Str} {cs : Scope} {a : Addr} {ccd : Value} {cl : List (Str × Addr)} {outer : List Env} {A₀ : Around} {base h₀ : Heap} {L : Addr} {m : Str → Option Value} {s : Shared} {Q E : Value → Shared → Prop}
    (B : Below A₀ base outer h₀) (F : Fr h₀ L s.heap m) (X : (hd.heap_39 w.params).In h₀) (N : News h₀ L s.heap news) (T : Top p loose mean mg mb h₀) (hk : cs.kind = .function) (D : Does k w p loose mean mg mb f news vs Res) (h1 : dp + k < recursionLimit) (h2 : un + 8 * k < cLine)
    (ret : ∀ (r : Value) (news' : List (Addr × Obj)) (h' : Heap) (tk' : Nat), Fr h₀ L h' m → News h₀ L h' news' → Res r news' → Q r { s with heap := h', toks := tk' }) :
    wpAny (model PySem.Challenge.rw_xm0027_01.row.prog w) (ktrTop dp un gd cn cs L a ccd cl outer) (call (.ref f) vs) Q E s := does_use D B F X N T hk h1 h2 ret
def nth : List Value → Nat → Option Value
  | [], _ => none
  | v :: _, 0 => some v
  | _ :: r, n + 1 => nth r n
theorem nth_eq : ∀ (vs : List Value) (k : Nat), nth vs k = vs[k]?
  | [], k => by simp [nth]
  | v :: r, 0 => by simp [nth]
  | v :: r, k + 1 => by simp [nth, nth_eq r k]
theorem item_c {prog : Program} {w : World} {A : Around} {E : Value → Shared → Prop} {s : Shared} {h₀ : Heap} {L : Addr} {news : List (Addr × Obj)} {value slice : PySem.Expr} {q : Addr} {n : Nat} {its : Array Value} {k : Int} {u : Tok} {v : Value} {Q : Value → Shared → Prop}
    (N : News h₀ L s.heap news) (hm : (q, listOf its n) ∈ news) (h0 : 0 ≤ k) (hhi : k < 2 ^ 63) (hx : nth its.toList k.toNat = some v) (h : Q v s)
    (hs : subscripted slice false (.ref q) (.int k u) = operate [.ref q, .int k u] (getItem (.ref q) (.int k u)) := by with_unfolding_all rfl) :
    wpAny (model prog w) A (subscriptTail value slice (.ref q) (.int k u)) Q E s :=
  have hl : s.heap.IsList q its := ⟨_, (N _ hm).1, rfl, _, rfl⟩
  tail_any hl.typeIs slot_list_getitem.lookup (wpAny_getItem_list hl h0 hhi (by rw [nth_eq] at hx; simpa using hx) h) hs
set_option maxRecDepth 100000 in
set_option maxHeartbeats 8000000 in
theorem instr2_c (w : World) {p loose mean mg mb} (text part : Str) (tt pt : Tok) (q : Addr) (n : Nat) (news : List (Addr × Obj)) (hq : (q, listOf #[.str text tt, .str part pt] n) ∈ news) (hT : text.length ≤ 64) (hP : part.length ≤ 64) :
    Does 5 w p loose mean mg mb 100 news [.none, .ref q] (fun r news' => news = news' ∧ ∃ t, r = .int (foundAt text part 1) t ∧ 0 ≤ foundAt text part 1 ∧ foundAt text part 1 ≤ 65) := by
  w_top off
  k_with_none
  (k_with "subscriptTail" => (k_here; (with_reducible show wpAny _ _ (subscriptTail _ _ (Value.ref _) (Value.int _ _)) _ _ _); k_dflt (refine item_c (by k_asm) (by k_mem) (by decide) (by decide) (by rfl) ?_ (by with_unfolding_all rfl); k_whole)))
  (k_with "call ref" => (k_here; (with_reducible show wpAny _ _ (call (Value.ref 93) _) _ _ _); k_dflt (refine does_use2 (by k_asm) (by k_asm) (by k_asm) (by k_asm) (by k_asm) (by first | exact rfl | assumption) (found_c _ _ _ _ _ _ _ (by omega) (by omega) (by omega) (by omega) _) (by ktr_room) (by ktr_units) ?_; k_whole; intro r9 news9 h9 tk9 F9 N9 hr9; obtain ⟨hA9, t9, hB9⟩ := hr9; subst hA9; subst hB9; (try dsimp only); (try k_fold))))
  unfold Does
  k_fill
  intro dp un gd cn cs a ccd cl outer A₀ base h₀ L m s Q E B F X N T hk hd hu hret
  refine wpAny_call ?_
  k_dflt cell_enter
  k_steps

  exact hret _ news _ _ (by assumption) (by first | assumption | exact cb_drop (by assumption) (by kcj_all)) ⟨rfl, _, rfl, found_nonneg (by omega), found_le hT⟩
set_option maxRecDepth 100000 in
set_option maxHeartbeats 8000000 in
theorem instr3_c (w : World) {p loose mean mg mb} (text part : Str) (tt pt bt : Tok) (b : Int) (q : Addr) (n : Nat) (news : List (Addr × Obj)) (hq : (q, listOf #[.int b bt, .str text tt, .str part pt] n) ∈ news) (hT : text.length ≤ 64) (hP : part.length ≤ 64) (hb : 1 ≤ b) (hb2 : b ≤ 200) :
    Does 5 w p loose mean mg mb 100 news [.none, .ref q] (fun r news' => news = news' ∧ ∃ t, r = .int (foundAt text part b) t ∧ 0 ≤ foundAt text part b ∧ foundAt text part b ≤ 65) := by
  w_top off
  k_with_none
  (k_with "subscriptTail" => (k_here; (with_reducible show wpAny _ _ (subscriptTail _ _ (Value.ref _) (Value.int _ _)) _ _ _); k_dflt (refine item_c (by k_asm) (by k_mem) (by decide) (by decide) (by rfl) ?_ (by with_unfolding_all rfl); k_whole)))
  (k_with "call ref" => (k_here; (with_reducible show wpAny _ _ (call (Value.ref 93) _) _ _ _); k_dflt (refine does_use2 (by k_asm) (by k_asm) (by k_asm) (by k_asm) (by k_asm) (by first | exact rfl | assumption) (found_c _ _ _ _ _ _ _ (by omega) (by omega) (by omega) (by omega) _) (by ktr_room) (by ktr_units) ?_; k_whole; intro r9 news9 h9 tk9 F9 N9 hr9; obtain ⟨hA9, t9, hB9⟩ := hr9; subst hA9; subst hB9; (try dsimp only); (try k_fold))))
  unfold Does
  k_fill
  intro dp un gd cn cs a ccd cl outer A₀ base h₀ L m s Q E B F X N T hk hd hu hret
  refine wpAny_call ?_
  k_dflt cell_enter
  k_steps
  all_goals first
    | exact hret _ news _ _ (by assumption) (by first | assumption | exact cb_drop (by assumption) (by kcj_all)) ⟨rfl, _, rfl, found_nonneg (by omega), found_le hT⟩
    | (exfalso; omega)
theorem len_c {prog : Program} {w : World} {A : Around} {E : Value → Shared → Prop} {s : Shared} {h₀ : Heap} {L : Addr} {news : List (Addr × Obj)} {q : Addr} {n : Nat} {vs : List Value} {Q : Value → Shared → Prop}
    (N : News h₀ L s.heap news) (hm : (q, listOf vs.toArray n) ∈ news) (hf : ((vs.toArray.size : Nat) : Int) < 2 ^ 63) (h : Q (.int (vs.toArray.size : Nat) (s.toks + 1)) { s with toks := s.toks + 1 + 1 }) :
    wpAny (model prog w) A (call (.builtin "len") [.ref q]) Q E s :=
  have hl : s.heap.IsList q vs.toArray := ⟨_, (N _ hm).1, rfl, _, rfl⟩
  PySem.Calls.call_len_list hl hf h
def rightOf (text : Str) (k : Int) : Str := Txt.slice text (some (if 0 > (text.length : Int) - k then 0 else (text.length : Int) - k)) none
theorem right_le (text : Str) (k : Int) : (rightOf text k).length ≤ text.length := Txt.slice_le _ _ _
def midOf (text : Str) (b : Int) : Str := Txt.slice text (some (b - 1)) (some (b - 1 + 255))
theorem mid_le (text : Str) (b : Int) : (midOf text b).length ≤ text.length := Txt.slice_le _ _ _
set_option maxRecDepth 100000 in
set_option maxHeartbeats 8000000 in
theorem right_c (w : World) {p loose mean mg mb} (text : Str) (tt kt : Tok) (k : Int) (q : Addr) (n : Nat) (news : List (Addr × Obj)) (hq : (q, listOf #[.str text tt, .int k kt] n) ∈ news) (hT : text.length ≤ 64) (hb : 0 ≤ k) (hb2 : k ≤ 200) :
    Does 5 w p loose mean mg mb 107 news [.none, .ref q] (fun r news' => news = news' ∧ ∃ t, r = .str (rightOf text k) t ∧ (rightOf text k).length ≤ text.length) := by
  w_top off
  k_with_none
  (k_with "call builtin:len" => (k_here; (with_reducible show wpAny _ _ (call (Value.builtin "len") [Value.ref _]) _ _ _); k_dflt (refine len_c (by k_asm) (by k_mem) (by decide) ?_; k_whole)))
  (k_with "subscriptTail" => (k_here; (with_reducible show wpAny _ _ (subscriptTail _ _ (Value.ref _) (Value.int _ _)) _ _ _); k_dflt (refine item_c (by k_asm) (by k_mem) (by decide) (by decide) (by rfl) ?_ (by with_unfolding_all rfl); k_whole)))
  unfold Does
  k_fill
  intro dp un gd cn cs a ccd cl outer A₀ base h₀ L m s Q E B F X N T hk hd hu hret
  refine wpAny_call ?_
  k_dflt cell_enter
  k_steps
  all_goals first
    | exact hret _ news _ _ (by assumption) (by first | assumption | exact cb_drop (by assumption) (by kcj_all)) ⟨rfl, _, rfl, right_le _ _⟩
    | (exfalso; omega)
set_option maxRecDepth 100000 in
set_option maxHeartbeats 8000000 in
theorem mid_c (w : World) {p loose mean mg mb} (text : Str) (tt bt : Tok) (b : Int) (q : Addr) (n : Nat) (news : List (Addr × Obj)) (hq : (q, listOf #[.str text tt, .int b bt] n) ∈ news) (hT : text.length ≤ 64) (hb : 1 ≤ b) (hb2 : b ≤ 200) :
    Does 5 w p loose mean mg mb 114 news [.none, .ref q] (fun r news' => news = news' ∧ ∃ t, r = .str (midOf text b) t ∧ (midOf text b).length ≤ text.length) := by
  w_top off
  k_with_none
  (k_with "call builtin:len" => (k_here; (with_reducible show wpAny _ _ (call (Value.builtin "len") [Value.ref _]) _ _ _); k_dflt (refine len_c (by k_asm) (by k_mem) (by decide) ?_; k_whole)))
  (k_with "subscriptTail" => (k_here; (with_reducible show wpAny _ _ (subscriptTail _ _ (Value.ref _) (Value.int _ _)) _ _ _); k_dflt (refine item_c (by k_asm) (by k_mem) (by decide) (by decide) (by rfl) ?_ (by with_unfolding_all rfl); k_whole)))
  unfold Does
  k_fill
  intro dp un gd cn cs a ccd cl outer A₀ base h₀ L m s Q E B F X N T hk hd hu hret
  refine wpAny_call ?_
  k_dflt cell_enter
  k_steps
  all_goals first
    | exact hret _ news _ _ (by assumption) (by first | assumption | exact cb_drop (by assumption) (by kcj_all)) ⟨rfl, _, rfl, mid_le _ _⟩
    | (exfalso; omega)
set_option maxRecDepth 100000 in
set_option maxHeartbeats 8000000 in
theorem joined_c (w : World) {p loose mean mg mb} (one other : Str) (tt bt : Tok) (hT : one.length ≤ 100) (hO : other.length ≤ 100) (news : List (Addr × Obj)) :
    Does 4 w p loose mean mg mb 121 news [.str one tt, .str other bt] (fun r news' => news = news' ∧ ∃ t, r = .str (one ++ other) t) := by
  w_top off
  k_with_none
  (k_with "call builtin:len" => (k_here; (with_reducible show wpAny _ _ (call (Value.builtin "len") [Value.ref _]) _ _ _); k_dflt (refine len_c (by k_asm) (by k_mem) (by decide) ?_; k_whole)))
  (k_with "subscriptTail" => (k_here; (with_reducible show wpAny _ _ (subscriptTail _ _ (Value.ref _) (Value.int _ _)) _ _ _); k_dflt (refine item_c (by k_asm) (by k_mem) (by decide) (by decide) (by rfl) ?_ (by with_unfolding_all rfl); k_whole)))
  unfold Does
  k_fill
  intro dp un gd cn cs a ccd cl outer A₀ base h₀ L m s Q E B F X N T hk hd hu hret
  refine wpAny_call ?_
  k_dflt cell_enter
  k_steps
  all_goals first
    | exact hret _ news _ _ (by assumption) (by first | assumption | exact cb_drop (by assumption) (by kcj_all)) ⟨rfl, _, rfl⟩
    | (exfalso; omega)
def onlyAt (text word : Str) : Int := if foundAt text word 1 > 0 ∧ foundAt text word (foundAt text word 1 + 1) = 0 then foundAt text word 1 else 0
theorem only_bounds {text word : Str} (hT : text.length ≤ 64) : 0 ≤ onlyAt text word ∧ onlyAt text word ≤ 65 := by
  have := found_le (part := word) (b := 1) hT
  unfold onlyAt
  split <;> omega
set_option maxRecDepth 100000 in
set_option maxHeartbeats 8000000 in
theorem only_c (w : World) {p loose mean mg mb} (text word : Str) (tt bt : Tok) (hT : text.length ≤ 64) (hP : word.length ≤ 64) (news : List (Addr × Obj)) :
    Does 7 w p loose mean mg mb 157 news [.str text tt, .str word bt] (fun r news' => news = news' ∧ ∃ t, r = .int (onlyAt text word) t ∧ 0 ≤ onlyAt text word ∧ onlyAt text word ≤ 65) := by
  w_top off
  k_with_none
  (k_with "call builtin:len" => (k_here; (with_reducible show wpAny _ _ (call (Value.builtin "len") [Value.ref _]) _ _ _); k_dflt (refine len_c (by k_asm) (by k_mem) (by decide) ?_; k_whole)))
  (k_with "subscriptTail" => (k_here; (with_reducible show wpAny _ _ (subscriptTail _ _ (Value.ref _) (Value.int _ _)) _ _ _); k_dflt (refine item_c (by k_asm) (by k_mem) (by decide) (by decide) (by rfl) ?_ (by with_unfolding_all rfl); k_whole)))
  (k_with "call ref" => (k_here; (with_reducible show wpAny _ _ (call (Value.ref 100) _) _ _ _); k_dflt (refine does_use2 (by k_asm) (by k_asm) (by k_asm) (by k_asm) (by k_asm) (by first | exact rfl | assumption) (instr2_c _ _ _ _ _ _ _ _ (by k_mem) (by first | omega | (simp only [Str.length_append] at *; omega)) (by first | omega | (simp only [Str.length_append] at *; omega))) (by ktr_room) (by ktr_units) ?_;  k_whole; intro r9 news9 h9 tk9 F9 N9 hr9; (obtain ⟨hA9, t9, hB9, hC9, hD9⟩ := hr9; subst hA9; subst hB9);  (try dsimp only); (try k_fold))))
  (k_with "call ref" => (k_here; (with_reducible show wpAny _ _ (call (Value.ref 100) _) _ _ _); k_dflt (refine does_use2 (by k_asm) (by k_asm) (by k_asm) (by k_asm) (by k_asm) (by first | exact rfl | assumption) (instr3_c _ _ _ _ _ _ _ _ _ _ (by k_mem) (by first | omega | (simp only [Str.length_append] at *; omega)) (by first | omega | (simp only [Str.length_append] at *; omega)) (by omega) (by omega)) (by ktr_room) (by ktr_units) ?_;  k_whole; intro r9 news9 h9 tk9 F9 N9 hr9; (obtain ⟨hA9, t9, hB9, hC9, hD9⟩ := hr9; subst hA9; subst hB9);  (try dsimp only); (try k_fold))))
  unfold Does
  k_fill
  intro dp un gd cn cs a ccd cl outer A₀ base h₀ L m s Q E B F X N T hk hd hu hret
  refine wpAny_call ?_
  k_dflt cell_enter
  k_steps
  all_goals (
    refine hret _ news _ _ (by assumption) (by first | assumption | exact cb_drop (by assumption) (by kcj_all)) ⟨rfl, _, congrArg (fun x => Value.int x _) ?_, only_bounds hT⟩
    unfold onlyAt
    split <;> omega)
def longerOf (text signs : Str) (many : Int) : Str :=
  match signs.cps.toList.find? (fun c => foundAt text (rightOf text (many - 1) ++ ⟨#[c]⟩) 1 == 0) with
  | some c => text ++ ⟨#[c]⟩
  | none => text
theorem one_len (c : Nat) : (Str.mk #[c]).length = 1 := rfl
theorem longer_turn {text : Str} {many : Int} {pre : List Int} {n : Nat} (h : ∀ c : Nat, (c : Int) ∈ pre → foundAt text (rightOf text (many - 1) ++ ⟨#[c]⟩) 1 ≠ 0) (y : ¬ foundAt text (rightOf text (many - 1) ++ ⟨#[n]⟩) 1 = 0) :
    ∀ c : Nat, (c : Int) ∈ pre ++ [(n : Int)] → foundAt text (rightOf text (many - 1) ++ ⟨#[c]⟩) 1 ≠ 0 := by
  intro c hc
  rcases List.mem_append.mp hc with hc | hc
  · exact h c hc
  · rw [List.mem_singleton] at hc
    obtain rfl : c = n := by omega
    exact y
theorem longer_here {text signs : Str} {many : Int} {pre post : List Int} {n : Nat} (e : KStt.codes signs = pre ++ (n : Int) :: post) (h : ∀ c : Nat, (c : Int) ∈ pre → foundAt text (rightOf text (many - 1) ++ ⟨#[c]⟩) 1 ≠ 0) (y : foundAt text (rightOf text (many - 1) ++ ⟨#[n]⟩) 1 = 0) :
    longerOf text signs many = text ++ ⟨#[n]⟩ := by
  unfold longerOf
  have e' : signs.cps.toList = pre.map Int.toNat ++ n :: post.map Int.toNat := by
    have := congrArg (List.map Int.toNat) e
    rw [List.map_append, List.map_cons] at this
    unfold KStt.codes at this
    rw [List.map_map] at this
    have i : (Int.toNat ∘ fun (c : Nat) => (c : Int)) = id := by funext c; simp
    rw [i, List.map_id] at this
    exact this
  have p0 : ∀ c ∈ pre.map Int.toNat, foundAt text (rightOf text (many - 1) ++ ⟨#[c]⟩) 1 ≠ 0 := by
    intro c hc
    obtain ⟨x, hx, rfl⟩ := List.mem_map.mp hc
    have hx' : x ∈ KStt.codes signs := by rw [e]; exact List.mem_append.mpr (.inl hx)
    unfold KStt.codes at hx'
    obtain ⟨z, _, rfl⟩ := List.mem_map.mp hx'
    exact h _ (by simpa using hx)
  have f : signs.cps.toList.find? (fun c => foundAt text (rightOf text (many - 1) ++ ⟨#[c]⟩) 1 == 0) = some n := by
    rw [e', List.find?_append, List.find?_eq_none.mpr (fun c hc => by simpa using p0 c hc)]
    simp [y]
  rw [f]
theorem longer_none {text signs : Str} {many : Int} (h : ∀ c : Nat, (c : Int) ∈ KStt.codes signs → foundAt text (rightOf text (many - 1) ++ ⟨#[c]⟩) 1 ≠ 0) :
    longerOf text signs many = text := by
  unfold longerOf
  have f : signs.cps.toList.find? (fun c => foundAt text (rightOf text (many - 1) ++ ⟨#[c]⟩) 1 == 0) = none := by
    rw [List.find?_eq_none]
    intro c hc
    have := h c (by unfold KStt.codes; exact List.mem_map.mpr ⟨c, hc, rfl⟩)
    simpa using this
  rw [f]
set_option maxRecDepth 100000 in
set_option maxHeartbeats 8000000 in
theorem longer_c (w : World) {p loose mean mg mb} (text signs : Str) (many : Int) (tt bt mt : Tok) (hT : text.length ≤ 63) (hS : signs.length ≤ 64) (hm : 1 ≤ many) (hm2 : many ≤ 64) (news : List (Addr × Obj)) :
    Does 7 w p loose mean mg mb 150 news [.str text tt, .str signs bt, .int many mt] (fun r news' => news = news' ∧ ∃ t, r = .str (longerOf text signs many) t) := by
  w_top off
  k_with_none
  (k_with "call builtin:len" => (k_here; (with_reducible show wpAny _ _ (call (Value.builtin "len") [Value.ref _]) _ _ _); k_dflt (refine len_c (by k_asm) (by k_mem) (by decide) ?_; k_whole)))
  (k_with "subscriptTail" => (k_here; (with_reducible show wpAny _ _ (subscriptTail _ _ (Value.ref _) (Value.int _ _)) _ _ _); k_dflt (refine item_c (by k_asm) (by k_mem) (by decide) (by decide) (by rfl) ?_ (by with_unfolding_all rfl); k_whole)))
  (k_with "call ref" => (k_here; (with_reducible show wpAny _ _ (call (Value.ref 100) _) _ _ _); k_dflt (refine does_use2 (by k_asm) (by k_asm) (by k_asm) (by k_asm) (by k_asm) (by first | exact rfl | assumption) (instr2_c _ _ _ _ _ _ _ _ (by k_mem) (by first | omega | (simp only [Str.length_append] at *; omega)) (by first | omega | (simp only [Str.length_append] at *; omega))) (by ktr_room) (by ktr_units) ?_;  k_whole; intro r9 news9 h9 tk9 F9 N9 hr9; (obtain ⟨hA9, t9, hB9, hC9, hD9⟩ := hr9; subst hA9; subst hB9);  (try dsimp only); (try k_fold))))
  (k_with "call ref" => (k_here; (with_reducible show wpAny _ _ (call (Value.ref 107) _) _ _ _); k_dflt (refine does_use2 (by k_asm) (by k_asm) (by k_asm) (by k_asm) (by k_asm) (by first | exact rfl | assumption) (right_c _ _ _ _ _ _ _ _ (by k_mem) (by first | omega | (simp only [Str.length_append] at *; omega)) (by omega) (by omega)) (by ktr_room) (by ktr_units) ?_;  k_whole; intro r9 news9 h9 tk9 F9 N9 hr9; (obtain ⟨hA9, t9, hB9, hC9⟩ := hr9; subst hA9; subst hB9);  (try dsimp only); (try k_fold))))
  (k_with "call ref" => (k_here; (with_reducible show wpAny _ _ (call (Value.ref 121) _) _ _ _); k_dflt (refine does_use2 (by k_asm) (by k_asm) (by k_asm) (by k_asm) (by k_asm) (by first | exact rfl | assumption) (joined_c _ _ _ _ _ (by first | omega | (simp only [Str.length_append] at *; omega)) (by first | omega | (simp only [Str.length_append] at *; omega)) _) (by ktr_room) (by ktr_units) ?_;  k_whole; intro r9 news9 h9 tk9 F9 N9 hr9; (obtain ⟨hA9, t9, hB9⟩ := hr9; subst hA9; subst hB9);  (try dsimp only); (try k_fold))))
  unfold Does
  k_fill
  intro dp un gd cn cs a ccd cl outer A₀ base h₀ L m s Q E B F X N T hk hd hu hret
  refine wpAny_call ?_
  k_dflt cell_enter
  (k_with "pyIter str" =>
    rename Fr _ _ _ _ => lF'
    rename News _ _ _ _ => lN'
    with_unfolding_all refine' KStt.kst_text (σ := Unit) (fun _ => _) (fun _ => []) (fun _ => True) [] (fun pre _ => ∀ c : Nat, (c : Int) ∈ pre → foundAt text (rightOf text (many - 1) ++ ⟨#[c]⟩) 1 ≠ 0) () (by rfl) lF' lN' True.intro ?kk ?kp ?kturn ?kdone
    case kk => exact List.forall_mem_nil _
    case kp => exact (fun _ h => absurd h List.not_mem_nil)
    all_goals (try clear lF' lN')
    case' kturn => (intro kC kPre kPost kN kT kU kH kTk kOwn kEq kOff kFacts kInv kFr kNews; (try dsimp only at kNews); (have kMark := kstMark); (have hL9 := one_len kN); (try k_fold))
    case' kdone => (intro kC kU kH kTk kFacts kInv kFr kNews; (try dsimp only at kNews); (have kMark := kstMark); (try k_fold)))
  (k_with "state" => exact longer_turn (by assumption) (by assumption))
  k_steps
  all_goals first
    | exact hret _ news _ _ (by assumption) (by first | assumption | exact cb_drop (by assumption) (by kcj_all)) ⟨rfl, _, congrArg (fun x => Value.str x _) (longer_none (by assumption)).symm⟩
    | exact hret _ news _ _ (by assumption) (by first | assumption | exact cb_drop (by assumption) (by kcj_all)) ⟨rfl, _, congrArg (fun x => Value.str x _) (longer_here (by assumption) (by assumption) (by assumption)).symm⟩
    | (refine kst_end () (by assumption) (by assumption) (by kstt_sub) (by kstt_sub) (by rfl) True.intro (List.forall_mem_nil _) (by intro z h1 _ _; exact (if_neg h1)) (longer_turn (by assumption) (by assumption)))
theorem does_perm {k : Nat} {w : World} {p : Program} {loose : List Str} {mean : ExcName → Option Value} {mg mb : Str → Option Value} {f : Addr} {news₁ news₂ : List (Addr × Obj)} {vs : List Value} {Res₁ Res₂ : Value → List (Addr × Obj) → Prop}
    (D : Does k w p loose mean mg mb f news₁ vs Res₁) (h : ∀ p ∈ news₁, p ∈ news₂) (hr : ∀ r n', Res₁ r n' → ∃ n'', (∀ p ∈ n'', p ∈ n') ∧ Res₂ r n'') : Does k w p loose mean mg mb f news₂ vs Res₂ := by
  intro dp un gd cn cs a ccd cl outer A₀ base h₀ L m s Q E B F X N T hk hd hu hret
  refine D dp un gd cn cs a ccd cl outer A₀ base h₀ L m s Q E B F X (fun p hp => N p (h p hp)) T hk hd hu fun r n' h' tk' F' N' R => ?_
  obtain ⟨n'', hs, R'⟩ := hr r n' R
  exact hret r n'' h' tk' F' (fun p hp => N' p (hs p hp)) R'
theorem lenI_c {prog : Program} {w : World} {A : Around} {E : Value → Shared → Prop} {s : Shared} {h₀ : Heap} {L : Addr} {news : List (Addr × Obj)} {q : Addr} {n : Nat} {vs : List Value} {ns : List Int} {Q : Value → Shared → Prop}
    (N : News h₀ L s.heap news) (hm : (q, listOf vs.toArray n) ∈ news) (hI : IntsAre vs ns) (hf : ns.length ≤ 100) (h : Q (.int (ns.length : Nat) (s.toks + 1)) { s with toks := s.toks + 1 + 1 }) :
    wpAny (model prog w) A (call (.builtin "len") [.ref q]) Q E s := by
  have hl : s.heap.IsList q vs.toArray := ⟨_, (N _ hm).1, rfl, _, rfl⟩
  have e : vs.toArray.size = ns.length := by rw [List.size_toArray]; exact hI.length
  exact PySem.Calls.call_len_list hl (by omega) (by rw [e]; exact h)
theorem itemI_c {prog : Program} {w : World} {A : Around} {E : Value → Shared → Prop} {s : Shared} {h₀ : Heap} {L : Addr} {news : List (Addr × Obj)} {value slice : PySem.Expr} {q : Addr} {n : Nat} {vs : List Value} {ns : List Int} {k : Int} {u : Tok} {Q : Value → Shared → Prop}
    (N : News h₀ L s.heap news) (hm : (q, listOf vs.toArray n) ∈ news) (hI : IntsAre vs ns) (h0 : 0 ≤ k) (h1 : k < ns.length) (hf : ns.length ≤ 100) (h : ∀ t, Q (.int (ns.getD k.toNat 0) t) s)
    (hs : subscripted slice false (.ref q) (.int k u) = operate [.ref q, .int k u] (getItem (.ref q) (.int k u)) := by with_unfolding_all rfl) :
    wpAny (model prog w) A (subscriptTail value slice (.ref q) (.int k u)) Q E s := by
  have hl : s.heap.IsList q vs.toArray := ⟨_, (N _ hm).1, rfl, _, rfl⟩
  have hk : k.toNat < ns.length := by omega
  obtain ⟨t, hx⟩ := hI.get k.toNat ns[k.toNat] (by simp [hk])
  have e : ns.getD k.toNat 0 = ns[k.toNat] := by simp [List.getD_eq_getElem?_getD, hk]
  exact tail_any hl.typeIs slot_list_getitem.lookup (wpAny_getItem_list hl h0 (by omega) (by simpa using hx) (by rw [← e]; exact h t)) hs
def drawAt (ns : List Int) (k below : Int) : Int :=
  if k < ns.length then (if ns.getD k.toNat 0 < 0 then -ns.getD k.toNat 0 else ns.getD k.toNat 0).fmod below else (7 * k + 4).fmod below
theorem draw_in {ns : List Int} {k below : Int} (h : k < ns.length) : (if ns.getD k.toNat 0 < 0 then -ns.getD k.toNat 0 else ns.getD k.toNat 0).fmod below = drawAt ns k below := by
  unfold drawAt; rw [if_pos h]
theorem draw_out {ns : List Int} {k below : Int} (h : ¬ k < ns.length) : (7 * k + 4).fmod below = drawAt ns k below := by
  unfold drawAt; rw [if_neg h]
theorem draw_bounds (ns : List Int) (k : Int) {below : Int} (h : 1 ≤ below) : 0 ≤ drawAt ns k below ∧ drawAt ns k below < below := by
  unfold drawAt
  split <;> exact ⟨Int.fmod_nonneg_of_pos _ (by omega), Int.fmod_lt_of_pos _ (by omega)⟩
set_option maxRecDepth 100000 in
set_option maxHeartbeats 8000000 in
theorem begin0_c (w : World) {p loose mean mg mb} (b q : Addr) (vs : List Value) (ns : List Int) (nq n : Nat) (k below : Int) (kt bt : Tok) (hI : IntsAre vs ns) (hL : ns.length ≤ 64) (hk0 : 0 ≤ k) (hk1 : k ≤ 64) (hb : 1 ≤ below) (hb1 : below ≤ 64) (rest : List (Addr × Obj)) (hq : (q, listOf vs.toArray nq) ∈ rest) (hoff : ∀ p ∈ rest, p.1 ≠ b) :
    Does 2 w p loose mean mg mb 128 ((b, listOf #[.ref q, .int k kt] n) :: rest) [.ref b, .int below bt] (fun r news' => ∃ t n', (b, listOf #[.ref q, .int (k + 1) t] n') :: rest = news' ∧ ∃ t, r = .int (drawAt ns k below) t ∧ 0 ≤ drawAt ns k below ∧ drawAt ns k below < below) := by
  w_top off
  k_with_none
  (k_with "call builtin:len" => (k_here; (with_reducible show wpAny _ _ (call (Value.builtin "len") [Value.ref _]) _ _ _); k_dflt (refine len_c (by k_asm) (by k_mem) (by decide) ?_; k_whole)))
  (k_with "subscriptTail" => (k_here; (with_reducible show wpAny _ _ (subscriptTail _ _ (Value.ref _) (Value.int _ _)) _ _ _); k_dflt (refine item_c (by k_asm) (by k_mem) (by decide) (by decide) (by rfl) ?_ (by with_unfolding_all rfl); k_whole)))
  (k_with "k_all" => assumption)
  (k_with "call builtin:len" => (k_here; (with_reducible show wpAny _ _ (call (Value.builtin "len") [Value.ref _]) _ _ _); k_dflt (refine lenI_c (by k_asm) (by k_mem) (by assumption) (by omega) ?_; k_whole)))
  (k_with "subscriptTail" => (k_here; (with_reducible show wpAny _ _ (subscriptTail _ _ (Value.ref _) (Value.int _ _)) _ _ _); k_dflt (refine itemI_c (by k_asm) (by k_mem) (by assumption) (by omega) (by omega) (by omega) ?_ (by with_unfolding_all rfl); k_whole; intro tI)))
  unfold Does
  k_fill
  intro dp un gd cn cs a ccd cl outer A₀ base h₀ L m s Q E B F X N T hk hd hu hret
  refine wpAny_call ?_
  k_dflt cell_enter
  k_steps
  · exact hret _ _ _ _ (by assumption) (by assumption) ⟨_, _, rfl, _, congrArg (fun x => Value.int x _) (draw_in (by assumption)), draw_bounds _ _ hb⟩
  · exact hret _ _ _ _ (by assumption) (by assumption) ⟨_, _, rfl, _, congrArg (fun x => Value.int x _) (draw_out (by assumption)), draw_bounds _ _ hb⟩
theorem begin_c (w : World) {p loose mean mg mb} (b q : Addr) (vs : List Value) (ns : List Int) (nq n : Nat) (k below : Int) (kt bt : Tok) (news : List (Addr × Obj)) (g : Obj → List (Addr × Obj))
    (U : UpdF b (listOf #[.ref q, .int k kt] n) news g) (hq : (q, listOf vs.toArray nq) ∈ news) (hqb : q ≠ b) (hI : IntsAre vs ns) (hL : ns.length ≤ 64) (hk0 : 0 ≤ k) (hk1 : k ≤ 64) (hb : 1 ≤ below) (hb1 : below ≤ 64) :
    Does 2 w p loose mean mg mb 128 news [.ref b, .int below bt] (fun r news' => ∃ t n', g (listOf #[.ref q, .int (k + 1) t] n') = news' ∧ ∃ t, r = .int (drawAt ns k below) t ∧ 0 ≤ drawAt ns k below ∧ drawAt ns k below < below) := by
  obtain ⟨pre, post, e, eg, h1, h2⟩ := U.split
  subst e
  have hoff : ∀ p ∈ pre ++ post, p.1 ≠ b := fun p hp => (List.mem_append.mp hp).elim (h1 p) (h2 p)
  have hq' : (q, listOf vs.toArray nq) ∈ pre ++ post := by
    rcases List.mem_append.mp hq with h | h
    · exact List.mem_append.mpr (.inl h)
    · rcases List.mem_cons.mp h with h | h
      · exact absurd (congrArg Prod.fst h) hqb
      · exact List.mem_append.mpr (.inr h)
  refine does_perm (begin0_c w b q vs ns nq n k below kt bt hI hL hk0 hk1 hb hb1 (pre ++ post) hq' hoff) ?_ ?_
  · intro p hp
    rcases List.mem_cons.mp hp with rfl | hp
    · exact List.mem_append.mpr (.inr (.head _))
    · rcases List.mem_append.mp hp with hp | hp
      · exact List.mem_append.mpr (.inl hp)
      · exact List.mem_append.mpr (.inr (.tail _ hp))
  · rintro r n' ⟨t, n'', rfl, R⟩
    refine ⟨g (listOf #[.ref q, .int (k + 1) t] n''), ?_, t, n'', rfl, R⟩
    intro p hp
    rw [eg] at hp
    rcases List.mem_append.mp hp with hp | hp
    · exact .tail _ (List.mem_append.mpr (.inl hp))
    · rcases List.mem_cons.mp hp with rfl | hp
      · exact .head _
      · exact .tail _ (List.mem_append.mpr (.inr hp))
section
variable {prog : Program} {wd : World} {A : Around} {R : Result → Shared → Prop} {s : Shared}
abbrev two (elt it1 it2 : Expr) (x y : Str) (px py : Pos) (scope : Scope) (pos : Pos) : Expr := .ListComp elt [⟨.Name x px, it1, [], 0⟩, ⟨.Name y py, it2, [], 0⟩] scope pos

theorem two_turn0 (elt it1 it2 : Expr) (x y : Str) (px py : Pos) (scope : Scope) (pos : Pos) (it acc : Value) (env : Env) :
    compTurn (two elt it1 it2 x y px py scope pos) 0 it acc env = (standAt it1.pos >>= fun _ => pyNext it >>= fun r => match r with
      | none => pure (.done .next)
      | some v => letOwnedTupleGo (.Name x px) it v >>= fun _ => assign (.Name x px) env v >>= fun _ =>
        eval it2 env >>= fun z => standAt it2.pos >>= fun _ => foldedSetIterable it2 env z >>= fun z =>
          holding [z] (pyIter z) >>= fun j => runOwn (.compStart (two elt it1 it2 x y px py scope pos) 1 j acc env) env >>= fun _ =>
          again (.compLoop (two elt it1 it2 x y px py scope pos) 0 it acc env)) := by rfl
theorem two_turn1 (elt it1 it2 : Expr) (x y : Str) (px py : Pos) (scope : Scope) (pos : Pos) (it acc : Value) (env : Env) :
    compTurn (two elt it1 it2 x y px py scope pos) 1 it acc env = (standAt it2.pos >>= fun _ => pyNext it >>= fun r => match r with
      | none => pure (.done .next)
      | some v => letOwnedTupleGo (.Name y py) it v >>= fun _ => assign (.Name y py) env v >>= fun _ =>
        (eval elt env >>= fun z => call (.builtin "list.append") [acc, z] >>= fun _ => pure ()) >>= fun _ =>
          again (.compLoop (two elt it1 it2 x y px py scope pos) 1 it acc env)) := by rfl

theorem two_start {k : Nat} {elt it1 it2 : Expr} {x y : Str} {px py : Pos} {scope : Scope} {pos : Pos} {it acc : Value} {env : Env} (hk : k = 0 ∨ k = 1)
    (h0 : codeAny (model prog wd) A (.compLoop (two elt it1 it2 x y px py scope pos) k it acc env) R s)
    (h : wpAny (model prog wd) A (pyIter it) (fun it' s' => codeAny (model prog wd) A (.compLoop (two elt it1 it2 x y px py scope pos) k it' acc env) R s')
      (notedBy (model prog wd) A env fun x s' => R (.error x) s') s) :
    codeAny (model prog wd) A (.compStart (two elt it1 it2 x y px py scope pos) k it acc env) R s := by
  refine codeAny_of_tree ?_
  rcases hk with rfl | rfl
  all_goals (
    show wpAny _ _ ((compStart (two elt it1 it2 x y px py scope pos) _ it acc env).onRaise (fun x => do noteFrame x env; standAt theWindowsPlace)) _ _ s
    refine wpAny_notedAt ?_
    unfold compStart
    show wpAny _ _ (ask >>= _) _ _ s
    refine wpAny_bind (wpAny_askSetting (wpAny_ite ?_))
    split
    · first
        | exact wpAny_bind (wpAny_pure (wpAny_pure (And.intro rfl h0)))
        | exact wpAny_pure (And.intro rfl h0)
    · refine wpAny_bind (wpAny_rule ?_)
      first
        | exact wpAny_bind (wpAny_standAt (wpAny_bind (wpAny_mono h (fun it' s' h' => wpAny_pure (And.intro rfl h')) fun _ _ x => x)))
        | (show wpAny _ _ (standAt it1.pos >>= _) _ _ s; exact wpAny_bind (wpAny_standAt (wpAny_bind (wpAny_mono h (fun it' s' h' => wpAny_pure (And.intro rfl h')) fun _ _ x => x))))
        | (show wpAny _ _ (standAt it2.pos >>= _) _ _ s; exact wpAny_bind (wpAny_standAt (wpAny_bind (wpAny_mono h (fun it' s' h' => wpAny_pure (And.intro rfl h')) fun _ _ x => x)))))

theorem two_start' {k : Nat} {elt it1 it2 : Expr} {x y : Str} {px py : Pos} {scope : Scope} {pos : Pos} {J : Addr} {fp wr : List Addr} {n : Nat} {P : Nat → Value → Prop} {St : Nat → Heap → Prop} {acc : Value} {env : Env} (hk : k = 0 ∨ k = 1)
    (W : Walks prog wd A J fp wr n P St) (hst : St 0 s.heap) (h : codeAny (model prog wd) A (.compLoop (two elt it1 it2 x y px py scope pos) k (.ref J) acc env) R s) :
    codeAny (model prog wd) A (.compStart (two elt it1 it2 x y px py scope pos) k (.ref J) acc env) R s := two_start hk h (W.self 0 _ _ _ hst h)

/-- the inner loop: over the signs of a text -/
theorem two_inner {elt it1 it2 : Expr} {x y : Str} {px py : Pos} {scope : Scope} {pos : Pos} {J D : Addr} {cenv : Env} {g w : Str} {tw : Tok} {m : Str → Option Value} {ys : List Value} {St : Nat → Heap → Prop}
    (W : Walks prog wd A J [J] [J] g.cps.size (SignAt g) St)
    (hy : cenv.kindOf y = some .local) (hp : (cenv.scope.kind == .class || (cenv.scope.kind == .module && cenv.locals != cenv.globals)) = false)
    (hxy : x ≠ y) (hJC : J ≠ cenv.locals) (hJD : J ≠ D) (hCD : cenv.locals ≠ D)
    (hst : St 0 s.heap) (hn : s.heap.Ns cenv.locals m) (hx : m x = some (.str w tw)) (hD : s.heap.get? D = some (LCg.lst ys)) (hlen : ys.length + g.cps.size ≤ sizeLine)
    (helt : ∀ (s₁ : Shared) m₁ c tc (E' : Value → Shared → Prop), (∀ b o, b ∉ [J, cenv.locals, D] → s.heap.get? b = some o → s₁.heap.get? b = some o) → s₁.heap.Ns cenv.locals m₁ → m₁ x = some (.str w tw) → m₁ y = some (.str ⟨#[c]⟩ tc) →
      wpAny (model prog wd) A (eval elt cenv) (fun r s₂ => (∃ t, r = .str (w ++ ⟨#[c]⟩) t) ∧ ∃ tk, s₂ = { s₁ with toks := tk }) E' s₁)
    (hR : ∀ h' tk m' zs, h'.Ns cenv.locals m' → h'.get? D = some (LCg.lst (ys ++ zs)) → StrsAre zs (g.cps.toList.map fun c => w ++ ⟨#[c]⟩) →
      (∀ b o, b ∉ [J, cenv.locals, D] → s.heap.get? b = some o → h'.get? b = some o) → R (.ok .next) { s with heap := h', toks := tk }) :
    codeAny (model prog wd) A (.compLoop (two elt it1 it2 x y px py scope pos) 1 (.ref J) (.ref D) cenv) R s := by
  refine codeAny_loop rfl
    (fun k s' => ∃ h' tk i m' zs, s' = { s with heap := h', toks := tk } ∧ i ≤ g.cps.size ∧ k = g.cps.size + 1 - i ∧ St i h' ∧ h'.Ns cenv.locals m' ∧ m' x = some (.str w tw) ∧ h'.get? D = some (LCg.lst (ys ++ zs)) ∧
      StrsAre zs ((g.cps.toList.take i).map fun c => w ++ ⟨#[c]⟩) ∧ ∀ b o, b ∉ [J, cenv.locals, D] → s.heap.get? b = some o → h'.get? b = some o) ?_ (g.cps.size + 1)
    ⟨s.heap, s.toks, 0, m, [], rfl, Nat.zero_le _, rfl, hst, hn, hx, by rw [List.append_nil]; exact hD, by simpa using StrsAre.nil, fun _ _ _ e => e⟩
  rintro k s' ⟨h', tk, i, m', zs, rfl, hi, rfl, hst', hn', hx', hD', hzs, hk'⟩
  show wpAny _ _ ((compTurn (two elt it1 it2 x y px py scope pos) 1 (.ref J) (.ref D) cenv).onRaise (fun x => do noteFrame x cenv; theTreesLotGoes x)) _ _ _
  refine wpAny_noted ?_
  rw [two_turn1]
  refine wpAny_bind (wpAny_standAt (wpAny_bind ?_))
  have zlen : zs.length = i := by
    have := hzs.length
    simp only [List.length_map, List.length_take, Array.length_toList] at this
    rw [this]; exact Nat.min_eq_left hi
  by_cases hlt : i < g.cps.size
  · refine W.item i _ _ _ hlt hst' fun v h₂ tk₂ hv hst₂ hk₂ => ?_
    obtain ⟨c, u, hc, rfl⟩ := hv
    refine wpAny_bind (wpAny_pure (wpAny_bind ?_))
    refine wpAny_assign_Name (wpAny_storeName_local hy (hn'.at' fun o e => hk₂ _ o (by simpa using Ne.symm hJC) e) (fun h₃ hn₃ hs₃ => ?_) hp)
    have k₃ : ∀ b o, b ∉ [J, cenv.locals, D] → s.heap.get? b = some o → h₃.get? b = some o := fun b o hb e => by
      have hb' : b ≠ J ∧ b ≠ cenv.locals ∧ b ≠ D := by simpa using hb
      exact hs₃.extBut b o hb'.2.1 (hk₂ b o (by simpa using hb'.1) (hk' b o hb e))
    have hst₃ : St (i + 1) h₃ := W.frame _ _ _ hst₂ fun b hb o e => hs₃.extBut b o (by rw [List.mem_singleton.mp hb]; exact hJC) e
    have hD₃ : h₃.get? D = some (LCg.lst (ys ++ zs)) := hs₃.extBut _ _ (Ne.symm hCD) (hk₂ _ _ (by simpa using Ne.symm hJD) hD')
    refine wpAny_bind (wpAny_bind (wpAny_mono (helt _ _ c u _ k₃ hn₃ (by simp [hxy, hx']) (by simp)) (fun r s₄ h₄ => ?_) fun _ _ e => e))
    obtain ⟨⟨t, rfl⟩, tk₄, rfl⟩ := h₄
    refine wpAny_bind (append_at (hsz := by rw [List.size_toArray, List.length_append, zlen]; omega) hD₃ fun h₅ hs₅ hD₅ => ?_)
    refine wpAny_pure (wpAny_pure ⟨rfl, g.cps.size + 1 - (i + 1), by omega, h₅, _, i + 1, _, zs ++ [.str (w ++ ⟨#[c]⟩) t], rfl, hlt, rfl, W.frame _ _ _ hst₃ fun b hb o e => hs₅.extBut b o (by rw [List.mem_singleton.mp hb]; exact hJD) e,
      hn₃.sameBut hs₅ hCD, by simp [hxy, hx'], ?_, ?_, fun b o hb e => ?_⟩)
    · rw [← List.append_assoc]; exact hD₅.trans (congrArg some (LCg.lst_snoc _ _))
    · have hc' : g.cps.toList[i]? = some c := by simpa using hc
      rw [List.take_add_one, hc', List.map_append]
      exact hzs.append' (.cons _ _ .nil)
    · have hb' : b ≠ J ∧ b ≠ cenv.locals ∧ b ≠ D := by simpa using hb
      exact hs₅.extBut b o hb'.2.2 (k₃ b o hb e)
  · obtain rfl : i = g.cps.size := by omega
    refine W.done _ _ _ hst' fun h₂ tk₂ hk₂ => ?_
    refine wpAny_pure (hR h₂ tk₂ m' zs (hn'.at' fun o e => hk₂ _ o (by simpa using Ne.symm hJC) e) (hk₂ _ _ (by simpa using Ne.symm hJD) hD') ?_ fun b o hb e => ?_)
    · have : g.cps.toList.take g.cps.size = g.cps.toList := List.take_of_length_le (by simp)
      rw [this] at hzs; exact hzs
    · have hb' : b ≠ J ∧ b ≠ cenv.locals ∧ b ≠ D := by simpa using hb
      exact hk₂ b o (by simpa using hb'.1) (hk' b o hb e)

def outs (g : Str) (ws : List Str) : List Str := ws.flatMap fun w => g.cps.toList.map fun c => w ++ ⟨#[c]⟩
theorem outs_len (g : Str) : ∀ ws : List Str, (outs g ws).length = ws.length * g.cps.size
  | [] => by simp [outs]
  | w :: ws => by
    have ih := outs_len g ws
    unfold outs at ih ⊢
    rw [List.flatMap_cons, List.length_append, ih, List.length_map, Array.length_toList, List.length_cons, Nat.succ_mul, Nat.add_comm]

/-- the outer loop: over a list of texts -/
theorem two_outer {elt it1 it2 : Expr} {x y : Str} {px py : Pos} {scope : Scope} {pos : Pos} {I ax D : Addr} {cenv : Env} {g : Str} {ws : List Str} {vs : List Value} {m : Str → Option Value}
    (hh : A.handled = none) (hi2 : ∀ z, foldedSetIterable it2 cenv z = pure z)
    (hkx : cenv.kindOf x = some .local) (hky : cenv.kindOf y = some .local) (hp : (cenv.scope.kind == .class || (cenv.scope.kind == .module && cenv.locals != cenv.globals)) = false)
    (hxy : x ≠ y) (hIC : I ≠ cenv.locals) (hID : I ≠ D) (hCD : cenv.locals ≠ D) (haI : ax ≠ I) (haC : ax ≠ cenv.locals) (haD : ax ≠ D)
    (hS : StrsAre vs ws) (hit : s.heap.IsListIter I ax 0) (hl : s.heap.IsList ax vs.toArray) (hn : s.heap.Ns cenv.locals m) (hD : s.heap.get? D = some (LCg.lst [])) (hlen : (ws.length + 1) * g.cps.size ≤ sizeLine)
    (hiter : ∀ (s₁ : Shared) (E' : Value → Shared → Prop), (∀ b o, b ∉ [I, cenv.locals, D] → s.heap.get? b = some o → s₁.heap.get? b = some o) →
      wpAny (model prog wd) A (eval it2 cenv) (fun r s₂ => (∃ t, r = .str g t) ∧ ∃ tk, s₂ = { s₁ with toks := tk }) E' s₁)
    (helt : ∀ w ∈ ws, ∀ (s₁ : Shared) m₁ tw c tc (E' : Value → Shared → Prop), s₁.heap.Ns cenv.locals m₁ → m₁ x = some (.str w tw) → m₁ y = some (.str ⟨#[c]⟩ tc) →
      wpAny (model prog wd) A (eval elt cenv) (fun r s₂ => (∃ t, r = .str (w ++ ⟨#[c]⟩) t) ∧ ∃ tk, s₂ = { s₁ with toks := tk }) E' s₁)
    (hR : ∀ h' tk m' zs, h'.Ns cenv.locals m' → h'.get? D = some (LCg.lst zs) → StrsAre zs (outs g ws) →
      (∀ b o, b ∉ [I, cenv.locals, D] → s.heap.get? b = some o → h'.get? b = some o) → R (.ok .next) { s with heap := h', toks := tk }) :
    codeAny (model prog wd) A (.compLoop (two elt it1 it2 x y px py scope pos) 0 (.ref I) (.ref D) cenv) R s := by
  have W := Walks.list (prog := prog) (w := wd) hh I ax haI vs.toArray
  have hsz : vs.toArray.size = ws.length := by rw [List.size_toArray]; exact hS.length
  rw [hsz] at W
  refine codeAny_loop rfl
    (fun k s' => ∃ h' tk i m' zs, s' = { s with heap := h', toks := tk } ∧ i ≤ ws.length ∧ k = ws.length + 1 - i ∧ (h'.IsListIter I ax i ∧ h'.IsList ax vs.toArray) ∧ h'.Ns cenv.locals m' ∧ h'.get? D = some (LCg.lst zs) ∧
      StrsAre zs (outs g (ws.take i)) ∧ ∀ b o, b ∉ [I, cenv.locals, D] → s.heap.get? b = some o → h'.get? b = some o) ?_ (ws.length + 1)
    ⟨s.heap, s.toks, 0, m, [], rfl, Nat.zero_le _, rfl, ⟨hit, hl⟩, hn, hD, by simpa [outs] using StrsAre.nil, fun _ _ _ e => e⟩
  rintro k s' ⟨h', tk, i, m', zs, rfl, hi, rfl, hst', hn', hD', hzs, hk'⟩
  show wpAny _ _ ((compTurn (two elt it1 it2 x y px py scope pos) 0 (.ref I) (.ref D) cenv).onRaise (fun x => do noteFrame x cenv; theTreesLotGoes x)) _ _ _
  refine wpAny_noted ?_
  rw [two_turn0]
  refine wpAny_bind (wpAny_standAt (wpAny_bind ?_))
  have zlen : zs.length = i * g.cps.size := by
    have := hzs.length
    rw [outs_len, List.length_take] at this
    rw [this, Nat.min_eq_left hi]
  by_cases hlt : i < ws.length
  · refine W.item i _ _ _ hlt hst' fun v h₂ tk₂ hv hst₂ hk₂ => ?_
    have hw : ws[i]? = some ws[i] := by simp [hlt]
    obtain ⟨tw, hv'⟩ := hS.get i ws[i] hw
    have ev : v = .str ws[i] tw := by
      have : vs[i]? = some v := by simpa using hv
      rw [hv'] at this; exact (Option.some.inj this).symm
    subst ev
    refine wpAny_bind (wpAny_pure (wpAny_bind ?_))
    refine wpAny_assign_Name (wpAny_storeName_local hkx (hn'.at' fun o e => hk₂ _ o (by simpa using Ne.symm hIC) e) (fun h₃ hn₃ hs₃ => ?_) hp)
    have hne : ∀ b ∈ [I, ax], b ≠ cenv.locals := by
      intro b hb
      rcases List.mem_cons.mp hb with rfl | hb
      · exact hIC
      · rw [List.mem_singleton.mp hb]; exact haC
    have k₃ : ∀ b o, b ∉ [I, cenv.locals, D] → s.heap.get? b = some o → h₃.get? b = some o := fun b o hb e => by
      have hb' : b ≠ I ∧ b ≠ cenv.locals ∧ b ≠ D := by simpa using hb
      exact hs₃.extBut b o hb'.2.1 (hk₂ b o (by simpa using hb'.1) (hk' b o hb e))
    have hst₃ : h₃.IsListIter I ax (i + 1) ∧ h₃.IsList ax vs.toArray := W.frame (i + 1) _ _ hst₂ fun b hb o e => hs₃.extBut b o (hne b hb) e
    have hD₃ : h₃.get? D = some (LCg.lst zs) := hs₃.extBut _ _ (Ne.symm hCD) (hk₂ _ _ (by simpa using Ne.symm hID) hD')
    refine wpAny_bind (wpAny_mono (hiter _ _ k₃) (fun r s₄ h₄ => ?_) fun _ _ e => e)
    obtain ⟨⟨t, rfl⟩, tk₄, rfl⟩ := h₄
    refine wpAny_bind (wpAny_standAt (wpAny_bind (wpAny_of_eq (hi2 _) (wpAny_bind (wpAny_holding ?_)))))
    refine wpAny_pyIter_str fun oJ StJ hWJ hstJ => ?_
    have WJ := hWJ A hh
    have lt₃ : ∀ {b o}, h₃.get? b = some o → b ≠ h₃.objs.size := fun e => Nat.ne_of_lt (Heap.lt_size e)
    obtain ⟨oC, _, _, eC, _⟩ := id hn₃
    have up : ∀ b o, h₃.get? b = some o → (h₃.push oJ).get? b = some o := fun b o e => Heap.get?_push_of_some _ e
    have hn₄ : (h₃.push oJ).Ns cenv.locals _ := hn₃.at' fun o e => up _ o e
    obtain ⟨oI, eI, _⟩ := id hst₃.1
    obtain ⟨oax, eax, _⟩ := id hst₃.2
    have hJC : h₃.objs.size ≠ cenv.locals := Ne.symm (lt₃ eC)
    have hJD : h₃.objs.size ≠ D := Ne.symm (lt₃ hD₃)
    have hJI : h₃.objs.size ≠ I := Ne.symm (lt₃ eI)
    have hJa : h₃.objs.size ≠ ax := Ne.symm (lt₃ eax)
    refine wpAny_bind (wpAny_runOwn ?_)
    refine two_start' (.inr rfl) WJ hstJ ?_
    refine two_inner WJ hky hp hxy hJC hJD hCD hstJ hn₄ (tw := tw) (w := ws[i]) (by simp) (up _ _ hD₃) (by rw [zlen]; refine Nat.le_trans ?_ hlen; rw [← Nat.succ_mul]; exact Nat.mul_le_mul_right _ (by omega))
      (fun s₁ m₁ c tc E' _ a b d => helt _ (List.getElem_mem hlt) s₁ m₁ tw c tc E' a b d) ?_
    intro h₅ tk₅ m₅ ys₅ hn₅ hD₅ hys₅ hk₅
    refine wpAny_pure ⟨rfl, ws.length + 1 - (i + 1), by omega, h₅, _, i + 1, _, zs ++ ys₅, rfl, hlt, rfl, ?_, hn₅, hD₅, ?_, fun b o hb e => ?_⟩
    · exact W.frame (i + 1) _ _ hst₃ fun b hb o e => hk₅ b o (by
        rcases List.mem_cons.mp hb with rfl | hb
        · simpa using ⟨Ne.symm hJI, hIC, hID⟩
        · rw [List.mem_singleton.mp hb]; simpa using ⟨Ne.symm hJa, haC, haD⟩) (up _ _ e)
    · have : outs g (ws.take (i + 1)) = outs g (ws.take i) ++ (g.cps.toList.map fun c => ws[i] ++ ⟨#[c]⟩) := by
        unfold outs
        rw [List.take_add_one, hw, List.flatMap_append]
        simp
      rw [this]
      exact hzs.append' hys₅
    · have hb' : b ≠ I ∧ b ≠ cenv.locals ∧ b ≠ D := by simpa using hb
      have e₃ := k₃ b o hb e
      exact hk₅ b o (by simpa using ⟨lt₃ e₃, hb'.2.1, hb'.2.2⟩) (up _ _ e₃)
  · obtain rfl : i = ws.length := by omega
    refine W.done _ _ _ hst' fun h₂ tk₂ hk₂ => ?_
    refine wpAny_pure (hR h₂ tk₂ m' zs (hn'.at' fun o e => hk₂ _ o (by simpa using Ne.symm hIC) e) (hk₂ _ _ (by simpa using Ne.symm hID) hD') ?_ fun b o hb e => ?_)
    · rw [List.take_length] at hzs; exact hzs
    · have hb' : b ≠ I ∧ b ≠ cenv.locals ∧ b ≠ D := by simpa using hb
      exact hk₂ b o (by simpa using hb'.1) (hk' b o hb e)
end
section
variable {prog : Program} {wd : World} {A : Around} {E : Value → Shared → Prop} {s : Shared} {h₀ : Heap} {m : Str → Option Value} {news : List (Addr × Obj)} {env : Env}

/-- z = [x + y for x in f for y in q]: f a list of texts of the ledger, q a text of a cell -/
theorem two_assign {x y z f q : Str} {px py pz pf pq p1 p2 pb pos spos : Pos} {scope : Scope} {cl : List (Str × Addr)} {ax c : Addr} {n : Nat} {oc : Obj} {g : Str} {tg : Tok} {vs : List Value} {ws : List Str} {Q : Flow → Shared → Prop}
    (F : Fr h₀ env.locals s.heap m) (N : News h₀ env.locals s.heap news)
    (hsw : swapsWith (two (.BinOp (.Name x p1) .Add (.Name y p2) pb) (.Name f pf) (.Name q pq) x y px py scope pos) (some (.Name z pz)) spos.line env = pure true)
    (hclos : closureFor scope env = pure cl) (hcell : ∀ u ∈ scope.names, u.2 ≠ .cell) (hkind : scope.kind = .function)
    (hnames : ∀ u ∈ scope.names, u.2 = .local → scope.names.lookup u.1 = some .local) (hx : scope.names.lookup x = some .local) (hy : scope.names.lookup y = some .local) (hxy : x ≠ y)
    (hz : env.kindOf z = some .local) (hp : (env.scope.kind == .class || (env.scope.kind == .module && env.locals != env.globals)) = false)
    (hek : env.scope.kind = .function) (hfk : env.kindOf f = some .local) (hfd : (f == ("__debug__" : Str)) = false) (hf : m f = some (.ref ax))
    (hax : (ax, listOf vs.toArray n) ∈ news) (hS : StrsAre vs ws)
    (hqk : ∀ C, (compEnvC scope cl C env).kindOf q = some .cell) (hqd : (q == ("__debug__" : Str)) = false) (hxd : (x == ("__debug__" : Str)) = false) (hyd : (y == ("__debug__" : Str)) = false) (hqc : cl.lookup q = some c) (hc : (c, oc) ∈ news) (hoc : oc.data = .cell (some (.str g tg)))
    (hlen : (ws.length + 1) * g.cps.size ≤ sizeLine) (hws : ∀ w ∈ ws, w.length ≤ 100) (hh : A.handled = none)
    (h : ∀ D h' tk zs, Fr h₀ env.locals h' (fun t => if t = z then some (.ref D) else m t) → News h₀ env.locals h' ((D, listOf zs.toArray zs.length) :: news) → StrsAre zs (outs g ws) → (∀ p ∈ news, p.1 < D) → Q .next { s with heap := h', toks := tk }) :
    wpAny (model prog wd) A (exec (.Assign [.Name z pz] (two (.BinOp (.Name x p1) .Add (.Name y p2) pb) (.Name f pf) (.Name q pq) x y px py scope pos) spos) env) Q E s := by
  rw [exec_Assign_Name_used _ _ _ _ hsw]
  refine wpAny_bind (wpAny_standAt (wpAny_bind ?_))
  show wpAny _ A (do let _ ← comprehension (two (.BinOp (.Name x p1) .Add (.Name y p2) pb) (.Name f pf) (.Name q pq) x y px py scope pos) scope env _ (newList []) false (eval (.Name f pf) env) (some (assign (.Name z pz) env))) _ _ s
  refine wpAny_bind (wpAny_mono (wpAny_comprehension_free (use := some (assign (.Name z pz) env)) (Q := fun _ s' => Q .next s') rfl (fun _ => rfl) hclos hkind hnames ?_) (fun _ s' hq => wpAny_pure (wpAny_pure hq)) fun _ _ e => e)
  refine wpAny_Name (wpAny_loadName_local hek hfk F.ns hf ?_) hfd
  have hl : s.heap.IsList ax vs.toArray := ⟨_, (N _ hax).1, rfl, _, rfl⟩
  have haxlt : ax < s.heap.objs.size := Heap.lt_size (N _ hax).1
  refine wpAny_pyIter_list hl ?_
  refine wpAny_newObj_type (wpAny_newFunctionEnv hcell (by intro u hu; simp at hu) (fun h₁ hns₁ hsb₁ => ?_) hkind)
  dsimp only at hns₁ hsb₁ ⊢
  generalize hH1 : s.heap.push { cls := .type "list_iterator", data := .fields #[.ref ax, .int 0 0] } = H1 at hns₁ hsb₁ ⊢
  have hD : H1.objs.size = s.heap.objs.size + 1 := by rw [← hH1, Heap.size_push]
  generalize hH2 : H1.push { cls := .type "list", dict := none, data := .seq ([] : List Value).toArray } = H2 at hns₁ hsb₁ ⊢
  have hC : H2.objs.size = s.heap.objs.size + 2 := by rw [← hH2, Heap.size_push, hD]
  have hDI : s.heap.objs.size ≠ H1.objs.size := by rw [hD]; exact Nat.ne_of_lt (Nat.lt_succ_self _)
  have hCD : H2.objs.size ≠ H1.objs.size := by rw [hD, hC]; exact Nat.succ_ne_self _
  have hIC : s.heap.objs.size ≠ H2.objs.size := by rw [hC]; exact Nat.ne_of_lt (Nat.lt_succ_of_lt (Nat.lt_succ_self _))
  have below : ∀ b, b < s.heap.objs.size → b ≠ s.heap.objs.size ∧ b ≠ H2.objs.size ∧ b ≠ H1.objs.size := fun b hb =>
    ⟨Nat.ne_of_lt hb, by rw [hC]; exact Nat.ne_of_lt (Nat.lt_succ_of_lt (Nat.lt_succ_of_lt hb)), by rw [hD]; exact Nat.ne_of_lt (Nat.lt_succ_of_lt hb)⟩
  have old : ∀ b o, s.heap.get? b = some o → h₁.get? b = some o := fun b o e =>
    hsb₁.extBut b o (below b (Heap.lt_size e)).2.1 (Heap.get?_push_of_some _ (hH2 ▸ Heap.get?_push_of_some _ (hH1 ▸ Heap.get?_push_of_some _ e)))
  have hit : h₁.IsListIter s.heap.objs.size ax 0 :=
    ⟨_, hsb₁.extBut _ _ hIC (Heap.get?_push_of_some _ (hH2 ▸ Heap.get?_push_of_some _ (hH1 ▸ Heap.get?_push_size _ rfl))), rfl, rfl⟩
  have hacc : h₁.get? H1.objs.size = some (LCg.lst []) := hsb₁.extBut _ _ (Ne.symm hCD) (Heap.get?_push_of_some _ (hH2 ▸ Heap.get?_push_size _ rfl))
  have hl₁ : h₁.IsList ax vs.toArray := ⟨_, old _ _ (N _ hax).1, rfl, _, rfl⟩
  have fresh₀ : ∀ a, s.heap.objs.size ≤ a → h₀.get? a = none := fun a ha => by
    cases e : h₀.get? a with
    | none => rfl
    | some o' => exact absurd (Heap.lt_size (F.keep a o' e)) (Nat.not_lt.mpr ha)
  have hD₀ : h₀.get? H1.objs.size = none := fresh₀ _ (by rw [hD]; exact Nat.le_succ _)
  have hC₀ : h₀.get? H2.objs.size = none := fresh₀ _ (by rw [hC]; exact Nat.le_add_right _ _)
  have hLlt : env.locals < s.heap.objs.size := F.ns.lt
  have bn := below _ hLlt
  have nb : ∀ {b : Addr} {o : Obj}, s.heap.get? b = some o → b ∉ [s.heap.objs.size, H2.objs.size, H1.objs.size] := fun e => by simpa using below _ (Heap.lt_size e)
  refine two_start' (.inl rfl) (Walks.list hh s.heap.objs.size ax (Nat.ne_of_lt haxlt) vs.toArray) ⟨hit, hl₁⟩ ?_
  refine two_outer (cenv := compEnvC scope cl H2.objs.size env) (g := g) (ws := ws) hh (fun _ => rfl) (lookup_relabel_local hx) (lookup_relabel_local hy) (by simp [compEnvC, relabel, hkind]) hxy hIC hDI hCD (Nat.ne_of_lt haxlt) (below ax haxlt).2.1 (below ax haxlt).2.2
    hS hit hl₁ hns₁ hacc hlen ?_ ?_ ?_
  · intro s₁ E' hk
    have hcell' : s₁.heap.IsCell c (some (.str g tg)) := ⟨oc, hk c oc (nb (N _ hc).1) (old _ _ (N _ hc).1), hoc⟩
    exact wpAny_Name (wpAny_loadName_cell (by simp [compEnvC, relabel, hkind]) (hqk _) hqc hcell' ⟨⟨_, rfl⟩, _, rfl⟩) hqd
  · intro w hw s₁ m₁ tw k tc E' hn₁ h1 h2
    refine wpAny_BinOp ?_
    refine wpAny_Name (wpAny_loadName_local (by simp [compEnvC, relabel, hkind]) (lookup_relabel_local hx) hn₁ h1 ?_) hxd
    refine wpAny_Name (wpAny_loadName_local (by simp [compEnvC, relabel, hkind]) (lookup_relabel_local hy) hn₁ h2 ?_) hyd
    exact PyProof.Rows.add_str (fun t' tk => ⟨⟨t', rfl⟩, tk, rfl⟩) (by have := hws w hw; rw [sizeLine_eq]; show w.length + 1 ≤ _; omega)
  · intro h' tk m' zs hn' hD' hzs hk'
    show wpAny _ A (assign (.Name z pz) env (.ref H1.objs.size)) _ _ _
    have keep' : ∀ b o, s.heap.get? b = some o → h'.get? b = some o := fun b o e => hk' b o (nb e) (old b o e)
    have F' : Fr h₀ env.locals h' m := F.keeps keep'
    refine wpAny_assign_Name (wpAny_storeName_local hz F'.ns (fun h₂ hn₂ hs₂ => ?_) hp)
    have hL₀ : h₀.get? env.locals = none := Heap.get?_none_of_le F'.above
    have F₂ : Fr h₀ env.locals h₂ (fun t => if t = z then some (.ref H1.objs.size) else m t) := ⟨hn₂, fun b o e => hs₂.extBut b o (fun q => by rw [q, hL₀] at e; cases e) (F'.keep b o e), F'.above⟩
    refine ⟨m', hn'.sameBut hs₂ (Ne.symm bn.2.1), fun h'' hs'' => h H1.objs.size h'' _ zs (F₂.change hs'' (Ne.symm bn.2.1) hC₀) (fun p hp => ?_) hzs (fun p hp => by rw [hD]; exact Nat.lt_succ_of_lt (Heap.lt_size (N p hp).1))⟩
    rcases List.mem_cons.mp hp with rfl | hp
    · exact ⟨hs''.extBut _ _ (Ne.symm hCD) (hs₂.extBut _ _ (Ne.symm bn.2.2) hD'), Ne.symm bn.2.2, hD₀⟩
    · have b' := below _ (Heap.lt_size (N p hp).1)
      exact ⟨hs''.extBut _ _ b'.2.1 (hs₂.extBut _ _ (N p hp).2.1 (keep' _ _ (N p hp).1)), (N p hp).2⟩
end
inductive Are {α : Type} (mk : α → Tok → Value) : List Value → List α → Prop
  | nil : Are mk [] []
  | cons (d : α) (t : Tok) {vs ds} : Are mk vs ds → Are mk (mk d t :: vs) (d :: ds)
theorem Are.snoc {α : Type} {mk : α → Tok → Value} {d : α} {t : Tok} : ∀ {vs ds}, Are mk vs ds → Are mk (vs ++ [mk d t]) (ds ++ [d])
  | _, _, .nil => .cons d t .nil
  | _, _, .cons e u r => .cons e u r.snoc
theorem Are.length {α : Type} {mk : α → Tok → Value} : ∀ {vs ds}, Are mk vs ds → vs.length = ds.length
  | _, _, .nil => rfl
  | _, _, .cons _ _ r => by simp [r.length]
theorem Are.strs : ∀ {vs : List Value} {ds : List Str}, Are Value.str vs ds → StrsAre vs ds
  | _, _, .nil => .nil
  | _, _, .cons d t r => .cons d t r.strs
theorem Are.ints : ∀ {vs : List Value} {ds : List Int}, Are Value.int vs ds → IntsAre vs ds
  | _, _, .nil => .nil
  | _, _, .cons d t r => .cons d t r.ints

def TestEnd (h₀ : Heap) (L : Addr) (m : Str → Option Value) (s₁ : Shared) (led : List (Addr × Obj)) (b : Bool) (c : Bool) (s' : Shared) : Prop :=
  c = b ∧ ∃ h' tk, s' = { s₁ with heap := h', toks := tk } ∧ Fr h₀ L h' m ∧ News h₀ L h' led
theorem TestEnd.intro {h₀ : Heap} {L : Addr} {m : Str → Option Value} {s₁ : Shared} {led led' : List (Addr × Obj)} {b c : Bool} {h' : Heap} {tk : Nat} (F : Fr h₀ L h' m) (N : News h₀ L h' led') (hs : ∀ p ∈ led, p ∈ led') (e : c = b) :
    TestEnd h₀ L m s₁ led b c { s₁ with heap := h', toks := tk } := ⟨e, h', tk, rfl, F, fun p hp => N p (hs p hp)⟩
section
variable {prog : Program} {w : World} {A : Around} {h₀ : Heap} {L : Addr} {m : Str → Option Value} {env : Env} {ct : Expr} {x : Str} {px : Pos} {scope : Scope} {cl : List (Str × Addr)} {s : Shared} {S : List (Addr × Obj) → Prop} {P : Nat → Value → Prop} {Fin : List Value → List (Addr × Obj) → Prop} {news : List (Addr × Obj)}
theorem filt_rest {α : Type} {mk : α → Tok → Value} {n : Nat} {ds : List α} (p : α → Bool) (hn : ds.length = n) (hP : ∀ i v, i < n → P i v → ∃ d t, ds[i]? = some d ∧ v = mk d t) (hS : S news)
    (hxk : ∀ C, (compEnvC scope cl C env).scope.kind = .function) (hxl : ∀ C, (compEnvC scope cl C env).kindOf x = some .local) (hxd : (x == ("__debug__" : Str)) = false)
    (turn : ∀ d t I oI C oC D m₂ ys h tk (E' : Value → Shared → Prop), d ∈ ds → LCg.NsObj oC m₂ → m₂ x = some (mk d t) → Fr h₀ L h m → News h₀ L h ((I, oI) :: (C, oC) :: (D, LCg.lst ys) :: news) → LCg.Off3 I C D news → ((@Ne Nat I C) ∧ (@Ne Nat I D) ∧ (@Ne Nat C D)) →
      wpAny (model prog w) A (isTrue ct (compEnvC scope cl C env) (eval ct (compEnvC scope cl C env))) (TestEnd h₀ L m { s with heap := h, toks := tk } ((I, oI) :: (C, oC) :: (D, LCg.lst ys) :: news) (p d)) E' { s with heap := h, toks := tk })
    (fin : ∀ ys, Are mk ys (ds.filter p) → Fin ys news) : LCt.CompRestT prog w A h₀ L m env ct (.Name x px) x scope cl s S P Fin n 0 [] news := by
  have key : ∀ (j i : Nat) (ys : List Value), i + j = n → Are mk ys ((ds.take i).filter p) → LCt.CompRestT prog w A h₀ L m env ct (.Name x px) x scope cl s S P Fin j i ys news := by
    intro j
    induction j with
    | zero =>
      intro i ys hi hy
      have e : i = ds.length := by omega
      subst e
      rw [List.take_length] at hy
      exact LCt.CompRestT.zero (fin ys hy)
    | succ j ih =>
      intro i ys hi hy
      refine LCt.CompRestT.succ ?_
      intro v I oI C oC D m₂ h tk E' hv hC hx F N off ne
      obtain ⟨d, t, hd, hv'⟩ := hP i v (by omega) hv
      subst hv'
      have hs : (ds.take (i + 1)).filter p = (ds.take i).filter p ++ (if p d then [d] else []) := by
        rw [List.take_add_one, hd, List.filter_append]
        cases hp : p d <;> simp [hp]
      refine wpAny_mono (turn d t I oI C oC D m₂ ys h tk E' (List.mem_of_getElem? hd) hC hx F N off ne) (fun b s₂ hq => ?_) fun _ _ e => e
      obtain ⟨hb, h', tk', e, F', N'⟩ := hq
      subst e
      cases b with
      | true =>
        rw [← hb] at hs
        refine ldVarK (hC.ns (N' _ (.tail _ (.head _))).1) hx ?_ (hxk C) (hxl C) hxd
        refine ⟨h', tk', news, rfl, F', N', off, hS, ih (i + 1) _ (by omega) ?_⟩
        rw [hs]; exact hy.snoc
      | false =>
        rw [← hb] at hs
        refine ⟨h', tk', news, rfl, F', N', off, hS, ih (i + 1) _ (by omega) ?_⟩
        rw [hs]; simpa using hy
  exact key n 0 [] (by omega) (by simpa using Are.nil)
theorem src_strs {ax : Addr} {vs : List Value} {k : Nat} {ds : List Str} {FinS : Shared → List Value → List (Addr × Obj) → Prop} (p : Str → Bool)
    (hh : A.handled = none) (F : Fr h₀ L s.heap m) (N : News h₀ L s.heap news) (hm : (ax, listOf vs.toArray k) ∈ news) (hV : StrsAre vs ds) (hsz : ds.length ≤ 1000)
    (hxk : ∀ C, (compEnvC scope cl C env).scope.kind = .function) (hxl : ∀ C, (compEnvC scope cl C env).kindOf x = some .local) (hxd : (x == ("__debug__" : Str)) = false)
    (turn : ∀ d t I oI C oC D m₂ ys h tk (E' : Value → Shared → Prop), d ∈ ds → LCg.NsObj oC m₂ → m₂ x = some (.str d t) → Fr h₀ L h m → News h₀ L h ((I, oI) :: (C, oC) :: (D, LCg.lst ys) :: news) → LCg.Off3 I C D news → ((@Ne Nat I C) ∧ (@Ne Nat I D) ∧ (@Ne Nat C D)) →
      wpAny (model prog w) A (isTrue ct (compEnvC scope cl C env) (eval ct (compEnvC scope cl C env))) (TestEnd h₀ L m { s with heap := h, toks := tk } ((I, oI) :: (C, oC) :: (D, LCg.lst ys) :: news) (p d)) E' { s with heap := h, toks := tk })
    (fin : ∀ g ys, Are Value.str ys (ds.filter p) → FinS { s with heap := g } ys news) :
    LCt.CompSrcT prog w A h₀ L m env ct (.Name x px) x scope cl FinS (.ref ax) s := by
  have e : vs.toArray.size = ds.length := by rw [List.size_toArray]; exact hV.length
  refine LCt.CompSrcT.ledger hh F N hm (by rw [e, sizeLine_eq]; omega) fun g => ?_
  exact filt_rest (mk := Value.str) (s := { s with heap := g }) p e.symm (fun i v hi hv => by
    have hi' : i < ds.length := by omega
    obtain ⟨t, ht⟩ := hV.get i ds[i] (by simp [hi'])
    refine ⟨ds[i], t, by simp [hi'], ?_⟩
    have : vs[i]? = some v := by simpa using hv
    rw [ht] at this; exact (Option.some.inj this).symm) (.inr ⟨_, hm, rfl, _, rfl⟩) hxk hxl hxd turn (fin g)
end
def intsOf : List Value → Option (List Int)
  | [] => some []
  | .int n _ :: r => match intsOf r with
    | some ns => some (n :: ns)
    | none => none
  | _ => none
theorem intsOf_are : ∀ {vs : List Value} {ns : List Int}, intsOf vs = some ns → IntsAre vs ns
  | [], _, h => by cases h; exact .nil
  | .int n t :: r, ns, h => by
    unfold intsOf at h
    cases e : intsOf r with
    | none => rw [e] at h; cases h
    | some ms => rw [e] at h; cases h; exact .cons n t (intsOf_are e)
  | .none :: _, _, h => by simp [intsOf] at h
  | .bool _ :: _, _, h => by simp [intsOf] at h
  | .str _ _ :: _, _, h => by simp [intsOf] at h
  | .ref _ :: _, _, h => by simp [intsOf] at h
  | .bytes _ _ :: _, _, h => by simp [intsOf] at h
  | .float _ _ :: _, _, h => by simp [intsOf] at h
  | .type _ :: _, _, h => by simp [intsOf] at h
  | .builtin _ :: _, _, h => by simp [intsOf] at h
def MapEnd (h₀ : Heap) (L : Addr) (m : Str → Option Value) (s₁ : Shared) (led : List (Addr × Obj)) (f : Str) (y : Value) (s' : Shared) : Prop :=
  (∃ t, y = .str f t) ∧ ∃ h' tk, s' = { s₁ with heap := h', toks := tk } ∧ Fr h₀ L h' m ∧ News h₀ L h' led
theorem MapEnd.intro {h₀ : Heap} {L : Addr} {m : Str → Option Value} {s₁ : Shared} {led : List (Addr × Obj)} {f : Str} {t : Tok} {h' : Heap} {tk : Nat} (F : Fr h₀ L h' m) (N : News h₀ L h' led) :
    MapEnd h₀ L m s₁ led f (.str f t) { s₁ with heap := h', toks := tk } := ⟨⟨t, rfl⟩, h', tk, rfl, F, N⟩
section
variable {prog : Program} {w : World} {A : Around} {h₀ : Heap} {L : Addr} {m : Str → Option Value} {env : Env} {elt : Expr} {x : Str} {scope : Scope} {cl : List (Str × Addr)} {s : Shared} {news : List (Addr × Obj)}
theorem src_map {ax : Addr} {its : Array Value} {k : Nat} {ns : List Int} {FinS : Shared → List Value → List (Addr × Obj) → Prop} (f : Int → Str)
    (hh : A.handled = none) (F : Fr h₀ L s.heap m) (N : News h₀ L s.heap news) (hm : (ax, listOf its k) ∈ news) (hV' : intsOf its.toList = some ns) (hsz : ns.length ≤ 1000)
    (turn : ∀ d t I oI C oC D m₂ ys h tk (E' : Value → Shared → Prop), d ∈ ns → LCg.NsObj oC m₂ → m₂ x = some (.int d t) → Fr h₀ L h m → News h₀ L h ((I, oI) :: (C, oC) :: (D, LCg.lst ys) :: news) → LCg.Off3 I C D news → ((@Ne Nat I C) ∧ (@Ne Nat I D) ∧ (@Ne Nat C D)) →
      wpAny (model prog w) A (eval elt (compEnvC scope cl C env)) (MapEnd h₀ L m { s with heap := h, toks := tk } ((I, oI) :: (C, oC) :: (D, LCg.lst ys) :: news) (f d)) E' { s with heap := h, toks := tk })
    (fin : ∀ g ys, Are Value.str ys (ns.map f) → FinS { s with heap := g } ys news) :
    LCg.CompSrc prog w A h₀ L m env elt x scope cl FinS (.ref ax) s := by
  have hV := intsOf_are hV'
  have e : its.size = ns.length := by rw [← Array.length_toList]; exact hV.length
  refine LCg.CompSrc.ledger hh F N hm (by rw [e, sizeLine_eq]; omega) fun g => ?_
  rw [e]
  have key : ∀ (j i : Nat) (ys : List Value), i + j = ns.length → Are Value.str ys ((ns.take i).map f) → LCg.CompRest prog w A h₀ L m env elt x scope cl { s with heap := g } (LCg.SrcAt h₀ ax its) (fun i v => its[i]? = some v) (FinS { s with heap := g }) j i ys news := by
    intro j
    induction j with
    | zero =>
      intro i ys hi hy
      have e : i = ns.length := by omega
      subst e
      rw [List.take_length] at hy
      exact LCg.CompRest.zero (fin g ys hy)
    | succ j ih =>
      intro i ys hi hy
      refine LCg.CompRest.succ ?_
      intro v I oI C oC D m₂ h tk E' hv hC hx F N off ne
      have hi' : i < ns.length := by omega
      obtain ⟨t, ht⟩ := hV.get i ns[i] (by simp [hi'])
      have hv' : v = .int ns[i] t := by
        have : its.toList[i]? = some v := by simpa using hv
        rw [ht] at this; exact (Option.some.inj this).symm
      subst hv'
      refine wpAny_mono (turn ns[i] t I oI C oC D m₂ ys h tk E' (List.getElem_mem hi') hC hx F N off ne) (fun y s₂ hq => ?_) fun _ _ e => e
      obtain ⟨⟨u, rfl⟩, h', tk', e', F', N'⟩ := hq
      refine ⟨h', tk', news, e', F', N', off, .inr ⟨_, hm, rfl, _, rfl⟩, ih (i + 1) _ (by omega) ?_⟩
      have hd : ns[i]? = some ns[i] := by simp [hi']
      rw [List.take_add_one, hd, List.map_append]
      exact hy.snoc
  exact key ns.length 0 [] (by omega) (by simpa using Are.nil)
end
def allW (g : Str) : Nat → List Str
  | 0 => [Str.ofString ""]
  | n + 1 => outs g (allW g n)
theorem allW_zero (g : Str) (t : Tok) : StrsAre [.str (Str.ofString "") t] (allW g 0) := .cons _ _ .nil
theorem toW {g : Str} {n : Nat} {zs : List Value} (h : StrsAre zs (outs g (allW g n))) : StrsAre zs (allW g (n + 1)) := h
theorem allW_len (g : Str) : ∀ n, (allW g n).length = g.length ^ n
  | 0 => by simp [allW]
  | n + 1 => by rw [allW, outs_len, allW_len g n, Nat.pow_succ]; rfl
theorem allW_each (g : Str) : ∀ n, ∀ w ∈ allW g n, w.length = n
  | 0, w, h => by
    rw [allW, List.mem_singleton] at h
    rw [h]; decide
  | n + 1, w, h => by
    rw [allW, outs, List.mem_flatMap] at h
    obtain ⟨v, hv, hw⟩ := h
    obtain ⟨c, _, rfl⟩ := List.mem_map.mp hw
    rw [Str.length_append, allW_each g n v hv]; rfl
theorem allW_le {g : Str} {n : Nat} (h : n ≤ 4) : ∀ w ∈ allW g n, w.length ≤ 100 := fun w hw => by rw [allW_each g n w hw]; omega
theorem allW_num {g : Str} {n : Nat} (hg : g.length ≤ 3) (h : n ≤ 4) : (allW g n).length ≤ 81 := by
  rw [allW_len]
  calc g.length ^ n ≤ 3 ^ n := Nat.pow_le_pow_left hg n
    _ ≤ 3 ^ 4 := Nat.pow_le_pow_right (by omega) h
theorem allW_fit {g : Str} {n : Nat} (hg : g.length ≤ 3) (h : n ≤ 4) : ((allW g n).length + 1) * g.cps.size ≤ sizeLine := by
  have h1 := allW_num hg h
  have h2 : g.cps.size ≤ 3 := hg
  have : ((allW g n).length + 1) * g.cps.size ≤ 82 * 3 := Nat.mul_le_mul (by omega) h2
  rw [sizeLine_eq]; omega
theorem unr_two {h₀ : Heap} {L I : Addr} {it : Obj} {restP : (Str → Option Value) → List (Addr × Obj) → Prop} {s₁ : Shared} {h' : Heap} {tk : Nat} {m' : Str → Option Value} {d : Addr × Obj} {rest : List (Addr × Obj)} (F : Fr h₀ L h' m') (N : News h₀ L h' (d :: (I, it) :: rest))
    (hd : d.1 ≠ I) (hr : ∀ p ∈ rest, p.1 ≠ I) (r : restP m' (d :: rest)) : UnrEnd h₀ L s₁ I it restP { s₁ with heap := h', toks := tk } :=
  UnrEnd.intro F N (d :: rest) (fun p hp => by
    rcases List.mem_cons.mp hp with rfl | hp
    · exact .tail _ (.head _)
    · rcases List.mem_cons.mp hp with rfl | hp
      · exact .head _
      · exact .tail _ (.tail _ hp)) (fun p hp => by
    rcases List.mem_cons.mp hp with rfl | hp
    · exact hd
    · exact hr p hp) r
set_option maxRecDepth 100000 in
set_option maxHeartbeats 8000000 in
theorem all_c (w : World) {p loose mean mg mb} (signs : Str) (tt mt : Tok) (k : Nat) (h1 : 1 ≤ k) (h4 : k ≤ 4) (hS : signs.length ≤ 3) (news : List (Addr × Obj)) :
    Does 3 w p loose mean mg mb 133 news [.str signs tt, .int (k : Int) mt] (fun r news' => ∃ D zs, r = .ref D ∧ news' = (D, listOf zs.toArray zs.length) :: news ∧ StrsAre zs (allW signs k) ∧ ∀ p ∈ news, p.1 < D) := by
  w_top off
  k_with_none
  (k_with "call builtin:len" => (k_here; (with_reducible show wpAny _ _ (call (Value.builtin "len") [Value.ref _]) _ _ _); k_dflt (refine len_c (by k_asm) (by k_mem) (by decide) ?_; k_whole)))
  (k_with "subscriptTail" => (k_here; (with_reducible show wpAny _ _ (subscriptTail _ _ (Value.ref _) (Value.int _ _)) _ _ _); k_dflt (refine item_c (by k_asm) (by k_mem) (by decide) (by decide) (by rfl) ?_ (by with_unfolding_all rfl); k_whole)))
  (k_with "exec Assign cons ListComp" => (k_here; k_dflt (refine two_assign (by k_asm) (by k_asm) (by with_unfolding_all rfl) (by with_unfolding_all rfl) (by decide) (by rfl) (by decide) (by rfl) (by rfl) (by decide) (by rfl) (by rfl) (by rfl) (by rfl) (by decide) (by exact rfl) (by k_mem) (by first | assumption | exact (by assumption : ∀ t : Tok, StrsAre [Value.str (Str.ofString "") t] _) _) (by (intro C; rfl)) (by decide) (by decide) (by decide) (by exact rfl) (by k_mem) (by k_asm) (by exact allW_fit (by assumption) (by omega)) (by exact allW_le (by omega)) (by rfl) ?_; k_whole; intro D9 h9 tk9 zs9 F9 N9 hS9 l9; (replace hS9 := toW hS9); (try k_lt l9); (try dsimp only); (try k_fold))))
  (k_with "k_all" => exact fun p hp => Nat.ne_of_lt (ktn_ltOf (by first | assumption | exact And.right (by assumption) | exact And.right (And.right (by assumption)) | exact And.right (And.right (And.right (by assumption))) | exact And.right (And.right (And.right (And.right (by assumption)))) | exact And.right (And.right (And.right (And.right (And.right (by assumption))))) | exact And.right (And.right (And.right (And.right (And.right (And.right (by assumption)))))) | exact And.right (And.right (And.right (And.right (And.right (And.right (And.right (by assumption))))))) | exact And.right (And.right (And.right (And.right (And.right (And.right (And.right (And.right (by assumption)))))))) | exact And.right (And.right (And.right (And.right (And.right (And.right (And.right (And.right (And.right (by assumption))))))))) | exact And.right (And.right (And.right (And.right (And.right (And.right (And.right (And.right (And.right (And.right (by assumption)))))))))) | exact And.right (And.right (And.right (And.right (And.right (And.right (And.right (And.right (And.right (And.right (And.right (by assumption))))))))))) | exact And.right (And.right (And.right (And.right (And.right (And.right (And.right (And.right (And.right (And.right (And.right (And.right (by assumption))))))))))))) p hp))
  (k_with "UnrEnd" => (k_dflt (refine unr_two (by k_asm) (by k_asm) (by k_ne) (by k_all) ?_; k_whole)))
  unfold Does
  k_fill
  intro dp un gd cn cs a ccd cl outer A₀ base h₀ L m s Q E B F X N T hk hd hu hret
  have hW0 := fun t => allW_zero signs t
  obtain rfl | rfl | rfl | rfl : k = 1 ∨ k = 2 ∨ k = 3 ∨ k = 4 := by omega
  all_goals (
    refine wpAny_call ?_
    k_dflt (refine' code_defC ?k1 ?k2 ?k3 ?k4 ?k5 ?kA ?kF ?kK ?k6 ?k7 ?k8 ?k9 ?kB ?kD ?_ ?c2 ?c3 ?c4; (case kA => exact rfl); (case kF => exact rfl); (case kK => first | exact rfl | assumption); (case k1 => k_asm); (case k2 => k_asm); (case k3 => k_asm); (case k4 => k_asm); (case k5 => k_asm); (case k6 => k_is); (case k7 => k_is); (case k8 => ktr_room); (case k9 => exact BindsTo.of_eq rfl); (case kB => exact rfl); (case kD => decide +kernel); (case c2 => exact rfl); (case c3 => exact rfl); (case c4 => exact rfl); k_whole; intro g' L' h' tk' cells' FG' F' N' Y' B' X' T' l1; (try k_lt l1); k_cells Y'; (try simp only [List.cons_append, List.nil_append] at N'); (try dsimp only); (try k_lift B'); (try k_fold))
    k_steps)
  all_goals (
    refine hret _ _ _ _ (by assumption) (cb_drop (by assumption) ?sub) ⟨_, _, rfl, rfl, by assumption, fun p hp => ktn_ltOf (by first | assumption | exact And.right (by assumption) | exact And.right (And.right (by assumption)) | exact And.right (And.right (And.right (by assumption))) | exact And.right (And.right (And.right (And.right (by assumption)))) | exact And.right (And.right (And.right (And.right (And.right (by assumption))))) | exact And.right (And.right (And.right (And.right (And.right (And.right (by assumption)))))) | exact And.right (And.right (And.right (And.right (And.right (And.right (And.right (by assumption))))))) | exact And.right (And.right (And.right (And.right (And.right (And.right (And.right (And.right (by assumption)))))))) | exact And.right (And.right (And.right (And.right (And.right (And.right (And.right (And.right (And.right (by assumption))))))))) | exact And.right (And.right (And.right (And.right (And.right (And.right (And.right (And.right (And.right (And.right (by assumption)))))))))) | exact And.right (And.right (And.right (And.right (And.right (And.right (And.right (And.right (And.right (And.right (And.right (by assumption))))))))))) | exact And.right (And.right (And.right (And.right (And.right (And.right (And.right (And.right (And.right (And.right (And.right (And.right (by assumption))))))))))))) p hp⟩
    case sub => kcj_all)
def turnOf (word : Str) (k : Int) : Str := Txt.slice word (some k) none ++ Txt.slice word none (some k)
def leastTest (word : Str) (k : Int) : Bool := !decide (word.cps.toList < (Txt.slice word (some k) none ++ Txt.slice word none (some k)).cps.toList)
def leastOf (word : Str) : Bool := decide (List.filter (fun k => leastTest word k) (rangeKs 1 ((word.length : Int) - 1).toNat) = [])
theorem rangeKs_at {a : Int} {n i : Nat} (h : i < n) : (rangeKs a n)[i]? = some (a + (i : Int)) := by simp [rangeKs, h]
set_option maxRecDepth 100000 in
set_option maxHeartbeats 8000000 in
theorem least_c (w : World) {p loose mean mg mb} (word : Str) (tt : Tok) (hS : word.length ≤ 8) (hS1 : 1 ≤ word.length) (news : List (Addr × Obj)) :
    Does 12 w p loose mean mg mb 138 news [.str word tt] (fun r news' => news = news' ∧ r = .bool (leastOf word)) := by
  w_top off
  k_with_none
  (k_with "call builtin:len" => (k_here; (with_reducible show wpAny _ _ (call (Value.builtin "len") [Value.ref _]) _ _ _); k_dflt (refine len_c (by k_asm) (by k_mem) (by decide) ?_; k_whole)))
  (k_with "subscriptTail" => (k_here; (with_reducible show wpAny _ _ (subscriptTail _ _ (Value.ref _) (Value.int _ _)) _ _ _); k_dflt (refine item_c (by k_asm) (by k_mem) (by decide) (by decide) (by rfl) ?_ (by with_unfolding_all rfl); k_whole)))
  (k_with "eval ListComp" => (k_here; k_dflt (refine LCt.ListComp_T (F₀ := by k_asm) (by with_unfolding_all rfl) (by decide) (by rfl) (by decide) (by rfl) ?_)))
  (k_with "compareOp Eq ref ref" => (k_here; (with_reducible show wpAny _ _ (compareOp CmpOp.Eq (Value.ref _) (Value.ref _)) _ _ _); k_dflt (refine ke_eq_ints (ms := []) (ys := []) (by exact News.isList (by k_asm) (by k_mem)) (by exact News.isList (by k_asm) (by k_mem)) (by assumption) (by exact IntsAre.nil) (by ktr_units) ?_; k_whole)))
  unfold Does
  k_fill
  intro dp un gd cn cs a ccd cl outer A₀ base h₀ L m s Q E B F X N T hk hd hu hret
  refine wpAny_call ?_
  k_dflt (refine' code_defC ?k1 ?k2 ?k3 ?k4 ?k5 ?kA ?kF ?kK ?k6 ?k7 ?k8 ?k9 ?kB ?kD ?_ ?c2 ?c3 ?c4; (case kA => exact rfl); (case kF => exact rfl); (case kK => first | exact rfl | assumption); (case k1 => k_asm); (case k2 => k_asm); (case k3 => k_asm); (case k4 => k_asm); (case k5 => k_asm); (case k6 => k_is); (case k7 => k_is); (case k8 => ktr_room); (case k9 => exact BindsTo.of_eq rfl); (case kB => exact rfl); (case kD => decide +kernel); (case c2 => exact rfl); (case c3 => exact rfl); (case c4 => exact rfl); k_whole; intro g' L' h' tk' cells' FG' F' N' Y' B' X' T' l1; (try k_lt l1); k_cells Y'; (try simp only [List.cons_append, List.nil_append] at N'); (try dsimp only); (try k_lift B'); (try k_fold))
  (k_with "CompSrcT" =>
    k_dflt (refine LCt.CompSrcT.range (by rfl) (by k_asm) (by k_asm) (by assumption) ?sm (by exact rangeSize_nat _ _) ?sz ?_)
    case sm => first | decide | exact small_one (by l_bnd) (by l_bnd) (by l_bnd) (by l_bnd)
    case sz => (rw [PySem.sizeLine_eq]; omega)
    intro g9
    k_dflt refine filt_rest (mk := Value.int) (ds := rangeKs 1 _) (fun k => leastTest word k) (rangeKs_length _ _) ?P trivial (fun _ => rfl) (fun _ => rfl) (by decide) ?turn ?fin
    case P => (intro i v hi hv; obtain ⟨t, e⟩ := hv; exact ⟨1 + (i : Int), t, rangeKs_at hi, e⟩)
    case' turn => (intro d9 t9 I9 oI9 C9 oC9 D9 m9 ys9 h9 tk9 E9 hd9 hC9 hx9 F9 N9 off9 ne9; (try simp only [LCg.Off3, and_true] at off9); (try k_fold))
    case' fin => (intro ys9 hys9; (have hI9 := Are.ints hys9)))
  k_steps
  · exact hret _ news _ _ (by assumption) (by first | assumption | exact cb_drop (by assumption) (by kcj_all)) ⟨rfl, rfl⟩
  · exact TestEnd.intro (by assumption) (by assumption) (by kcj_all) rfl
theorem all_c' (w : World) {p loose mean mg mb} (signs : Str) (tt mt : Tok) (k : Nat) (many : Int) (hk : many = (k : Int)) (h1 : 1 ≤ k) (h4 : k ≤ 4) (hS : signs.length ≤ 3) (news : List (Addr × Obj)) :
    Does 3 w p loose mean mg mb 133 news [.str signs tt, .int many mt] (fun r news' => ∃ D zs, r = .ref D ∧ news' = (D, listOf zs.toArray zs.length) :: news ∧ StrsAre zs (allW signs k) ∧ ∀ p ∈ news, p.1 < D) := by
  subst hk
  exact all_c w signs tt mt k h1 h4 hS news
structure Few (vs : List Value) (ws : List Str) (b : Nat) : Prop where
  are : StrsAre vs ws
  each : ∀ w ∈ ws, w.length ≤ 4
  num : ws.length ≤ b
theorem few_nil : Few [] [] 0 := ⟨.nil, (fun _ h => nomatch h), Nat.le_refl _⟩
theorem filt_num {g : Str} {k K : Nat} (p : Str → Bool) (hc : g.length = 2 ∧ K ≤ 4 ∨ g.length = 3 ∧ K ≤ 2) (hk : k ≤ K) : (List.filter p (allW g k)).length ≤ 16 := by
  refine Nat.le_trans (List.length_filter_le _ _) ?_
  rw [allW_len]
  rcases hc with ⟨e, h⟩ | ⟨e, h⟩
  · rw [e]; exact Nat.le_trans (Nat.pow_le_pow_right (by omega) (show k ≤ 4 by omega)) (by decide)
  · rw [e]; exact Nat.le_trans (Nat.pow_le_pow_right (by omega) (show k ≤ 2 by omega)) (by decide)
theorem few_filt {g : Str} {k K : Nat} {vs : List Value} {p : Str → Bool} (h : Are Value.str vs (List.filter p (allW g k))) (hc : g.length = 2 ∧ K ≤ 4 ∨ g.length = 3 ∧ K ≤ 2) (hk : k ≤ K) : Few vs (List.filter p (allW g k)) 16 :=
  ⟨h.strs, fun w hw => by
    have := allW_each g k w (List.mem_filter.mp hw).1
    omega, filt_num p hc hk⟩
theorem updF_upd {d : Addr} {o o' : Obj} {l : List (Addr × Obj)} {g : Obj → List (Addr × Obj)} (U : UpdF d o l g) : Upd d o o' l (g o') := by
  induction U with
  | head h => exact Upd.head h
  | tail h _ ih => exact Upd.tail h ih

def leW (a b : Str) : Prop := a.cps.toList ≤ b.cps.toList
def leB (a b : Str) : Bool := !decide (b.cps.toList < a.cps.toList)
theorem leB_iff {a b : Str} : leB a b = true ↔ leW a b := by
  unfold leB leW
  rw [Bool.not_eq_true', decide_eq_false_iff_not]
  exact List.not_lt
def insW (x : Str) : List Str → List Str
  | [] => [x]
  | y :: r => if leB x y then x :: y :: r else y :: insW x r
def sortW : List Str → List Str
  | [] => []
  | x :: r => insW x (sortW r)
theorem insW_perm (x : Str) : ∀ l, (insW x l).Perm (x :: l)
  | [] => .refl _
  | y :: r => by
    unfold insW
    split
    · exact .refl _
    · exact ((insW_perm x r).cons y).trans (.swap x y r)
theorem sortW_perm : ∀ l, (sortW l).Perm l
  | [] => .refl _
  | x :: r => (insW_perm x (sortW r)).trans ((sortW_perm r).cons x)
theorem leW_trans {a b c : Str} (h : leW a b) (k : leW b c) : leW a c := List.le_trans h k
theorem leW_total (a b : Str) : leW a b ∨ leW b a := List.le_total _ _
theorem insW_sorted (x : Str) : ∀ l : List Str, l.Pairwise leW → (insW x l).Pairwise leW
  | [], _ => by unfold insW; simp
  | y :: r, h => by
    unfold insW
    rw [List.pairwise_cons] at h
    split
    · rename_i hxy
      rw [leB_iff] at hxy
      refine List.pairwise_cons.mpr ⟨fun z hz => ?_, List.pairwise_cons.mpr h⟩
      rcases List.mem_cons.mp hz with rfl | hz
      · exact hxy
      · exact leW_trans hxy (h.1 z hz)
    · rename_i hxy
      rw [leB_iff] at hxy
      have hyx : leW y x := (leW_total x y).resolve_left hxy
      refine List.pairwise_cons.mpr ⟨fun z hz => ?_, insW_sorted x r h.2⟩
      rcases List.mem_cons.mp ((insW_perm x r).mem_iff.mp hz) with rfl | hz
      · exact hyx
      · exact h.1 z hz
theorem sortW_sorted : ∀ l : List Str, (sortW l).Pairwise leW
  | [] => .nil
  | x :: r => insW_sorted x _ (sortW_sorted r)
theorem rising_pairwise : ∀ (l : List Str) (p : Str), risingS p l = true → (p :: l).Pairwise leW
  | [], p, _ => by simp
  | x :: r, p, h => by
    unfold risingS at h
    rw [Bool.and_eq_true, ltCps_eq] at h
    have h1 : leW p x := leB_iff.mp h.1
    have h2 := rising_pairwise r x h.2
    refine List.pairwise_cons.mpr ⟨fun z hz => ?_, h2⟩
    rcases List.mem_cons.mp hz with rfl | hz
    · exact h1
    · exact leW_trans h1 ((List.pairwise_cons.mp h2).1 z hz)
theorem sorted_pairwise : ∀ (l : List Str), sortedS l = true → l.Pairwise leW
  | [], _ => .nil
  | x :: r, h => rising_pairwise r x h
theorem sort_unique {l l' : List Str} (hp : l'.Perm l) (hs : sortedS l' = true) : l' = sortW l :=
  List.Perm.eq_of_pairwise (le := leW) (fun a b _ _ h k => Str.ext' (Array.toList_inj.mp (List.le_antisymm h k))) (sorted_pairwise _ hs) (sortW_sorted l) (hp.trans (sortW_perm l).symm)
section
variable {prog : Program} {w : World} {A : Around} {E : Value → Shared → Prop} {s : Shared} {h₀ : Heap} {L D b : Addr} {m : Str → Option Value} {news : List (Addr × Obj)}
theorem ext_strs {vs us : List Value} {ws zs : List Str} {n n2 i j : Nat} {g : Obj → List (Addr × Obj)} {Q : Value → Shared → Prop} (F : Fr h₀ L s.heap m) (N : News h₀ L s.heap news) (hb : (b, listOf us.toArray n2) ∈ news)
    (U : UpdF D (listOf vs.toArray n) news g) (hS : Few vs ws i) (hT : Few us zs j) (hz : i + j ≤ 60)
    (h : ∀ n' h', Fr h₀ L h' m → News h₀ L h' (g (listOf (vs ++ us).toArray n')) → Few (vs ++ us) (ws ++ zs) (i + j) → Q .none { s with heap := h' }) :
    wpAny (model prog w) A (call (.builtin "list.extend") [.ref D, .ref b]) Q E s := by
  have l1 := hS.are.length
  have l2 := hT.are.length
  have l3 := hS.num
  have l4 := hT.num
  have hF : Few (vs ++ us) (ws ++ zs) (i + j) := ⟨hS.are.append' hT.are, fun x hx => (List.mem_append.mp hx).elim (hS.each x) (hT.each x), by rw [List.length_append]; omega⟩
  have hz1 : vs.toArray.toList.length ≤ sizeLine := by rw [sizeLine_eq]; simp; omega
  have hz2 : vs.toArray.size + us.toArray.size ≤ sizeLine + 1 := by rw [sizeLine_eq]; simp; omega
  have hd : ¬(!vs.toArray.isEmpty && Builtin.List.listTooLong (vs.toArray.size + us.toArray.size)) = true := extend_door (by rw [sizeLine_eq]; simp; omega)
  by_cases hu : us = []
  · subst hu
    have U' : Upd D (listOf vs.toArray n) (listOf vs.toArray n) news (g (listOf vs.toArray n)) := updF_upd U
    exact kxn_extend F N hb (by simp) U' hd hz1 hz2 fun h' F' N' => h n h' F' (by rw [List.append_nil]; exact N') hF
  · exact kl_extend F N hb (l := vs ++ us) (by simp) (by simpa using hu) (updF_upd U) hd hz1 hz2 fun h' F' N' => h (n + 1) h' F' N' hF
theorem sort_c {vs : List Value} {ws : List Str} {n i : Nat} {Q : Value → Shared → Prop} (F : Fr h₀ L s.heap m) (N : News h₀ L s.heap news) (hb : (b, listOf vs.toArray n) ∈ news) (hS : Few vs ws i) (hz : i < 64)
    (h : ∀ D' vs' n' h', Fr h₀ L h' m → News h₀ L h' ((D', listOf vs'.toArray n') :: news) → Few vs' (sortW ws) i → (∀ p ∈ news, p.1 < D') → Q (.ref D') { s with heap := h' }) :
    wpAny (model prog w) A (call (.builtin "sorted") [.ref b]) Q E s := by
  have hl : s.heap.IsList b vs.toArray := ⟨_, (N _ hb).1, rfl, _, rfl⟩
  have l1 := hS.are.length
  have l3 := hS.num
  refine sorted_N_str F N hl hS.are (by omega) fun h' vs' ss' e F' N' h1 h2 h3 => ?_
  have e1 := sort_unique h2 h3
  subst e1
  exact h _ vs' e h' F' N' ⟨h1, fun x hx => hS.each x ((sortW_perm ws).mem_iff.mp hx), by rw [(sortW_perm ws).length_eq]; exact l3⟩ fun p hp => Nat.lt_succ_of_lt (Heap.lt_size (N p hp).1)
theorem sum_le {l : List Str} {k : Nat} (h : ∀ w ∈ l, w.length ≤ k) : (l.map (·.length)).sum ≤ k * l.length := by
  induction l with
  | nil => simp
  | cons x r ih =>
    have h1 := h x (.head _)
    have h2 := ih fun w hw => h w (.tail _ hw)
    rw [List.map_cons, List.sum_cons, List.length_cons, Nat.mul_succ]
    omega
theorem join_c {vs : List Value} {ws : List Str} {n i : Nat} {sep : Str} {t : Tok} {Q : Value → Shared → Prop} (N : News h₀ L s.heap news) (hb : (b, listOf vs.toArray n) ∈ news) (hS : Few vs ws i) (hx : sep.length ≤ 16) (hz : i ≤ 64)
    (h : ∀ t' k, Q (.str (Txt.join sep ws) t') { s with toks := k }) : wpAny (model prog w) A (call (.builtin "str.join") [.str sep t, .ref b]) Q E s := by
  have hl : s.heap.IsList b vs.toArray := ⟨_, (N _ hb).1, rfl, _, rfl⟩
  have h1 := sum_le hS.each
  have h2 := hS.num
  exact join_listW hl hS.are hx (by omega) h
end
theorem unr_one {h₀ : Heap} {L I : Addr} {it : Obj} {restP : (Str → Option Value) → List (Addr × Obj) → Prop} {s₁ : Shared} {h' : Heap} {tk : Nat} {m' : Str → Option Value} {rest : List (Addr × Obj)} (F : Fr h₀ L h' m') (N : News h₀ L h' ((I, it) :: rest))
    (hr : ∀ p ∈ rest, p.1 ≠ I) (r : restP m' rest) : UnrEnd h₀ L s₁ I it restP { s₁ with heap := h', toks := tk } := UnrEnd.intro F N rest (fun _ hp => hp) hr r
theorem unr_three {h₀ : Heap} {L I : Addr} {it : Obj} {restP : (Str → Option Value) → List (Addr × Obj) → Prop} {s₁ : Shared} {h' : Heap} {tk : Nat} {m' : Str → Option Value} {a b : Addr × Obj} {rest : List (Addr × Obj)} (F : Fr h₀ L h' m') (N : News h₀ L h' (a :: b :: (I, it) :: rest))
    (hr : ∀ p ∈ rest, p.1 ≠ I) (r : restP m' rest) : UnrEnd h₀ L s₁ I it restP { s₁ with heap := h', toks := tk } := UnrEnd.intro F N rest (fun _ hp => .tail _ (.tail _ hp)) hr r
def dueList (g : Str) : Nat → List Str
  | 2 => [] ++ List.filter leastOf (allW g 1) ++ List.filter leastOf (allW g 2)
  | 3 => [] ++ List.filter leastOf (allW g 1) ++ List.filter leastOf (allW g 3)
  | 4 => [] ++ List.filter leastOf (allW g 1) ++ List.filter leastOf (allW g 2) ++ List.filter leastOf (allW g 4)
  | _ => []
def dueOf (g : Str) (k : Nat) : Str := Txt.join (Str.ofString "") (sortW (dueList g k))
set_option maxRecDepth 100000 in
set_option maxHeartbeats 8000000 in
theorem due2_c (w : World) {p loose mean mg mb} (signs : Str) (tt mt : Tok) (hcfg : signs.length = 2 ∧ 2 ≤ 4 ∨ signs.length = 3 ∧ 2 ≤ 2) (news : List (Addr × Obj)) :
    Does 14 w p loose mean mg mb 143 news [.str signs tt, .int 2 mt] (fun r news' => news = news' ∧ ∃ t, r = .str (dueOf signs 2) t) := by
  w_top off
  k_with_none
  (k_with "call builtin:len" => (k_here; (with_reducible show wpAny _ _ (call (Value.builtin "len") [Value.ref _]) _ _ _); k_dflt (refine len_c (by k_asm) (by k_mem) (by decide) ?_; k_whole)))
  (k_with "subscriptTail" => (k_here; (with_reducible show wpAny _ _ (subscriptTail _ _ (Value.ref _) (Value.int _ _)) _ _ _); k_dflt (refine item_c (by k_asm) (by k_mem) (by decide) (by decide) (by rfl) ?_ (by with_unfolding_all rfl); k_whole)))
  (k_with "call ref" => (k_here; (with_reducible show wpAny _ _ (call (Value.ref 133) _) _ _ _); k_dflt (refine does_use2 (by k_asm) (by k_asm) (by k_asm) (by k_asm) (by k_asm) (by first | exact rfl | assumption) (all_c' _ _ _ _ _ _ (by first | exact (by decide : (1 : Int) = ((1 : Nat) : Int)) | exact (by decide : (2 : Int) = ((2 : Nat) : Int)) | exact (by decide : (3 : Int) = ((3 : Nat) : Int)) | exact (by decide : (4 : Int) = ((4 : Nat) : Int))) (by decide) (by decide) (by first | omega | (simp only [Str.length_append] at *; omega)) _) (by ktr_room) (by ktr_units) ?_;  k_whole; intro r9 news9 h9 tk9 F9 N9 hr9; (obtain ⟨D9, zs9, hB9, hA9, hW9, hL9⟩ := hr9; subst hA9; subst hB9; (try k_lt hL9));  (try dsimp only); (try k_fold))))
  (k_with "call ref" => (k_here; (with_reducible show wpAny _ _ (call (Value.ref 138) _) _ _ _); k_dflt (refine does_use2 (by k_asm) (by k_asm) (by k_asm) (by k_asm) (by k_asm) (by first | exact rfl | assumption) (least_c _ _ _ (by omega) (by omega) _) (by ktr_room) (by ktr_units) ?_;  k_whole; intro r9 news9 h9 tk9 F9 N9 hr9; (obtain ⟨hA9, hB9⟩ := hr9; subst hA9; subst hB9);  (try dsimp only); (try k_fold))))
  (k_with "k_all" => exact fun p hp => Nat.ne_of_lt (ktn_ltOf (by first | assumption | exact And.right (by assumption) | exact And.right (And.right (by assumption)) | exact And.right (And.right (And.right (by assumption))) | exact And.right (And.right (And.right (And.right (by assumption)))) | exact And.right (And.right (And.right (And.right (And.right (by assumption))))) | exact And.right (And.right (And.right (And.right (And.right (And.right (by assumption)))))) | exact And.right (And.right (And.right (And.right (And.right (And.right (And.right (by assumption))))))) | exact And.right (And.right (And.right (And.right (And.right (And.right (And.right (And.right (by assumption)))))))) | exact And.right (And.right (And.right (And.right (And.right (And.right (And.right (And.right (And.right (by assumption))))))))) | exact And.right (And.right (And.right (And.right (And.right (And.right (And.right (And.right (And.right (And.right (by assumption)))))))))) | exact And.right (And.right (And.right (And.right (And.right (And.right (And.right (And.right (And.right (And.right (And.right (by assumption))))))))))) | exact And.right (And.right (And.right (And.right (And.right (And.right (And.right (And.right (And.right (And.right (And.right (And.right (by assumption))))))))))))) p hp))
  (k_with "UnrEnd" => (k_dflt (refine unr_one (by k_asm) (by k_asm) (by k_all) ?_; k_whole)))
  (k_with "UnrEnd" => (k_dflt (refine unr_three (by k_asm) (by k_asm) (by k_all) ?_; k_whole)))
  (k_with "call type:range" => (k_here; dsimp only [Int.reduceAdd, Int.reduceSub]))
  (k_with "eval ListComp" => (k_here; k_dflt (refine LCt.ListComp_T (F₀ := by k_asm) (by with_unfolding_all rfl) (by decide) (by rfl) (by decide) (by rfl) ?_)))
  (k_with "call builtin:list.extend" => (k_here; (with_reducible show wpAny _ _ (call (Value.builtin _) [Value.ref _, Value.ref _]) _ _ _); k_dflt (refine ext_strs (by k_asm) (by k_asm) (by k_mem) (by k_updF) (by first | assumption | exact few_nil) (by assumption) (by decide) ?_; k_whole; intro n9 h9 F9 N9 hS9; (try dsimp only at N9))))
  (k_with "call builtin:sorted" => (k_here; (with_reducible show wpAny _ _ (call (Value.builtin _) [Value.ref _]) _ _ _); k_dflt (refine sort_c (by k_asm) (by k_asm) (by k_mem) (by assumption) (by decide) ?_; k_whole; intro D9 vs9 n9 h9 F9 N9 hS9 l9; (try k_lt l9))))
  (k_with "call builtin:str.join" => (k_here; (with_reducible show wpAny _ _ (call (Value.builtin _) [Value.str _ _, Value.ref _]) _ _ _); k_dflt (refine join_c (by k_asm) (by k_mem) (by assumption) (by decide) (by decide) ?_; k_whole; intro t9 k9)))
  unfold Does
  k_fill
  intro dp un gd cn cs a ccd cl outer A₀ base h₀ L m s Q E B F X N T hk hd hu hret
  refine wpAny_call ?_
  k_dflt cell_enter
  (k_with "CompSrcT" =>
    k_dflt (refine src_strs leastOf (by rfl) (by k_asm) (by k_asm) (by k_mem) (by assumption) (by exact Nat.le_trans (allW_num (by omega) (by omega)) (by decide)) (fun _ => rfl) (fun _ => rfl) (by decide) ?_ ?_)
    rotate_left
    (intro g9 ys9 hys9; (have hF9 := few_filt hys9 hcfg (by omega)); (try k_fold))
    rotate_left
    (intro d9 t9 I9 oI9 C9 oC9 D9 m9 ys9 h9 tk9 E9 hd9 hC9 hx9 F9 N9 off9 ne9; (have hw9 := allW_each _ _ _ hd9); (try simp only [LCg.Off3, and_true] at off9); (try k_fold)))
  k_steps
  all_goals first
    | exact TestEnd.intro (by assumption) (by assumption) (by kcj_all) rfl
    | exact hret _ news _ _ (by assumption) (by first | assumption | exact cb_drop (by assumption) (by kcj_all)) ⟨rfl, _, rfl⟩
set_option maxRecDepth 100000 in
set_option maxHeartbeats 8000000 in
theorem due3_c (w : World) {p loose mean mg mb} (signs : Str) (tt mt : Tok) (hcfg : signs.length = 2 ∧ 3 ≤ 4 ∨ signs.length = 3 ∧ 3 ≤ 2) (news : List (Addr × Obj)) :
    Does 14 w p loose mean mg mb 143 news [.str signs tt, .int 3 mt] (fun r news' => news = news' ∧ ∃ t, r = .str (dueOf signs 3) t) := by
  w_top off
  k_with_none
  (k_with "call builtin:len" => (k_here; (with_reducible show wpAny _ _ (call (Value.builtin "len") [Value.ref _]) _ _ _); k_dflt (refine len_c (by k_asm) (by k_mem) (by decide) ?_; k_whole)))
  (k_with "subscriptTail" => (k_here; (with_reducible show wpAny _ _ (subscriptTail _ _ (Value.ref _) (Value.int _ _)) _ _ _); k_dflt (refine item_c (by k_asm) (by k_mem) (by decide) (by decide) (by rfl) ?_ (by with_unfolding_all rfl); k_whole)))
  (k_with "call ref" => (k_here; (with_reducible show wpAny _ _ (call (Value.ref 133) _) _ _ _); k_dflt (refine does_use2 (by k_asm) (by k_asm) (by k_asm) (by k_asm) (by k_asm) (by first | exact rfl | assumption) (all_c' _ _ _ _ _ _ (by first | exact (by decide : (1 : Int) = ((1 : Nat) : Int)) | exact (by decide : (2 : Int) = ((2 : Nat) : Int)) | exact (by decide : (3 : Int) = ((3 : Nat) : Int)) | exact (by decide : (4 : Int) = ((4 : Nat) : Int))) (by decide) (by decide) (by first | omega | (simp only [Str.length_append] at *; omega)) _) (by ktr_room) (by ktr_units) ?_;  k_whole; intro r9 news9 h9 tk9 F9 N9 hr9; (obtain ⟨D9, zs9, hB9, hA9, hW9, hL9⟩ := hr9; subst hA9; subst hB9; (try k_lt hL9));  (try dsimp only); (try k_fold))))
  (k_with "call ref" => (k_here; (with_reducible show wpAny _ _ (call (Value.ref 138) _) _ _ _); k_dflt (refine does_use2 (by k_asm) (by k_asm) (by k_asm) (by k_asm) (by k_asm) (by first | exact rfl | assumption) (least_c _ _ _ (by omega) (by omega) _) (by ktr_room) (by ktr_units) ?_;  k_whole; intro r9 news9 h9 tk9 F9 N9 hr9; (obtain ⟨hA9, hB9⟩ := hr9; subst hA9; subst hB9);  (try dsimp only); (try k_fold))))
  (k_with "k_all" => exact fun p hp => Nat.ne_of_lt (ktn_ltOf (by first | assumption | exact And.right (by assumption) | exact And.right (And.right (by assumption)) | exact And.right (And.right (And.right (by assumption))) | exact And.right (And.right (And.right (And.right (by assumption)))) | exact And.right (And.right (And.right (And.right (And.right (by assumption))))) | exact And.right (And.right (And.right (And.right (And.right (And.right (by assumption)))))) | exact And.right (And.right (And.right (And.right (And.right (And.right (And.right (by assumption))))))) | exact And.right (And.right (And.right (And.right (And.right (And.right (And.right (And.right (by assumption)))))))) | exact And.right (And.right (And.right (And.right (And.right (And.right (And.right (And.right (And.right (by assumption))))))))) | exact And.right (And.right (And.right (And.right (And.right (And.right (And.right (And.right (And.right (And.right (by assumption)))))))))) | exact And.right (And.right (And.right (And.right (And.right (And.right (And.right (And.right (And.right (And.right (And.right (by assumption))))))))))) | exact And.right (And.right (And.right (And.right (And.right (And.right (And.right (And.right (And.right (And.right (And.right (And.right (by assumption))))))))))))) p hp))
  (k_with "UnrEnd" => (k_dflt (refine unr_one (by k_asm) (by k_asm) (by k_all) ?_; k_whole)))
  (k_with "UnrEnd" => (k_dflt (refine unr_three (by k_asm) (by k_asm) (by k_all) ?_; k_whole)))
  (k_with "call type:range" => (k_here; dsimp only [Int.reduceAdd, Int.reduceSub]))
  (k_with "eval ListComp" => (k_here; k_dflt (refine LCt.ListComp_T (F₀ := by k_asm) (by with_unfolding_all rfl) (by decide) (by rfl) (by decide) (by rfl) ?_)))
  (k_with "call builtin:list.extend" => (k_here; (with_reducible show wpAny _ _ (call (Value.builtin _) [Value.ref _, Value.ref _]) _ _ _); k_dflt (refine ext_strs (by k_asm) (by k_asm) (by k_mem) (by k_updF) (by first | assumption | exact few_nil) (by assumption) (by decide) ?_; k_whole; intro n9 h9 F9 N9 hS9; (try dsimp only at N9))))
  (k_with "call builtin:sorted" => (k_here; (with_reducible show wpAny _ _ (call (Value.builtin _) [Value.ref _]) _ _ _); k_dflt (refine sort_c (by k_asm) (by k_asm) (by k_mem) (by assumption) (by decide) ?_; k_whole; intro D9 vs9 n9 h9 F9 N9 hS9 l9; (try k_lt l9))))
  (k_with "call builtin:str.join" => (k_here; (with_reducible show wpAny _ _ (call (Value.builtin _) [Value.str _ _, Value.ref _]) _ _ _); k_dflt (refine join_c (by k_asm) (by k_mem) (by assumption) (by decide) (by decide) ?_; k_whole; intro t9 k9)))
  unfold Does
  k_fill
  intro dp un gd cn cs a ccd cl outer A₀ base h₀ L m s Q E B F X N T hk hd hu hret
  refine wpAny_call ?_
  k_dflt cell_enter
  (k_with "CompSrcT" =>
    k_dflt (refine src_strs leastOf (by rfl) (by k_asm) (by k_asm) (by k_mem) (by assumption) (by exact Nat.le_trans (allW_num (by omega) (by omega)) (by decide)) (fun _ => rfl) (fun _ => rfl) (by decide) ?_ ?_)
    rotate_left
    (intro g9 ys9 hys9; (have hF9 := few_filt hys9 hcfg (by omega)); (try k_fold))
    rotate_left
    (intro d9 t9 I9 oI9 C9 oC9 D9 m9 ys9 h9 tk9 E9 hd9 hC9 hx9 F9 N9 off9 ne9; (have hw9 := allW_each _ _ _ hd9); (try simp only [LCg.Off3, and_true] at off9); (try k_fold)))
  k_steps
  all_goals first
    | exact TestEnd.intro (by assumption) (by assumption) (by kcj_all) rfl
    | exact hret _ news _ _ (by assumption) (by first | assumption | exact cb_drop (by assumption) (by kcj_all)) ⟨rfl, _, rfl⟩
set_option maxRecDepth 100000 in
set_option maxHeartbeats 8000000 in
theorem due4_c (w : World) {p loose mean mg mb} (signs : Str) (tt mt : Tok) (hcfg : signs.length = 2 ∧ 4 ≤ 4 ∨ signs.length = 3 ∧ 4 ≤ 2) (news : List (Addr × Obj)) :
    Does 14 w p loose mean mg mb 143 news [.str signs tt, .int 4 mt] (fun r news' => news = news' ∧ ∃ t, r = .str (dueOf signs 4) t) := by
  w_top off
  k_with_none
  (k_with "call builtin:len" => (k_here; (with_reducible show wpAny _ _ (call (Value.builtin "len") [Value.ref _]) _ _ _); k_dflt (refine len_c (by k_asm) (by k_mem) (by decide) ?_; k_whole)))
  (k_with "subscriptTail" => (k_here; (with_reducible show wpAny _ _ (subscriptTail _ _ (Value.ref _) (Value.int _ _)) _ _ _); k_dflt (refine item_c (by k_asm) (by k_mem) (by decide) (by decide) (by rfl) ?_ (by with_unfolding_all rfl); k_whole)))
  (k_with "call ref" => (k_here; (with_reducible show wpAny _ _ (call (Value.ref 133) _) _ _ _); k_dflt (refine does_use2 (by k_asm) (by k_asm) (by k_asm) (by k_asm) (by k_asm) (by first | exact rfl | assumption) (all_c' _ _ _ _ _ _ (by first | exact (by decide : (1 : Int) = ((1 : Nat) : Int)) | exact (by decide : (2 : Int) = ((2 : Nat) : Int)) | exact (by decide : (3 : Int) = ((3 : Nat) : Int)) | exact (by decide : (4 : Int) = ((4 : Nat) : Int))) (by decide) (by decide) (by first | omega | (simp only [Str.length_append] at *; omega)) _) (by ktr_room) (by ktr_units) ?_;  k_whole; intro r9 news9 h9 tk9 F9 N9 hr9; (obtain ⟨D9, zs9, hB9, hA9, hW9, hL9⟩ := hr9; subst hA9; subst hB9; (try k_lt hL9));  (try dsimp only); (try k_fold))))
  (k_with "call ref" => (k_here; (with_reducible show wpAny _ _ (call (Value.ref 138) _) _ _ _); k_dflt (refine does_use2 (by k_asm) (by k_asm) (by k_asm) (by k_asm) (by k_asm) (by first | exact rfl | assumption) (least_c _ _ _ (by omega) (by omega) _) (by ktr_room) (by ktr_units) ?_;  k_whole; intro r9 news9 h9 tk9 F9 N9 hr9; (obtain ⟨hA9, hB9⟩ := hr9; subst hA9; subst hB9);  (try dsimp only); (try k_fold))))
  (k_with "k_all" => exact fun p hp => Nat.ne_of_lt (ktn_ltOf (by first | assumption | exact And.right (by assumption) | exact And.right (And.right (by assumption)) | exact And.right (And.right (And.right (by assumption))) | exact And.right (And.right (And.right (And.right (by assumption)))) | exact And.right (And.right (And.right (And.right (And.right (by assumption))))) | exact And.right (And.right (And.right (And.right (And.right (And.right (by assumption)))))) | exact And.right (And.right (And.right (And.right (And.right (And.right (And.right (by assumption))))))) | exact And.right (And.right (And.right (And.right (And.right (And.right (And.right (And.right (by assumption)))))))) | exact And.right (And.right (And.right (And.right (And.right (And.right (And.right (And.right (And.right (by assumption))))))))) | exact And.right (And.right (And.right (And.right (And.right (And.right (And.right (And.right (And.right (And.right (by assumption)))))))))) | exact And.right (And.right (And.right (And.right (And.right (And.right (And.right (And.right (And.right (And.right (And.right (by assumption))))))))))) | exact And.right (And.right (And.right (And.right (And.right (And.right (And.right (And.right (And.right (And.right (And.right (And.right (by assumption))))))))))))) p hp))
  (k_with "UnrEnd" => (k_dflt (refine unr_one (by k_asm) (by k_asm) (by k_all) ?_; k_whole)))
  (k_with "UnrEnd" => (k_dflt (refine unr_three (by k_asm) (by k_asm) (by k_all) ?_; k_whole)))
  (k_with "call type:range" => (k_here; dsimp only [Int.reduceAdd, Int.reduceSub]))
  (k_with "eval ListComp" => (k_here; k_dflt (refine LCt.ListComp_T (F₀ := by k_asm) (by with_unfolding_all rfl) (by decide) (by rfl) (by decide) (by rfl) ?_)))
  (k_with "call builtin:list.extend" => (k_here; (with_reducible show wpAny _ _ (call (Value.builtin _) [Value.ref _, Value.ref _]) _ _ _); k_dflt (refine ext_strs (by k_asm) (by k_asm) (by k_mem) (by k_updF) (by first | assumption | exact few_nil) (by assumption) (by decide) ?_; k_whole; intro n9 h9 F9 N9 hS9; (try dsimp only at N9))))
  (k_with "call builtin:sorted" => (k_here; (with_reducible show wpAny _ _ (call (Value.builtin _) [Value.ref _]) _ _ _); k_dflt (refine sort_c (by k_asm) (by k_asm) (by k_mem) (by assumption) (by decide) ?_; k_whole; intro D9 vs9 n9 h9 F9 N9 hS9 l9; (try k_lt l9))))
  (k_with "call builtin:str.join" => (k_here; (with_reducible show wpAny _ _ (call (Value.builtin _) [Value.str _ _, Value.ref _]) _ _ _); k_dflt (refine join_c (by k_asm) (by k_mem) (by assumption) (by decide) (by decide) ?_; k_whole; intro t9 k9)))
  unfold Does
  k_fill
  intro dp un gd cn cs a ccd cl outer A₀ base h₀ L m s Q E B F X N T hk hd hu hret
  refine wpAny_call ?_
  k_dflt cell_enter
  (k_with "CompSrcT" =>
    k_dflt (refine src_strs leastOf (by rfl) (by k_asm) (by k_asm) (by k_mem) (by assumption) (by exact Nat.le_trans (allW_num (by omega) (by omega)) (by decide)) (fun _ => rfl) (fun _ => rfl) (by decide) ?_ ?_)
    rotate_left
    (intro g9 ys9 hys9; (have hF9 := few_filt hys9 hcfg (by omega)); (try k_fold))
    rotate_left
    (intro d9 t9 I9 oI9 C9 oC9 D9 m9 ys9 h9 tk9 E9 hd9 hC9 hx9 F9 N9 off9 ne9; (have hw9 := allW_each _ _ _ hd9); (try simp only [LCg.Off3, and_true] at off9); (try k_fold)))
  k_steps
  all_goals first
    | exact TestEnd.intro (by assumption) (by assumption) (by kcj_all) rfl
    | exact hret _ news _ _ (by assumption) (by first | assumption | exact cb_drop (by assumption) (by kcj_all)) ⟨rfl, _, rfl⟩
section
variable {prog : Program} {w : World} {A : Around} {E : Value → Shared → Prop} {s : Shared} {env : Env} {h₀ : Heap} {x y : Str} {body : List Stmt} {Q : Flow → Shared → Prop}
/-- a turn's end: the cell holds the next text, the frame stands but for the loop's own name and y -/
def TurnEnd (h₀ : Heap) (L : Addr) (x y : Str) (m₀ : Str → Option Value) (c : Addr) (rest : List (Addr × Obj)) (v : Str) (s₁ s₂ : Shared) : Prop :=
  ∃ h' tk m' o t, s₂ = { s₁ with heap := h', toks := tk } ∧ Fr h₀ L h' m' ∧ News h₀ L h' ((c, o) :: rest) ∧ o.data = .cell (some (.str v t)) ∧ ∀ z, z ≠ x → z ≠ y → m' z = m₀ z
def TurnPost (h₀ : Heap) (L : Addr) (x y : Str) (m₀ : Str → Option Value) (c : Addr) (rest : List (Addr × Obj)) (v : Str) (s₁ : Shared) (Q : Flow → Shared → Prop) (f : Flow) (s₂ : Shared) : Prop :=
  match f with
  | .ret v => Q (.ret v) s₂
  | .brk => Q .next s₂
  | _ => TurnEnd h₀ L x y m₀ c rest v s₁ s₂
theorem loop_cell {r : Addr} {b₀ : Int} {t₀ u₀ v₀ tc : Tok} {n : Nat} {m₀ : Str → Option Value} {news : List (Addr × Obj)} {c : Addr} {o : Obj} {g : Obj → List (Addr × Obj)} (grow : Nat → Str) (cv : Str) (_hcv : env.cells.lookup cv = some c)
    (hh : A.handled = none) (hr : IsRange s.heap r 0 b₀ 1 t₀ u₀ v₀) (hsmall : Builtin.Range.small 0 b₀ 1 = true) (hn : Builtin.Range.rangeSize 0 b₀ 1 = (n : Int)) (F : Fr h₀ env.locals s.heap m₀) (N : News h₀ env.locals s.heap news)
    (U : UpdF c o news g) (ho : o.data = .cell (some (.str (grow 0) tc)))
    (turn : ∀ (i : Nat) (o : Obj) (t tk' : Tok) (u : Str → Option Value) rest h tk, i < n → (∀ p ∈ rest, p.1 ≠ c) → o.data = .cell (some (.str (grow i) t)) →
      Fr h₀ env.locals h (fun z => if z = x then some (.int (i : Int) tk') else if z = y then u z else m₀ z) → News h₀ env.locals h ((c, o) :: rest) →
      wpAny (model prog w) A (execs body env) (TurnPost h₀ env.locals x y m₀ c rest (grow (i + 1)) { s with heap := h, toks := tk } Q) E { s with heap := h, toks := tk })
    (done : ∀ (o : Obj) t (u : Str → Option Value) h tk, o.data = .cell (some (.str (grow n) t)) → Fr h₀ env.locals h (fun z => if z = x then u z else if z = y then u z else m₀ z) → News h₀ env.locals h (g o) → Q .next { s with heap := h, toks := tk }) :
    wpAny (model prog w) A (pyIter (.ref r)) (fun it s₂ => LoopAtV prog w A h₀ env x body Q E it s₂) E s := by
  obtain ⟨pre, post, e, eg, h1, h2⟩ := U.split
  have adr : ∀ o', (g o').map (·.1) = (g o).map (·.1) := fun o' => by rw [eg, eg, List.map_append, List.map_append, List.map_cons, List.map_cons]
  have start : News h₀ env.locals s.heap (g o) := by rw [eg, ← e]; exact N
  refine kst_range (σ := Nat × Obj × Tok) (fun c => g c.2.1) (fun _ => []) (fun c => c.2.1.data = .cell (some (.str (grow c.1) c.2.2))) [y] (fun pre c => c.1 = pre.length) (0, o, tc) hh hr hsmall hn F start ho (List.forall_mem_nil _) rfl ?_ ?_
  · rintro ⟨i, o', t⟩ pr k tk' u h tk own hk hlt hoff hf hp F₁ N₁
    dsimp only at hf hp N₁ hoff
    subst hp
    have ek : k = ((pr.length : Nat) : Int) := by omega
    subst ek
    have hc : ∀ p ∈ (pre ++ post) ++ own, p.1 ≠ c := fun p hp' => by
      rcases List.mem_append.mp hp' with hp' | hp'
      · exact (List.mem_append.mp hp').elim (h1 p) (h2 p)
      · exact hoff.ne (List.mem_map.mpr ⟨(c, o), by rw [eg]; exact List.mem_append.mpr (.inr (.head _)), rfl⟩) p hp'
    have N₂ : News h₀ env.locals h ((c, o') :: ((pre ++ post) ++ own)) := fun p hp' => N₁ p (by
      rw [eg]
      rcases List.mem_cons.mp hp' with rfl | hp'
      · exact List.mem_append.mpr (.inl (List.mem_append.mpr (.inr (.head _))))
      · rcases List.mem_append.mp hp' with hp' | hp'
        · rcases List.mem_append.mp hp' with hp' | hp'
          · exact List.mem_append.mpr (.inl (List.mem_append.mpr (.inl hp')))
          · exact List.mem_append.mpr (.inl (List.mem_append.mpr (.inr (.tail _ hp'))))
        · exact List.mem_append.mpr (.inr hp'))
    have F₂ : Fr h₀ env.locals h (fun z => if z = x then some (.int ((pr.length : Nat) : Int) tk') else if z = y then u z else m₀ z) := by
      have em : (fun z => if z = x then some (Value.int ((pr.length : Nat) : Int) tk') else if z = y then u z else m₀ z) = fun z => if z = x then some (Value.int ((pr.length : Nat) : Int) tk') else kstB (fun z => if [y].contains z then u z else m₀ z) [] z := by
        funext z
        by_cases hx : z = x
        · rw [if_pos hx, if_pos hx]
        · rw [if_neg hx, if_neg hx]
          show _ = if [y].contains z = true then u z else m₀ z
          by_cases hy : z = y
          · rw [if_pos hy, if_pos (by simp [hy])]
          · rw [if_neg hy, if_neg (by simp [hy])]
      rw [em]; exact F₁
    refine wpAny_mono (turn pr.length o' t tk' u _ h tk hlt hc hf F₂ N₂) (fun f s₂ p => ?_) fun _ _ e => e
    have fin : TurnEnd h₀ env.locals x y m₀ c ((pre ++ post) ++ own) (grow (pr.length + 1)) { s with heap := h, toks := tk } s₂ →
        InvEndN h₀ env.locals (KstS (σ := Nat × Obj × Tok) (fun c => g c.2.1) (fun _ => []) (fun c => c.2.1.data = .cell (some (.str (grow c.1) c.2.2))) x [y] m₀ (fun pre c => c.1 = pre.length) (pr ++ [((pr.length : Nat) : Int)])) own ((g o).map (·.1)) { s with heap := h, toks := tk } s₂ := by
      rintro ⟨h', tk', m', o₂, t₂, rfl, F', N', ho', hm⟩
      refine kst_end (pr.length + 1, o₂, t₂) F' N' (fun p hp' => ?_) (fun p hp' => .tail _ (List.mem_append.mpr (.inr hp'))) (adr o₂) ho' (List.forall_mem_nil _) (fun z hx _ hs => hm z hx (by
        simp only [List.contains_cons, List.contains_nil, Bool.or_false, beq_eq_false_iff_ne, ne_eq] at hs
        exact hs)) (by simp)
      dsimp only at hp'
      rw [eg] at hp'
      rcases List.mem_append.mp hp' with hp' | hp'
      · exact .tail _ (List.mem_append.mpr (.inl (List.mem_append.mpr (.inl hp'))))
      · rcases List.mem_cons.mp hp' with rfl | hp'
        · exact .head _
        · exact .tail _ (List.mem_append.mpr (.inl (List.mem_append.mpr (.inr hp'))))
    cases f with
    | ret v => exact p
    | brk => exact p
    | next => exact fin p
    | cont => exact fin p
  · rintro ⟨i, o', t⟩ u h tk hf hp F₁ N₁
    dsimp only at hf hp N₁
    rw [rangeKs_length] at hp
    subst hp
    refine done o' t u h tk hf ?_ N₁
    have em : (fun z => if z = x then u z else if z = y then u z else m₀ z) = fun z => if z = x then u z else kstB (fun z => if [y].contains z then u z else m₀ z) [] z := by
      funext z
      by_cases hx : z = x
      · rw [if_pos hx, if_pos hx]
      · rw [if_neg hx, if_neg hx]
        show _ = if [y].contains z = true then u z else m₀ z
        by_cases hy : z = y
        · rw [if_pos hy, if_pos (by simp [hy])]
        · rw [if_neg hy, if_neg (by simp [hy])]
    rw [em]; exact F₁
end
def grow (g : Str) (m : Int) : Nat → Str
  | 0 => Txt.mul (Txt.item g (-1)) m
  | i + 1 => longerOf (grow g m i) g m
def ringOf (g : Str) (m : Int) (n : Nat) : Str := midOf (grow g m n) (m + 1) ++ Txt.item g (-1)
def firstOf (ring : Str) (m : Int) (w : Str) : Int := onlyAt (ring ++ Txt.slice ring none (some (m - 1))) w
def turnedOf (ring : Str) (spot : Int) : Str := Txt.slice ring (some spot) none ++ Txt.slice ring none (some spot)
/-- what the plain law says of the signs g: m the words' length, n the words' number -/
structure Facts (g : Str) (m : Nat) (n : Nat) : Prop where
  allN : (((allW g m).length : Nat) : Int) = n
  len : ∀ i, i < n → (grow g m i).length = m + i
  fix : longerOf (grow g m (n - 1)) g m = grow g m (n - 1)
  once : List.filter (fun w => decide (onlyAt (grow g m (n - 1)) w = 0)) (allW g m) = []
  ring : ringOf g m (n - 1) = dueOf g m
  ringN : (ringOf g m (n - 1)).length = n
  pos : ∀ w ∈ allW g m, 0 < firstOf (ringOf g m (n - 1)) m w
  turnN : ∀ spot : Int, 0 ≤ spot → spot < n → (turnedOf (ringOf g m (n - 1)) spot).length = n
  turn : ∀ spot : Int, 0 ≤ spot → spot < n → ∀ w ∈ allW g m, firstOf (turnedOf (ringOf g m (n - 1)) spot) m w = (firstOf (ringOf g m (n - 1)) m w - 1 - spot).fmod n + 1
theorem ring_len {g : Str} {m n : Nat} (h : Facts g m n) (hn : n ≤ 31) (k : Option Int) : (ringOf g m (n - 1) ++ Txt.slice (ringOf g m (n - 1)) none k).length ≤ 63 := by
  have h1 := h.ringN
  have h2 := Txt.slice_le (ringOf g m (n - 1)) none k
  rw [Str.length_append]; omega
theorem turn_len {g : Str} {m n : Nat} (h : Facts g m n) (hn : n ≤ 31) (k : Option Int) {spot : Int} (h0 : 0 ≤ spot) (h1 : spot < n) : (turnedOf (ringOf g m (n - 1)) spot ++ Txt.slice (turnedOf (ringOf g m (n - 1)) spot) none k).length ≤ 63 := by
  have h1 := h.turnN spot h0 h1
  have h2 := Txt.slice_le (turnedOf (ringOf g m (n - 1)) spot) none k
  rw [Str.length_append]; omega
theorem allW_getD_le (g : Str) (m i : Nat) (hm : m ≤ 64) : ((allW g m).getD i Str.empty).length ≤ 64 := by
  rw [List.getD_eq_getElem?_getD]
  cases h : (allW g m)[i]? with
  | none => exact Nat.zero_le _
  | some w =>
    have := allW_each g m w (List.mem_of_getElem? h)
    show w.length ≤ 64
    omega
theorem allW_getD_mem {g : Str} {m n : Nat} (h : Facts g m n) {k : Int} (h0 : 0 ≤ k) (h1 : k < n) : (allW g m).getD k.toNat Str.empty ∈ allW g m := by
  have hn := h.allN
  have hk : k.toNat < (allW g m).length := by omega
  rw [List.getD_eq_getElem?_getD, List.getElem?_eq_getElem hk]
  exact List.getElem_mem hk
theorem law_pos {g : Str} {m n : Nat} (h : Facts g m n) {w : Str} (hw : w ∈ allW g m) : decide (0 < firstOf (ringOf g m (n - 1)) m w) = true := decide_eq_true (h.pos w hw)
theorem law_end {g : Str} {m n : Nat} (h : Facts g m n) {w : Str} (hw : w ∈ allW g m) {spot : Int} (h0 : 0 ≤ spot) (h1 : spot < n) :
    (firstOf (turnedOf (ringOf g m (n - 1)) spot) m w == (firstOf (ringOf g m (n - 1)) m w - 1 - spot).fmod ((ringOf g m (n - 1)).length : Int) + 1) = true := by
  rw [h.ringN]; exact beq_iff_eq.mpr (h.turn spot h0 h1 w hw)

theorem gw_true {c : ClaimW} {cl : Str → Option Addr} {mean : ExcName → Option Value} {args : List WData} {s₁ s' : Shared} {b : Bool} (e : b = true) (h : GoodW c cl mean args s₁ (.ok (.ret (.bool true))) s') : GoodW c cl mean args s₁ (.ok (.ret (.bool b))) s' := by
  subst e; exact h
def freeL (p : Str × NameKind) : Bool := p.2 == .free
def clStep (env : Env) (p : Str × NameKind) (cs : List (Str × Addr)) : Sem (ForInStep (List (Str × Addr))) :=
  if p.2 == .free then do
    let a ← cellOf env p.1
    pure (.yield ((p.1, a) :: cs))
  else pure (.yield cs)
theorem closure_eq (scope : Scope) (env : Env) : closureFor scope env = (forIn scope.names [] (clStep env) >>= fun cs => pure cs) := by rfl
theorem clos_none {env : Env} : ∀ (l : List (Str × NameKind)) (acc : List (Str × Addr)), l.filter freeL = [] → forIn l acc (clStep env) = (pure acc : Sem _)
  | [], acc, _ => by rw [List.forIn_nil]
  | p :: r, acc, h => by
    by_cases hp : freeL p = true
    · rw [List.filter_cons_of_pos hp] at h; cases h
    · rw [List.filter_cons_of_neg hp] at h
      have e : clStep env p acc = pure (.yield acc) := by
        unfold clStep; rw [if_neg (by unfold freeL at hp; exact hp)]
      rw [List.forIn_cons, e]
      exact clos_none r acc h
theorem clos_one {env : Env} {x : Str} {c : Addr} (hc : cellOf env x = pure c) : ∀ (l : List (Str × NameKind)) (acc : List (Str × Addr)), l.filter freeL = [(x, .free)] → forIn l acc (clStep env) = (pure ((x, c) :: acc) : Sem _)
  | [], acc, h => by cases h
  | p :: r, acc, h => by
    by_cases hp : freeL p = true
    · rw [List.filter_cons_of_pos hp] at h
      have h1 := (List.cons.inj h).1
      have h2 := (List.cons.inj h).2
      subst h1
      have e : clStep env (x, .free) acc = pure (.yield ((x, c) :: acc)) := by
        unfold clStep; rw [if_pos (by rfl), hc]; rfl
      rw [List.forIn_cons, e]
      exact clos_none r _ h2
    · rw [List.filter_cons_of_neg hp] at h
      have e : clStep env p acc = pure (.yield acc) := by
        unfold clStep; rw [if_neg (by unfold freeL at hp; exact hp)]
      rw [List.forIn_cons, e]
      exact clos_one hc r acc h
theorem closure_one {scope : Scope} {env : Env} {x : Str} {c : Addr} (hn : scope.names.filter freeL = [(x, .free)]) (hc : cellOf env x = pure c) : closureFor scope env = pure [(x, c)] := by
  rw [closure_eq, clos_one hc _ _ hn]; rfl
theorem cell_of {env : Env} {x : Str} {c : Addr} (h : env.cells.lookup x = some c) : cellOf env x = pure c := by
  unfold cellOf; rw [h]
def mapS (f : Nat → Nat) (s : Str) : Str := ⟨s.cps.map f⟩
section
variable {f : Nat → Nat}
theorem ms_len (s : Str) : (mapS f s).length = s.length := Array.size_map
theorem ms_app (a b : Str) : mapS f (a ++ b) = mapS f a ++ mapS f b := by
  show (⟨(a.cps ++ b.cps).map f⟩ : Str) = ⟨a.cps.map f ++ b.cps.map f⟩
  rw [Array.map_append]
theorem ms_one (c : Nat) : (⟨#[f c]⟩ : Str) = mapS f ⟨#[c]⟩ := by simp [mapS]
theorem ms_list (s : Str) : (mapS f s).cps.toList = s.cps.toList.map f := Array.toList_map
theorem ms_slice (s : Str) (l u : Option Int) : Txt.slice (mapS f s) l u = mapS f (Txt.slice s l u) := by
  unfold Txt.slice
  rw [ms_len]
  split
  · rfl
  · show (⟨_⟩ : Str) = ⟨(List.toArray _).map f⟩
    rw [List.map_toArray, List.map_filterMap]
    congr 3
    funext i
    exact Array.getElem?_map
theorem ms_empty : mapS f Str.empty = Str.empty := by simp [mapS, Str.empty]
theorem ms_charAt (s : Str) (i : Int) : Txt.charAt (mapS f s) i = (Txt.charAt s i).map f := by
  unfold Txt.charAt
  rw [ms_len]
  cases seqIndex? i s.length with
  | none => rfl
  | some k => exact Array.getElem?_map
theorem ms_item (h0 : f 0 = 0) (s : Str) (i : Int) : Txt.item (mapS f s) i = mapS f (Txt.item s i) := by
  unfold Txt.item
  rw [ms_charAt, ← ms_one]
  cases Txt.charAt s i with
  | none => show (⟨#[0]⟩ : Str) = ⟨#[f 0]⟩; rw [h0]
  | some k => rfl
theorem ms_foldl (l : List (Array Nat)) (a : Array Nat) : (l.map (Array.map f)).foldl (· ++ ·) (a.map f) = (l.foldl (· ++ ·) a).map f := by
  induction l generalizing a with
  | nil => rfl
  | cons x r ih => rw [List.map_cons, List.foldl_cons, List.foldl_cons, ← Array.map_append, ih]
theorem ms_mul (s : Str) (n : Int) : Txt.mul (mapS f s) n = mapS f (Txt.mul s n) := by
  unfold Txt.mul
  rw [ms_len]
  split
  · exact ms_empty.symm
  · split
    · rfl
    · show (⟨_⟩ : Str) = ⟨_⟩
      have := ms_foldl (f := f) (List.replicate n.toNat s.cps) #[]
      rw [List.map_replicate, Array.map_empty] at this
      exact congrArg Str.mk this
theorem ms_nil : mapS f (Str.ofString "") = Str.ofString "" := by
  have e : Str.ofString "" = Str.empty := by rfl
  rw [e, ms_empty]
theorem ms_glue (l : List Str) (a : Array Nat) : (l.map (mapS f)).foldl (fun acc p => acc ++ (Str.ofString "").cps ++ p.cps) (a.map f) = (l.foldl (fun acc p => acc ++ (Str.ofString "").cps ++ p.cps) a).map f := by
  have e : (Str.ofString "").cps = #[] := by rfl
  induction l generalizing a with
  | nil => rfl
  | cons x r ih =>
    rw [List.map_cons, List.foldl_cons, List.foldl_cons, ← ih]
    congr 1
    rw [e, Array.append_empty, Array.append_empty, Array.map_append]; rfl
theorem ms_join (l : List Str) : Txt.join (Str.ofString "") (l.map (mapS f)) = mapS f (Txt.join (Str.ofString "") l) := by
  cases l with
  | nil => exact ms_empty.symm
  | cons x r => exact congrArg Str.mk (ms_glue r x.cps)
theorem inj_map (hf : ∀ a b, f a = f b → a = b) : ∀ a b : List Nat, a.map f = b.map f → a = b
  | [], [], _ => rfl
  | [], _ :: _, e => by cases e
  | _ :: _, [], e => by cases e
  | a :: r, b :: s, e => by
    rw [List.map_cons, List.map_cons] at e
    rw [hf a b (List.cons.inj e).1, inj_map hf r s (List.cons.inj e).2]
theorem ms_inj (hf : ∀ a b, f a = f b → a = b) {a b : Str} (h : mapS f a = mapS f b) : a = b := by
  have h' : a.cps.toList.map f = b.cps.toList.map f := by rw [← ms_list, ← ms_list, h]
  have e := inj_map hf _ _ h'
  cases a; cases b
  exact congrArg Str.mk (Array.toList_inj.mp e)
theorem ms_beq (hf : ∀ a b, f a = f b → a = b) (a b : Str) : (mapS f a == mapS f b) = (a == b) := by
  rw [Bool.eq_iff_iff, beq_iff_eq, beq_iff_eq]
  exact ⟨ms_inj hf, fun h => by rw [h]⟩
theorem ms_lt (hm : ∀ a b, a < b → f a < f b) : ∀ a b : List Nat, a.map f < b.map f ↔ a < b
  | [], [] => by simp
  | [], b :: s => by simp
  | a :: r, [] => by simp
  | a :: r, b :: s => by
    rw [List.map_cons, List.map_cons, List.cons_lt_cons_iff, List.cons_lt_cons_iff, ms_lt hm r s]
    have h1 : f a < f b ↔ a < b := ⟨fun h => by
      rcases Nat.lt_trichotomy a b with h' | h' | h'
      · exact h'
      · subst h'; omega
      · have := hm _ _ h'; omega, hm a b⟩
    have h2 : f a = f b ↔ a = b := ⟨fun h => by
      rcases Nat.lt_trichotomy a b with h' | h' | h'
      · have := hm _ _ h'; omega
      · exact h'
      · have := hm _ _ h'; omega, fun h => by rw [h]⟩
    rw [h1, h2]
end
/-- a rising map that keeps 0 -/
structure Rising (f : Nat → Nat) : Prop where
  zero : f 0 = 0
  mono : ∀ a b, a < b → f a < f b
theorem Rising.inj {f : Nat → Nat} (h : Rising f) : ∀ a b, f a = f b → a = b := fun a b e => by
  rcases Nat.lt_trichotomy a b with h' | h' | h'
  · have := h.mono _ _ h'; omega
  · exact h'
  · have := h.mono _ _ h'; omega
section
variable {f : Nat → Nat} (h : Rising f)
include h
theorem ms_stands (t p : Str) (b : Int) (j : Nat) : standsAt (mapS f t) (mapS f p) b j = standsAt t p b j := by
  unfold standsAt
  rw [ms_len, ms_slice, ms_beq h.inj]
theorem ms_found (t p : Str) (b : Int) : foundAt (mapS f t) (mapS f p) b = foundAt t p b := by
  have e : standsAt (mapS f t) (mapS f p) b = standsAt t p b := funext fun j => ms_stands h t p b j
  unfold foundAt turnsOf
  rw [ms_len, ms_len, e]
theorem ms_right (t : Str) (k : Int) : rightOf (mapS f t) k = mapS f (rightOf t k) := by
  unfold rightOf
  rw [ms_len, ms_slice]
theorem ms_mid (t : Str) (k : Int) : midOf (mapS f t) k = mapS f (midOf t k) := ms_slice _ _ _
theorem ms_only (t p : Str) : onlyAt (mapS f t) (mapS f p) = onlyAt t p := by
  unfold onlyAt
  rw [ms_found h, ms_found h]
theorem ms_longer (t g : Str) (m : Int) : longerOf (mapS f t) (mapS f g) m = mapS f (longerOf t g m) := by
  unfold longerOf
  rw [ms_list, List.find?_map]
  have e : ((fun c => foundAt (mapS f t) (rightOf (mapS f t) (m - 1) ++ ⟨#[c]⟩) 1 == 0) ∘ f) = (fun c => foundAt t (rightOf t (m - 1) ++ ⟨#[c]⟩) 1 == 0) := by
    funext c
    show (foundAt (mapS f t) (rightOf (mapS f t) (m - 1) ++ ⟨#[f c]⟩) 1 == 0) = _
    rw [ms_one, ms_right h, ← ms_app, ms_found h]
  rw [e]
  cases List.find? (fun c => foundAt t (rightOf t (m - 1) ++ ⟨#[c]⟩) 1 == 0) g.cps.toList with
  | none => rfl
  | some c => show mapS f t ++ ⟨#[f c]⟩ = mapS f (t ++ ⟨#[c]⟩); rw [ms_one, ms_app]
theorem ms_all (g : Str) : ∀ n, allW (mapS f g) n = (allW g n).map (mapS f)
  | 0 => by show [Str.ofString ""] = [mapS f (Str.ofString "")]; rw [ms_nil]
  | n + 1 => by
    show outs (mapS f g) (allW (mapS f g) n) = (outs g (allW g n)).map (mapS f)
    rw [ms_all g n]
    unfold outs
    rw [List.flatMap_map, List.map_flatMap]
    congr 1
    funext w
    rw [ms_list, List.map_map, List.map_map]
    congr 1
    funext c
    show mapS f w ++ ⟨#[f c]⟩ = mapS f (w ++ ⟨#[c]⟩)
    rw [ms_one, ms_app]
theorem ms_leastTest (w : Str) (k : Int) : leastTest (mapS f w) k = leastTest w k := by
  unfold leastTest
  rw [ms_slice, ms_slice, ← ms_app, ms_list, ms_list]
  congr 1
  exact decide_eq_decide.mpr (ms_lt h.mono _ _)
theorem ms_least (w : Str) : leastOf (mapS f w) = leastOf w := by
  have e : (fun k => leastTest (mapS f w) k) = fun k => leastTest w k := funext fun k => ms_leastTest h w k
  unfold leastOf
  rw [ms_len, e]
theorem ms_filter (l : List Str) : List.filter leastOf (l.map (mapS f)) = (List.filter leastOf l).map (mapS f) := by
  rw [List.filter_map]
  have e : leastOf ∘ mapS f = leastOf := funext fun w => ms_least h w
  rw [e]
theorem ms_leB (a b : Str) : leB (mapS f a) (mapS f b) = leB a b := by
  unfold leB
  rw [ms_list, ms_list]
  congr 1
  exact decide_eq_decide.mpr (ms_lt h.mono _ _)
theorem ms_ins (x : Str) : ∀ l : List Str, insW (mapS f x) (l.map (mapS f)) = (insW x l).map (mapS f)
  | [] => rfl
  | y :: r => by
    show (if leB (mapS f x) (mapS f y) then mapS f x :: mapS f y :: r.map (mapS f) else mapS f y :: insW (mapS f x) (r.map (mapS f))) = _
    rw [ms_leB h, ms_ins x r]
    show _ = (if leB x y then x :: y :: r else y :: insW x r).map (mapS f)
    split <;> rfl
theorem ms_sort : ∀ l : List Str, sortW (l.map (mapS f)) = (sortW l).map (mapS f)
  | [] => rfl
  | x :: r => by
    show insW (mapS f x) (sortW (r.map (mapS f))) = (insW x (sortW r)).map (mapS f)
    rw [ms_sort r, ms_ins h]
theorem ms_due (g : Str) (k : Nat) (hk : 2 ≤ k ∧ k ≤ 4) : dueOf (mapS f g) k = mapS f (dueOf g k) := by
  have e : dueList (mapS f g) k = (dueList g k).map (mapS f) := by
    obtain rfl | rfl | rfl : k = 2 ∨ k = 3 ∨ k = 4 := by omega
    all_goals (unfold dueList; simp only [ms_all h, ms_filter h, List.map_append, List.map_nil])
  unfold dueOf
  rw [e, ms_sort h, ms_join]
theorem ms_grow (g : Str) (m : Int) : ∀ i, grow (mapS f g) m i = mapS f (grow g m i)
  | 0 => by
    show Txt.mul (Txt.item (mapS f g) (-1)) m = mapS f (Txt.mul (Txt.item g (-1)) m)
    rw [ms_item h.zero, ms_mul]
  | i + 1 => by
    show longerOf (grow (mapS f g) m i) (mapS f g) m = mapS f (longerOf (grow g m i) g m)
    rw [ms_grow g m i, ms_longer h]
theorem ms_ring (g : Str) (m : Int) (n : Nat) : ringOf (mapS f g) m n = mapS f (ringOf g m n) := by
  unfold ringOf
  rw [ms_grow h, ms_mid h, ms_item h.zero, ← ms_app]
theorem ms_first (r : Str) (m : Int) (w : Str) : firstOf (mapS f r) m (mapS f w) = firstOf r m w := by
  unfold firstOf
  rw [ms_slice, ← ms_app, ms_only h]
theorem ms_turned (r : Str) (k : Int) : turnedOf (mapS f r) k = mapS f (turnedOf r k) := by
  unfold turnedOf
  rw [ms_slice, ms_slice, ← ms_app]
theorem ms_facts {g : Str} {m n : Nat} (hm : 2 ≤ m ∧ m ≤ 4) (F : Facts g m n) : Facts (mapS f g) m n where
  allN := by rw [ms_all h, List.length_map]; exact F.allN
  len := fun i hi => by rw [ms_grow h, ms_len]; exact F.len i hi
  fix := by rw [ms_grow h, ms_longer h, F.fix]
  once := by
    rw [ms_all h, ms_grow h, List.filter_map]
    have e : ((fun w => decide (onlyAt (mapS f (grow g m (n - 1))) w = 0)) ∘ mapS f) = fun w => decide (onlyAt (grow g m (n - 1)) w = 0) := by
      funext w
      show decide (onlyAt (mapS f (grow g m (n - 1))) (mapS f w) = 0) = _
      rw [ms_only h]
    rw [e, F.once]; rfl
  ring := by rw [ms_ring h, F.ring, ms_due h g m hm]
  ringN := by rw [ms_ring h, ms_len]; exact F.ringN
  pos := fun w hw => by
    rw [ms_all h] at hw
    obtain ⟨v, hv, rfl⟩ := List.mem_map.mp hw
    rw [ms_ring h, ms_first h]
    exact F.pos v hv
  turnN := fun k h0 h1 => by rw [ms_ring h, ms_turned h, ms_len]; exact F.turnN k h0 h1
  turn := fun k h0 h1 w hw => by
    rw [ms_all h] at hw
    obtain ⟨v, hv, rfl⟩ := List.mem_map.mp hw
    rw [ms_ring h, ms_turned h, ms_first h, ms_first h]
    exact F.turn k h0 h1 v hv
end
theorem slice_list (x : Str) {a b : Nat} (hab : a ≤ b) (hb : b ≤ x.length) : (Txt.slice x (some (a : Int)) (some (b : Int))).cps.toList = (x.cps.toList.drop a).take (b - a) := by
  unfold Txt.slice
  split
  · rename_i h
    have e := congrArg List.length (StrLaws.strSliceIndices_plain hab hb)
    rw [List.length_map, List.length_range] at e
    simp only [beq_self_eq_true, Bool.true_and, beq_iff_eq] at h
    have h0 : a = 0 := by omega
    have h1 : b = x.length := by omega
    subst h0; subst h1
    rw [List.drop_zero, Nat.sub_zero, List.take_of_length_le (by rw [Array.length_toList]; exact Nat.le_refl _)]
  · exact StrLaws.sliced_plain x hab hb
/-- does p stand at the front of l -/
def fpre : List Nat → List Nat → Bool
  | [], _ => true
  | _ :: _, [] => false
  | a :: r, c :: s => Nat.beq a c && fpre r s
/-- the first place (from i on) at which p stands in l, one more; 0: none -/
def ffind (p : List Nat) : List Nat → Nat → Nat
  | [], _ => 0
  | c :: s, i => bif fpre p (c :: s) then i + 1 else ffind p s (i + 1)
theorem fpre_take : ∀ (p l : List Nat), fpre p l = (l.take p.length == p)
  | [], l => by simp [fpre]
  | a :: r, [] => by simp [fpre]
  | a :: r, c :: s => by
    rw [fpre, fpre_take r s, List.length_cons, List.take_succ_cons]
    rw [Bool.eq_iff_iff]
    simp only [Bool.and_eq_true, beq_iff_eq, Nat.beq_eq, List.cons.injEq]
    exact ⟨fun h => ⟨h.1.symm, h.2⟩, fun h => ⟨h.1.symm, h.2⟩⟩
theorem fpre_short : ∀ {p l : List Nat}, l.length < p.length → fpre p l = false
  | [], _, h => absurd h (Nat.not_lt_zero _)
  | _ :: _, [], _ => rfl
  | a :: r, c :: s, h => by
    rw [fpre, fpre_short (p := r) (l := s) (by simpa using h), Bool.and_false]
theorem ffind_short {p : List Nat} : ∀ {l : List Nat} (i : Nat), l.length < p.length → ffind p l i = 0
  | [], _, _ => rfl
  | c :: s, i, h => by
    rw [ffind, fpre_short h, cond_false, ffind_short (i + 1) (by rw [List.length_cons] at h; omega)]
theorem ffind_range {p t : List Nat} (hp : 0 < p.length) : ∀ (n k : Nat), n = t.length + 1 - p.length - k → (match (List.range n).find? (fun j => fpre p (t.drop (k + j))) with | some j => k + j + 1 | none => 0) = ffind p (t.drop k) k
  | 0, k, h => by rw [ffind_short k (by rw [List.length_drop]; omega)]; rfl
  | n + 1, k, h => by
    have hk : k < t.length := by omega
    rw [List.drop_eq_getElem_cons hk, ffind, ← List.drop_eq_getElem_cons hk, ← ffind_range hp n (k + 1) (by omega), List.range_succ_eq_map, List.find?_cons]
    rw [Nat.add_zero]
    cases hf : fpre p (t.drop k) with
    | true => rfl
    | false =>
      rw [List.find?_map, cond_false]
      have e : ((fun j => fpre p (t.drop (k + j))) ∘ Nat.succ) = fun j => fpre p (t.drop (k + 1 + j)) := by
        funext j
        show fpre p (t.drop (k + (j + 1))) = _
        rw [show k + (j + 1) = k + 1 + j by omega]
      rw [e]
      cases (List.range n).find? (fun j => fpre p (t.drop (k + 1 + j))) with
      | none => rfl
      | some j =>
        show k + (j + 1) + 1 = k + 1 + j + 1
        omega
theorem find_congr {α : Type} {f g : α → Bool} : ∀ {l : List α}, (∀ x ∈ l, f x = g x) → l.find? f = l.find? g
  | [], _ => rfl
  | x :: r, h => by
    rw [List.find?_cons, List.find?_cons, h x (.head _), find_congr fun y hy => h y (.tail _ hy)]
theorem stands_fast {text part : Str} {k j : Nat} (h : k + j + part.length ≤ text.length) : standsAt text part ((k : Int) + 1) j = fpre part.cps.toList (text.cps.toList.drop (k + j)) := by
  unfold standsAt
  have e1 : (k : Int) + 1 - 1 + (j : Int) = ((k + j : Nat) : Int) := by omega
  have e2 : (k : Int) + 1 - 1 + (j : Int) + (part.length : Int) = ((k + j + part.length : Nat) : Int) := by omega
  rw [e2, e1, fpre_take]
  have hs := slice_list text (a := k + j) (b := k + j + part.length) (Nat.le_add_right _ _) h
  rw [Nat.add_sub_cancel_left] at hs
  rw [Bool.eq_iff_iff, beq_iff_eq, beq_iff_eq]
  have hl : part.cps.toList.length = part.length := Array.length_toList
  rw [hl, ← hs]
  constructor
  · intro h; rw [h]
  · intro h
    cases hx : Txt.slice text (some ((k + j : Nat) : Int)) (some ((k + j + part.length : Nat) : Int))
    rw [hx] at h
    cases part
    exact congrArg Str.mk (Array.toList_inj.mp h)
theorem found_fast {text part : Str} (hp : 0 < part.length) (k : Nat) : foundAt text part ((k : Int) + 1) = (ffind part.cps.toList (text.cps.toList.drop k) k : Nat) := by
  have lt : text.cps.toList.length = text.length := Array.length_toList
  have lp : part.cps.toList.length = part.length := Array.length_toList
  unfold foundAt
  by_cases h : (text.length : Int) < (k : Int) + 1
  · rw [if_pos h, ffind_short k (by rw [List.length_drop]; omega)]; rfl
  · rw [if_neg h, ← ffind_range (by rw [lp]; exact hp) (turnsOf text part ((k : Int) + 1)) k (by unfold turnsOf; rw [lt, lp]; omega)]
    rw [find_congr (g := fun j => fpre part.cps.toList (text.cps.toList.drop (k + j))) fun j hj => stands_fast (by
      rw [List.mem_range] at hj; unfold turnsOf at hj; omega)]
    cases (List.range (turnsOf text part ((k : Int) + 1))).find? (fun j => fpre part.cps.toList (text.cps.toList.drop (k + j))) with
    | none => rfl
    | some j =>
      show (k : Int) + 1 - 1 + (j : Int) + 1 = ((k + j + 1 : Nat) : Int)
      omega
def fonly (p t : List Nat) : Nat :=
  match ffind p t 0 with
  | 0 => 0
  | f + 1 => match ffind p (t.drop (f + 1)) (f + 1) with
    | 0 => f + 1
    | _ + 1 => 0
theorem only_fast {text part : Str} (hp : 0 < part.length) : onlyAt text part = (fonly part.cps.toList text.cps.toList : Nat) := by
  unfold onlyAt fonly
  have h1 : foundAt text part 1 = (ffind part.cps.toList text.cps.toList 0 : Nat) := by
    have := found_fast (text := text) hp 0
    rwa [List.drop_zero] at this
  rw [h1]
  cases hf : ffind part.cps.toList text.cps.toList 0 with
  | zero => rw [if_neg (by omega)]; rfl
  | succ f =>
    rw [found_fast hp (f + 1)]
    show _ = ((match ffind part.cps.toList (text.cps.toList.drop (f + 1)) (f + 1) with | 0 => f + 1 | _ + 1 => 0 : Nat) : Int)
    cases ffind part.cps.toList (text.cps.toList.drop (f + 1)) (f + 1) with
    | zero => rw [if_pos ⟨by omega, rfl⟩]
    | succ g => rw [if_neg (by omega)]; rfl
section
set_option maxRecDepth 100000
/-- the ring rl, begun at k, with its first m signs put behind it -/
def turnL (rl : List Nat) (k m : Nat) : List Nat := (rl.drop k ++ rl.take k) ++ (rl.drop k ++ rl.take k).take m
theorem only_words {g text : Str} {m : Nat} {W : List (List Nat)} {tl : List Nat} (hW : (allW g m).map (fun w => w.cps.toList) = W) (hm : 0 < m) {w : Str} (hw : w ∈ allW g m) (ht : text.cps.toList = tl) :
    w.cps.toList ∈ W ∧ onlyAt text w = (fonly w.cps.toList tl : Nat) := by
  have hl := allW_each g m w hw
  refine ⟨by rw [← hW]; exact List.mem_map.mpr ⟨w, hw, rfl⟩, ?_⟩
  rw [only_fast (by omega), ht]
def gTwo : Str := ⟨#[65, 66]⟩
def gThree : Str := ⟨#[65, 66, 67]⟩
def r3 : Str := ⟨#[65, 65, 65, 66, 65, 66, 66, 66]⟩
def t3 : Str := ⟨#[66, 66, 66, 65, 65, 65, 66, 65, 66, 66]⟩
def rl3 : List Nat := [65, 65, 65, 66, 65, 66, 66, 66]
def fl3 : List Nat := [65, 65, 65, 66, 65, 66, 66, 66, 65, 65]
def tl3 : List Nat := [66, 66, 66, 65, 65, 65, 66, 65, 66, 66]
def wl3 : List (List Nat) := [[65, 65, 65], [65, 65, 66], [65, 66, 65], [65, 66, 66], [66, 65, 65], [66, 65, 66], [66, 66, 65], [66, 66, 66]]
theorem c3_grow : grow gTwo 3 7 = t3 := by decide +kernel
theorem c3_words : (allW gTwo 3).map (fun w => w.cps.toList) = wl3 := by decide +kernel
theorem c3_ring : ringOf gTwo 3 7 = r3 := by
  unfold ringOf; rw [c3_grow]; decide +kernel
theorem c3_all : (allW gTwo 3).length = 8 := by
  have := congrArg List.length c3_words
  rw [List.length_map] at this
  exact this
theorem c3_len : ∀ i, i < 8 → (grow gTwo 3 i).length = 3 + i := by decide +kernel
theorem c3_fix : longerOf (grow gTwo 3 7) gTwo 3 = grow gTwo 3 7 := by
  rw [c3_grow]; decide +kernel
theorem c3_onceL : ∀ p ∈ wl3, fonly p tl3 ≠ 0 := by decide +kernel
theorem c3_once : List.filter (fun w => decide (onlyAt (grow gTwo 3 7) w = 0)) (allW gTwo 3) = [] := by
  rw [c3_grow, List.filter_eq_nil_iff]
  intro w hw h
  obtain ⟨hp, e⟩ := only_words (text := t3) (tl := tl3) c3_words (by decide) hw rfl
  have h' := of_decide_eq_true h
  rw [e] at h'
  exact c3_onceL _ hp (Int.ofNat_eq_zero.mp h')
theorem c3_due : r3 = dueOf gTwo 3 := by decide +kernel
theorem c3_first : (r3 ++ Txt.slice r3 none (some (3 - 1))).cps.toList = fl3 := by decide +kernel
theorem c3_posL : ∀ p ∈ wl3, 0 < fonly p fl3 := by decide +kernel
theorem c3_firstW {w : Str} (hw : w ∈ allW gTwo 3) : w.cps.toList ∈ wl3 ∧ firstOf r3 3 w = (fonly w.cps.toList fl3 : Nat) := only_words c3_words (by decide) hw c3_first
theorem c3_pos : ∀ w ∈ allW gTwo 3, 0 < firstOf r3 3 w := by
  intro w hw
  obtain ⟨hp, e⟩ := c3_firstW hw
  rw [e]; exact Int.ofNat_lt.mpr (c3_posL _ hp)
theorem c3_turnN : ∀ k, k < 8 → (turnedOf r3 (k : Nat)).length = 8 := by decide +kernel
theorem c3_turnF : ∀ k, k < 8 → (turnedOf r3 (k : Nat) ++ Txt.slice (turnedOf r3 (k : Nat)) none (some (3 - 1))).cps.toList = turnL rl3 k 2 := by decide +kernel
theorem c3_turnL : ∀ p ∈ wl3, ∀ k, k < 8 → ((fonly p (turnL rl3 k 2) : Nat) : Int) = (((fonly p fl3 : Nat) : Int) - 1 - (k : Nat)).fmod 8 + 1 := by decide +kernel
theorem c3_turn : ∀ k, k < 8 → ∀ w ∈ allW gTwo 3, firstOf (turnedOf r3 (k : Nat)) 3 w = (firstOf r3 3 w - 1 - (k : Nat)).fmod 8 + 1 := by
  intro k hk w hw
  obtain ⟨hp, e⟩ := c3_firstW hw
  obtain ⟨_, e2⟩ := only_words (m := 3) c3_words (by decide) hw (c3_turnF k hk)
  rw [e]
  exact e2.trans (c3_turnL _ hp k hk)
theorem c3_facts : Facts gTwo 3 8 where
  allN := by rw [c3_all]
  len := c3_len
  fix := c3_fix
  once := c3_once
  ring := c3_ring.trans c3_due
  ringN := (congrArg Str.length c3_ring).trans (by rfl)
  pos := fun w hw => by
    have e : ringOf gTwo (3 : Nat) (8 - 1) = r3 := c3_ring
    rw [e]; exact c3_pos w hw
  turnN := fun k h0 h1 => by
    have e : ringOf gTwo (3 : Nat) (8 - 1) = r3 := c3_ring
    rw [e]
    obtain ⟨j, rfl⟩ := Int.eq_ofNat_of_zero_le h0
    exact c3_turnN j (by omega)
  turn := fun k h0 h1 w hw => by
    have e : ringOf gTwo (3 : Nat) (8 - 1) = r3 := c3_ring
    rw [e]
    obtain ⟨j, rfl⟩ := Int.eq_ofNat_of_zero_le h0
    exact c3_turn j (by omega) w hw
def r4 : Str := ⟨#[65, 65, 65, 65, 66, 65, 65, 66, 66, 65, 66, 65, 66, 66, 66, 66]⟩
def t4 : Str := ⟨#[66, 66, 66, 66, 65, 65, 65, 65, 66, 65, 65, 66, 66, 65, 66, 65, 66, 66, 66]⟩
def rl4 : List Nat := [65, 65, 65, 65, 66, 65, 65, 66, 66, 65, 66, 65, 66, 66, 66, 66]
def fl4 : List Nat := [65, 65, 65, 65, 66, 65, 65, 66, 66, 65, 66, 65, 66, 66, 66, 66, 65, 65, 65]
def tl4 : List Nat := [66, 66, 66, 66, 65, 65, 65, 65, 66, 65, 65, 66, 66, 65, 66, 65, 66, 66, 66]
def wl4 : List (List Nat) := [[65, 65, 65, 65], [65, 65, 65, 66], [65, 65, 66, 65], [65, 65, 66, 66], [65, 66, 65, 65], [65, 66, 65, 66], [65, 66, 66, 65], [65, 66, 66, 66], [66, 65, 65, 65], [66, 65, 65, 66], [66, 65, 66, 65], [66, 65, 66, 66], [66, 66, 65, 65], [66, 66, 65, 66], [66, 66, 66, 65], [66, 66, 66, 66]]
theorem c4_grow : grow gTwo 4 15 = t4 := by decide +kernel
theorem c4_words : (allW gTwo 4).map (fun w => w.cps.toList) = wl4 := by decide +kernel
theorem c4_ring : ringOf gTwo 4 15 = r4 := by
  unfold ringOf; rw [c4_grow]; decide +kernel
theorem c4_all : (allW gTwo 4).length = 16 := by
  have := congrArg List.length c4_words
  rw [List.length_map] at this
  exact this
theorem c4_len : ∀ i, i < 16 → (grow gTwo 4 i).length = 4 + i := by decide +kernel
theorem c4_fix : longerOf (grow gTwo 4 15) gTwo 4 = grow gTwo 4 15 := by
  rw [c4_grow]; decide +kernel
theorem c4_onceL : ∀ p ∈ wl4, fonly p tl4 ≠ 0 := by decide +kernel
theorem c4_once : List.filter (fun w => decide (onlyAt (grow gTwo 4 15) w = 0)) (allW gTwo 4) = [] := by
  rw [c4_grow, List.filter_eq_nil_iff]
  intro w hw h
  obtain ⟨hp, e⟩ := only_words (text := t4) (tl := tl4) c4_words (by decide) hw rfl
  have h' := of_decide_eq_true h
  rw [e] at h'
  exact c4_onceL _ hp (Int.ofNat_eq_zero.mp h')
theorem c4_due : r4 = dueOf gTwo 4 := by decide +kernel
theorem c4_first : (r4 ++ Txt.slice r4 none (some (4 - 1))).cps.toList = fl4 := by decide +kernel
theorem c4_posL : ∀ p ∈ wl4, 0 < fonly p fl4 := by decide +kernel
theorem c4_firstW {w : Str} (hw : w ∈ allW gTwo 4) : w.cps.toList ∈ wl4 ∧ firstOf r4 4 w = (fonly w.cps.toList fl4 : Nat) := only_words c4_words (by decide) hw c4_first
theorem c4_pos : ∀ w ∈ allW gTwo 4, 0 < firstOf r4 4 w := by
  intro w hw
  obtain ⟨hp, e⟩ := c4_firstW hw
  rw [e]; exact Int.ofNat_lt.mpr (c4_posL _ hp)
theorem c4_turnN : ∀ k, k < 16 → (turnedOf r4 (k : Nat)).length = 16 := by decide +kernel
theorem c4_turnF : ∀ k, k < 16 → (turnedOf r4 (k : Nat) ++ Txt.slice (turnedOf r4 (k : Nat)) none (some (4 - 1))).cps.toList = turnL rl4 k 3 := by decide +kernel
theorem c4_turnL : ∀ p ∈ wl4, ∀ k, k < 16 → ((fonly p (turnL rl4 k 3) : Nat) : Int) = (((fonly p fl4 : Nat) : Int) - 1 - (k : Nat)).fmod 16 + 1 := by decide +kernel
theorem c4_turn : ∀ k, k < 16 → ∀ w ∈ allW gTwo 4, firstOf (turnedOf r4 (k : Nat)) 4 w = (firstOf r4 4 w - 1 - (k : Nat)).fmod 16 + 1 := by
  intro k hk w hw
  obtain ⟨hp, e⟩ := c4_firstW hw
  obtain ⟨_, e2⟩ := only_words (m := 4) c4_words (by decide) hw (c4_turnF k hk)
  rw [e]
  exact e2.trans (c4_turnL _ hp k hk)
theorem c4_facts : Facts gTwo 4 16 where
  allN := by rw [c4_all]
  len := c4_len
  fix := c4_fix
  once := c4_once
  ring := c4_ring.trans c4_due
  ringN := (congrArg Str.length c4_ring).trans (by rfl)
  pos := fun w hw => by
    have e : ringOf gTwo (4 : Nat) (16 - 1) = r4 := c4_ring
    rw [e]; exact c4_pos w hw
  turnN := fun k h0 h1 => by
    have e : ringOf gTwo (4 : Nat) (16 - 1) = r4 := c4_ring
    rw [e]
    obtain ⟨j, rfl⟩ := Int.eq_ofNat_of_zero_le h0
    exact c4_turnN j (by omega)
  turn := fun k h0 h1 w hw => by
    have e : ringOf gTwo (4 : Nat) (16 - 1) = r4 := c4_ring
    rw [e]
    obtain ⟨j, rfl⟩ := Int.eq_ofNat_of_zero_le h0
    exact c4_turn j (by omega) w hw
def r2 : Str := ⟨#[65, 65, 66, 65, 67, 66, 66, 67, 67]⟩
def t2 : Str := ⟨#[67, 67, 65, 65, 66, 65, 67, 66, 66, 67]⟩
def rl2 : List Nat := [65, 65, 66, 65, 67, 66, 66, 67, 67]
def fl2 : List Nat := [65, 65, 66, 65, 67, 66, 66, 67, 67, 65]
def tl2 : List Nat := [67, 67, 65, 65, 66, 65, 67, 66, 66, 67]
def wl2 : List (List Nat) := [[65, 65], [65, 66], [65, 67], [66, 65], [66, 66], [66, 67], [67, 65], [67, 66], [67, 67]]
theorem c2_grow : grow gThree 2 8 = t2 := by decide +kernel
theorem c2_words : (allW gThree 2).map (fun w => w.cps.toList) = wl2 := by decide +kernel
theorem c2_ring : ringOf gThree 2 8 = r2 := by
  unfold ringOf; rw [c2_grow]; decide +kernel
theorem c2_all : (allW gThree 2).length = 9 := by
  have := congrArg List.length c2_words
  rw [List.length_map] at this
  exact this
theorem c2_len : ∀ i, i < 9 → (grow gThree 2 i).length = 2 + i := by decide +kernel
theorem c2_fix : longerOf (grow gThree 2 8) gThree 2 = grow gThree 2 8 := by
  rw [c2_grow]; decide +kernel
theorem c2_onceL : ∀ p ∈ wl2, fonly p tl2 ≠ 0 := by decide +kernel
theorem c2_once : List.filter (fun w => decide (onlyAt (grow gThree 2 8) w = 0)) (allW gThree 2) = [] := by
  rw [c2_grow, List.filter_eq_nil_iff]
  intro w hw h
  obtain ⟨hp, e⟩ := only_words (text := t2) (tl := tl2) c2_words (by decide) hw rfl
  have h' := of_decide_eq_true h
  rw [e] at h'
  exact c2_onceL _ hp (Int.ofNat_eq_zero.mp h')
theorem c2_due : r2 = dueOf gThree 2 := by decide +kernel
theorem c2_first : (r2 ++ Txt.slice r2 none (some (2 - 1))).cps.toList = fl2 := by decide +kernel
theorem c2_posL : ∀ p ∈ wl2, 0 < fonly p fl2 := by decide +kernel
theorem c2_firstW {w : Str} (hw : w ∈ allW gThree 2) : w.cps.toList ∈ wl2 ∧ firstOf r2 2 w = (fonly w.cps.toList fl2 : Nat) := only_words c2_words (by decide) hw c2_first
theorem c2_pos : ∀ w ∈ allW gThree 2, 0 < firstOf r2 2 w := by
  intro w hw
  obtain ⟨hp, e⟩ := c2_firstW hw
  rw [e]; exact Int.ofNat_lt.mpr (c2_posL _ hp)
theorem c2_turnN : ∀ k, k < 9 → (turnedOf r2 (k : Nat)).length = 9 := by decide +kernel
theorem c2_turnF : ∀ k, k < 9 → (turnedOf r2 (k : Nat) ++ Txt.slice (turnedOf r2 (k : Nat)) none (some (2 - 1))).cps.toList = turnL rl2 k 1 := by decide +kernel
theorem c2_turnL : ∀ p ∈ wl2, ∀ k, k < 9 → ((fonly p (turnL rl2 k 1) : Nat) : Int) = (((fonly p fl2 : Nat) : Int) - 1 - (k : Nat)).fmod 9 + 1 := by decide +kernel
theorem c2_turn : ∀ k, k < 9 → ∀ w ∈ allW gThree 2, firstOf (turnedOf r2 (k : Nat)) 2 w = (firstOf r2 2 w - 1 - (k : Nat)).fmod 9 + 1 := by
  intro k hk w hw
  obtain ⟨hp, e⟩ := c2_firstW hw
  obtain ⟨_, e2⟩ := only_words (m := 2) c2_words (by decide) hw (c2_turnF k hk)
  rw [e]
  exact e2.trans (c2_turnL _ hp k hk)
theorem c2_facts : Facts gThree 2 9 where
  allN := by rw [c2_all]
  len := c2_len
  fix := c2_fix
  once := c2_once
  ring := c2_ring.trans c2_due
  ringN := (congrArg Str.length c2_ring).trans (by rfl)
  pos := fun w hw => by
    have e : ringOf gThree (2 : Nat) (9 - 1) = r2 := c2_ring
    rw [e]; exact c2_pos w hw
  turnN := fun k h0 h1 => by
    have e : ringOf gThree (2 : Nat) (9 - 1) = r2 := c2_ring
    rw [e]
    obtain ⟨j, rfl⟩ := Int.eq_ofNat_of_zero_le h0
    exact c2_turnN j (by omega)
  turn := fun k h0 h1 w hw => by
    have e : ringOf gThree (2 : Nat) (9 - 1) = r2 := c2_ring
    rw [e]
    obtain ⟨j, rfl⟩ := Int.eq_ofNat_of_zero_le h0
    exact c2_turn j (by omega) w hw
/-- the map that takes A, B, C to three rising signs -/
def riser (a b c : Nat) (x : Nat) : Nat := if x < 65 then x else if x = 65 then a else if x = 66 then b else x + c
theorem riser_ok {a b c : Nat} (h0 : 65 ≤ a) (h1 : a < b) (h2 : b < c + 67) : Rising (riser a b c) where
  zero := rfl
  mono := fun x y h => by unfold riser; split <;> split <;> (try split) <;> (try split) <;> (try split) <;> (try split) <;> omega
theorem g_two {a b : Int} (h0 : 65 ≤ a) (h1 : a < b) : Txt.join (Str.ofString "") (List.map (fun n : Int => Str.mk #[n.toNat]) [a, b]) = mapS (riser a.toNat b.toNat b.toNat) gTwo := by
  have e : (Str.ofString "").cps = #[] := by rfl
  show (⟨#[a.toNat] ++ (Str.ofString "").cps ++ #[b.toNat]⟩ : Str) = ⟨#[65, 66].map (riser a.toNat b.toNat b.toNat)⟩
  rw [e]; simp [riser]
theorem g_three {a b c : Int} (h0 : 65 ≤ a) (h1 : a < b) (h2 : b < c) : Txt.join (Str.ofString "") (List.map (fun n : Int => Str.mk #[n.toNat]) [a, b, c]) = mapS (riser a.toNat b.toNat (c.toNat - 67)) gThree := by
  have e : (Str.ofString "").cps = #[] := by rfl
  have e2 : 67 + (c.toNat - 67) = c.toNat := by omega
  show (⟨#[a.toNat] ++ (Str.ofString "").cps ++ #[b.toNat] ++ (Str.ofString "").cps ++ #[c.toNat]⟩ : Str) = ⟨#[65, 66, 67].map (riser a.toNat b.toNat (c.toNat - 67))⟩
  rw [e]; simp [riser, e2]
theorem facts3 {a b : Int} {g : Str} (hg : g = Txt.join (Str.ofString "") (List.map (fun n : Int => Str.mk #[n.toNat]) [a, b])) (h0 : 65 ≤ a) (h1 : a < b) : Facts g 3 8 := by
  rw [hg, g_two h0 h1]; exact ms_facts (riser_ok (by omega) (by omega) (by omega)) (by omega) c3_facts
theorem facts4 {a b : Int} {g : Str} (hg : g = Txt.join (Str.ofString "") (List.map (fun n : Int => Str.mk #[n.toNat]) [a, b])) (h0 : 65 ≤ a) (h1 : a < b) : Facts g 4 16 := by
  rw [hg, g_two h0 h1]; exact ms_facts (riser_ok (by omega) (by omega) (by omega)) (by omega) c4_facts
theorem facts2 {a b c : Int} {g : Str} (hg : g = Txt.join (Str.ofString "") (List.map (fun n : Int => Str.mk #[n.toNat]) [a, b, c])) (h0 : 65 ≤ a) (h1 : a < b) (h2 : b < c) : Facts g 2 9 := by
  rw [hg, g_three h0 h1 h2]; exact ms_facts (riser_ok (by omega) (by omega) (by omega)) (by omega) c2_facts
theorem g_len2 {a b : Int} {g : Str} (hg : g = Txt.join (Str.ofString "") (List.map (fun n : Int => Str.mk #[n.toNat]) [a, b])) (h0 : 65 ≤ a) (h1 : a < b) : g.length = 2 := by
  rw [hg, g_two h0 h1, ms_len]; rfl
theorem g_len3 {a b c : Int} {g : Str} (hg : g = Txt.join (Str.ofString "") (List.map (fun n : Int => Str.mk #[n.toNat]) [a, b, c])) (h0 : 65 ≤ a) (h1 : a < b) (h2 : b < c) : g.length = 3 := by
  rw [hg, g_three h0 h1 h2, ms_len]; rfl
end
theorem law_raises (args : List WData) (cls) : PySem.Challenge.rw_xm0027_01.row.claim.raises args cls = false := by rfl
theorem law_post (args : List WData) : PySem.Challenge.rw_xm0027_01.row.claim.post args (.bool true) args = true := by
  first
    | exact postW_of (by wrow_shape) (by wtm_val) (by w_fin)
    | (unfold PySem.Challenge.rw_xm0027_01; simp)
theorem gw_law {cl : Str → Option Addr} {mean : ExcName → Option Value} {args : List WData} {s₁ s' : Shared} {b : Bool} {L : Addr} {m : Str → Option Value} (e : b = true) (F : Fr s₁.heap L s'.heap m) (hg : s'.gens = #[]) (hos : s'.os = s₁.os) :
    GoodW PySem.Challenge.rw_xm0027_01.row.claim cl mean args s₁ (.ok (.ret (.bool b))) s' := by
  subst e
  exact goodW_bool F hg (law_raises args) (law_post args) hos
theorem fin_pos3 {g w : Str} (h : Facts g 3 8) (hw : w ∈ allW g 3) : decide (0 < onlyAt ((midOf (grow g 3 7) (3 + 1) ++ Txt.item g (-1)) ++ Txt.slice (midOf (grow g 3 7) (3 + 1) ++ Txt.item g (-1)) none (some (3 - 1))) w) = true := law_pos h hw
theorem fin_end3 {g w : Str} {k : Int} (h : Facts g 3 8) (hw : w ∈ allW g 3) (h0 : 0 ≤ k) (h1 : k < 8) : (onlyAt ((Txt.slice (midOf (grow g 3 7) (3 + 1) ++ Txt.item g (-1)) (some k) none ++ Txt.slice (midOf (grow g 3 7) (3 + 1) ++ Txt.item g (-1)) none (some k)) ++ Txt.slice (Txt.slice (midOf (grow g 3 7) (3 + 1) ++ Txt.item g (-1)) (some k) none ++ Txt.slice (midOf (grow g 3 7) (3 + 1) ++ Txt.item g (-1)) none (some k)) none (some (3 - 1))) w == (onlyAt ((midOf (grow g 3 7) (3 + 1) ++ Txt.item g (-1)) ++ Txt.slice (midOf (grow g 3 7) (3 + 1) ++ Txt.item g (-1)) none (some (3 - 1))) w - 1 - k).fmod ((midOf (grow g 3 7) (3 + 1) ++ Txt.item g (-1)).length : Int) + 1) = true := law_end h hw h0 h1
theorem fin_mem3 {g : Str} {k : Int} (h : Facts g 3 8) (h0 : 0 ≤ k) (h1 : k < 8) : (allW g 3).getD k.toNat Str.empty ∈ allW g 3 := allW_getD_mem h h0 h1
theorem fin_pos4 {g w : Str} (h : Facts g 4 16) (hw : w ∈ allW g 4) : decide (0 < onlyAt ((midOf (grow g 4 15) (4 + 1) ++ Txt.item g (-1)) ++ Txt.slice (midOf (grow g 4 15) (4 + 1) ++ Txt.item g (-1)) none (some (4 - 1))) w) = true := law_pos h hw
theorem fin_end4 {g w : Str} {k : Int} (h : Facts g 4 16) (hw : w ∈ allW g 4) (h0 : 0 ≤ k) (h1 : k < 16) : (onlyAt ((Txt.slice (midOf (grow g 4 15) (4 + 1) ++ Txt.item g (-1)) (some k) none ++ Txt.slice (midOf (grow g 4 15) (4 + 1) ++ Txt.item g (-1)) none (some k)) ++ Txt.slice (Txt.slice (midOf (grow g 4 15) (4 + 1) ++ Txt.item g (-1)) (some k) none ++ Txt.slice (midOf (grow g 4 15) (4 + 1) ++ Txt.item g (-1)) none (some k)) none (some (4 - 1))) w == (onlyAt ((midOf (grow g 4 15) (4 + 1) ++ Txt.item g (-1)) ++ Txt.slice (midOf (grow g 4 15) (4 + 1) ++ Txt.item g (-1)) none (some (4 - 1))) w - 1 - k).fmod ((midOf (grow g 4 15) (4 + 1) ++ Txt.item g (-1)).length : Int) + 1) = true := law_end h hw h0 h1
theorem fin_mem4 {g : Str} {k : Int} (h : Facts g 4 16) (h0 : 0 ≤ k) (h1 : k < 16) : (allW g 4).getD k.toNat Str.empty ∈ allW g 4 := allW_getD_mem h h0 h1
theorem fin_pos2 {g w : Str} (h : Facts g 2 9) (hw : w ∈ allW g 2) : decide (0 < onlyAt ((midOf (grow g 2 8) (2 + 1) ++ Txt.item g (-1)) ++ Txt.slice (midOf (grow g 2 8) (2 + 1) ++ Txt.item g (-1)) none (some (2 - 1))) w) = true := law_pos h hw
theorem fin_end2 {g w : Str} {k : Int} (h : Facts g 2 9) (hw : w ∈ allW g 2) (h0 : 0 ≤ k) (h1 : k < 9) : (onlyAt ((Txt.slice (midOf (grow g 2 8) (2 + 1) ++ Txt.item g (-1)) (some k) none ++ Txt.slice (midOf (grow g 2 8) (2 + 1) ++ Txt.item g (-1)) none (some k)) ++ Txt.slice (Txt.slice (midOf (grow g 2 8) (2 + 1) ++ Txt.item g (-1)) (some k) none ++ Txt.slice (midOf (grow g 2 8) (2 + 1) ++ Txt.item g (-1)) none (some k)) none (some (2 - 1))) w == (onlyAt ((midOf (grow g 2 8) (2 + 1) ++ Txt.item g (-1)) ++ Txt.slice (midOf (grow g 2 8) (2 + 1) ++ Txt.item g (-1)) none (some (2 - 1))) w - 1 - k).fmod ((midOf (grow g 2 8) (2 + 1) ++ Txt.item g (-1)).length : Int) + 1) = true := law_end h hw h0 h1
theorem fin_mem2 {g : Str} {k : Int} (h : Facts g 2 9) (h0 : 0 ≤ k) (h1 : k < 9) : (allW g 2).getD k.toNat Str.empty ∈ allW g 2 := allW_getD_mem h h0 h1
def Stop (P : Prop) : Prop := P
theorem stop_in {P : Prop} (h : Stop P) : P := h
structure StopMark : Prop where
theorem lenW_c {prog : Program} {w : World} {A : Around} {E : Value → Shared → Prop} {s : Shared} {h₀ : Heap} {L : Addr} {news : List (Addr × Obj)} {q : Addr} {n : Nat} {vs : List Value} {ws : List Str} {k : Int} {Q : Value → Shared → Prop}
    (N : News h₀ L s.heap news) (hm : (q, listOf vs.toArray n) ∈ news) (hS : StrsAre vs ws) (hf : ((ws.length : Nat) : Int) = k) (hk : k ≤ 1000) (h : Q (.int k (s.toks + 1)) { s with toks := s.toks + 1 + 1 }) :
    wpAny (model prog w) A (call (.builtin "len") [.ref q]) Q E s := by
  have hl : s.heap.IsList q vs.toArray := ⟨_, (N _ hm).1, rfl, _, rfl⟩
  have e : vs.toArray.size = ws.length := by rw [List.size_toArray]; exact hS.length
  exact PySem.Calls.call_len_list hl (by omega) (by rw [e, hf]; exact h)
theorem menu_c {prog : Program} {w : World} {A : Around} {E : Value → Shared → Prop} {s : Shared} {h₀ : Heap} {L : Addr} {news : List (Addr × Obj)} {value slice : PySem.Expr} {q : Addr} {n : Nat} {a b c : Value} {k : Int} {u : Tok} {Q : Value → Shared → Prop}
    (N : News h₀ L s.heap news) (hm : (q, listOf #[a, b, c] n) ∈ news) (h0 : 0 ≤ k) (h1 : k < 3) (hA : k = 0 → Q a s) (hB : k = 1 → Q b s) (hC : k = 2 → Q c s)
    (hs : subscripted slice false (.ref q) (.int k u) = operate [.ref q, .int k u] (getItem (.ref q) (.int k u)) := by with_unfolding_all rfl) :
    wpAny (model prog w) A (subscriptTail value slice (.ref q) (.int k u)) Q E s := by
  obtain rfl | rfl | rfl : k = 0 ∨ k = 1 ∨ k = 2 := by omega
  · exact item_c N hm (by decide) (by decide) rfl (hA rfl) hs
  · exact item_c N hm (by decide) (by decide) rfl (hB rfl) hs
  · exact item_c N hm (by decide) (by decide) rfl (hC rfl) hs
theorem few_map {vs : List Value} {ns : List Int} (h : Are Value.str vs (ns.map fun n => Str.mk #[n.toNat])) (hn : ns.length ≤ 4) : Few vs (ns.map fun n => Str.mk #[n.toNat]) 4 :=
  ⟨h.strs, fun w hw => by
    obtain ⟨n, _, rfl⟩ := List.mem_map.mp hw
    show 1 ≤ 4
    omega, by rw [List.length_map]; exact hn⟩
theorem join_g {prog : Program} {w : World} {A : Around} {E : Value → Shared → Prop} {s : Shared} {h₀ : Heap} {L b : Addr} {news : List (Addr × Obj)} {vs : List Value} {ws : List Str} {n i : Nat} {sep : Str} {t : Tok} {Q : Value → Shared → Prop} (N : News h₀ L s.heap news) (hb : (b, listOf vs.toArray n) ∈ news) (hS : Few vs ws i) (hx : sep.length ≤ 16) (hz : i ≤ 64)
    (h : ∀ g t' k, g = Txt.join sep ws → Q (.str g t') { s with toks := k }) : wpAny (model prog w) A (call (.builtin "str.join") [.str sep t, .ref b]) Q E s :=
  join_c N hb hS hx hz fun t' k => h _ t' k rfl
theorem ite_ne {α : Type} [BEq α] [LawfulBEq α] {a b : α} {P R : Prop} (e : a = b) (h : R) : if (a != b) = true then P else R := by
  subst e; rw [if_neg (by rw [bne_self_eq_false]; exact Bool.false_ne_true)]; exact h
set_option maxRecDepth 100000 in
set_option maxHeartbeats 8000000 in
theorem law_c : PySem.Challenge.rw_xm0027_01.Holds := hd (by
  w_top off
  k_with_none
  (k_with "call builtin:len" => (k_here; (with_reducible show wpAny _ _ (call (Value.builtin "len") [Value.ref _]) _ _ _); k_dflt (refine len_c (by k_asm) (by k_mem) (by decide) ?_; k_whole)))
  (k_with "subscriptTail" => (k_here; (with_reducible show wpAny _ _ (subscriptTail _ _ (Value.ref _) (Value.int _ _)) _ _ _); k_dflt (refine item_c (by k_asm) (by k_mem) (by decide) (by decide) (by rfl) ?_ (by with_unfolding_all rfl); k_whole)))
  (k_with "call ref" => (k_here; (rename StopMark => hsm9); (with_reducible show wpAny _ _ (call (Value.ref 133) _) _ _ _); (refine stop_in ?_)))
  (k_with "TurnPost" => (dsimp only [TurnPost]))
  (k_with "call ref" => (k_here; (with_reducible show wpAny _ _ (call (Value.ref 133) _) _ _ _); k_dflt (refine does_use2 (by k_asm) (by k_asm) (by k_asm) (by k_asm) (by k_asm) (by first | exact rfl | assumption) (all_c' _ _ _ _ _ _ (by first | exact (by decide : (1 : Int) = ((1 : Nat) : Int)) | exact (by decide : (2 : Int) = ((2 : Nat) : Int)) | exact (by decide : (3 : Int) = ((3 : Nat) : Int)) | exact (by decide : (4 : Int) = ((4 : Nat) : Int))) (by decide) (by decide) (by first | omega | (simp only [Str.length_append] at *; omega)) _) (by ktr_room) (by ktr_units) ?_;  k_whole; intro r9 news9 h9 tk9 F9 N9 hr9; (obtain ⟨D9, zs9, hB9, hA9, hW9, hL9⟩ := hr9; subst hA9; subst hB9; (try k_lt hL9));  (try dsimp only); (try k_fold))))
  (k_with "call ref" => (k_here; (with_reducible show wpAny _ _ (call (Value.ref 150) _) _ _ _); k_dflt (refine does_use2 (by k_asm) (by k_asm) (by k_asm) (by k_asm) (by k_asm) (by first | exact rfl | assumption) (longer_c _ _ _ _ _ _ _ (by first | omega | (simp only [Str.length_append] at *; omega)) (by first | omega | (simp only [Str.length_append] at *; omega)) (by first | decide | omega) (by first | decide | omega) _) (by ktr_room) (by ktr_units) ?_;  k_whole; intro r9 news9 h9 tk9 F9 N9 hr9; (obtain ⟨hA9, t9, hB9⟩ := hr9; subst hA9; subst hB9);  (try dsimp only); (try k_fold))))
  (k_with "call ref" => (k_here; (with_reducible show wpAny _ _ (call (Value.ref 157) _) _ _ _); k_dflt (refine does_use2 (by k_asm) (by k_asm) (by k_asm) (by k_asm) (by k_asm) (by first | exact rfl | assumption) (only_c _ _ _ _ _ (by first | omega | (simp only [Str.length_append] at *; omega)) (by first | omega | (simp only [Str.length_append] at *; omega)) _) (by ktr_room) (by ktr_units) ?_;  k_whole; intro r9 news9 h9 tk9 F9 N9 hr9; (obtain ⟨hA9, t9, hB9, hC9, hD9⟩ := hr9; subst hA9; subst hB9);  (try dsimp only); (try k_fold))))
  (k_with "call ref" => (k_here; (with_reducible show wpAny _ _ (call (Value.ref 114) _) _ _ _); k_dflt (refine does_use2 (by k_asm) (by k_asm) (by k_asm) (by k_asm) (by k_asm) (by first | exact rfl | assumption) (mid_c _ _ _ _ _ _ _ _ (by k_mem) (by first | omega | (simp only [Str.length_append] at *; omega)) (by omega) (by omega)) (by ktr_room) (by ktr_units) ?_;  k_whole; intro r9 news9 h9 tk9 F9 N9 hr9; (obtain ⟨hA9, t9, hB9, hC9⟩ := hr9; subst hA9; subst hB9);  (try dsimp only); (try k_fold))))
  (k_with "call ref" => (k_here; (with_reducible show wpAny _ _ (call (Value.ref 121) _) _ _ _); k_dflt (refine does_use2 (by k_asm) (by k_asm) (by k_asm) (by k_asm) (by k_asm) (by first | exact rfl | assumption) (joined_c _ _ _ _ _ (by first | omega | (simp only [Str.length_append] at *; omega)) (by first | omega | (simp only [Str.length_append] at *; omega)) _) (by ktr_room) (by ktr_units) ?_;  k_whole; intro r9 news9 h9 tk9 F9 N9 hr9; (obtain ⟨hA9, t9, hB9⟩ := hr9; subst hA9; subst hB9);  (try dsimp only); (try k_fold))))
  (k_with "call ref" => (k_here; (with_reducible show wpAny _ _ (call (Value.ref 143) [_, Value.int 2 _]) _ _ _); k_dflt (refine does_use2 (by k_asm) (by k_asm) (by k_asm) (by k_asm) (by k_asm) (by first | exact rfl | assumption) (due2_c _ _ _ _ (by omega) _) (by ktr_room) (by ktr_units) ?_;  k_whole; intro r9 news9 h9 tk9 F9 N9 hr9; (obtain ⟨hA9, t9, hB9⟩ := hr9; subst hA9; subst hB9);  (try dsimp only); (try k_fold))))
  (k_with "call ref" => (k_here; (with_reducible show wpAny _ _ (call (Value.ref 143) [_, Value.int 3 _]) _ _ _); k_dflt (refine does_use2 (by k_asm) (by k_asm) (by k_asm) (by k_asm) (by k_asm) (by first | exact rfl | assumption) (due3_c _ _ _ _ (by omega) _) (by ktr_room) (by ktr_units) ?_;  k_whole; intro r9 news9 h9 tk9 F9 N9 hr9; (obtain ⟨hA9, t9, hB9⟩ := hr9; subst hA9; subst hB9);  (try dsimp only); (try k_fold))))
  (k_with "call ref" => (k_here; (with_reducible show wpAny _ _ (call (Value.ref 143) [_, Value.int 4 _]) _ _ _); k_dflt (refine does_use2 (by k_asm) (by k_asm) (by k_asm) (by k_asm) (by k_asm) (by first | exact rfl | assumption) (due4_c _ _ _ _ (by omega) _) (by ktr_room) (by ktr_units) ?_;  k_whole; intro r9 news9 h9 tk9 F9 N9 hr9; (obtain ⟨hA9, t9, hB9⟩ := hr9; subst hA9; subst hB9);  (try dsimp only); (try k_fold))))
  (k_with "call builtin:len" => (k_here; (with_reducible show wpAny _ _ (call (Value.builtin "len") [Value.ref _]) _ _ _); k_dflt (refine lenW_c (by k_asm) (by k_mem) (by assumption) (by assumption) (by decide) ?_; k_whole)))
  (k_with "call type:range" => (k_here; dsimp only [Int.reduceAdd, Int.reduceSub]))
  (k_with "subscriptTail Name Name ref int" => (k_here; (with_reducible show wpAny _ _ (subscriptTail _ _ (Value.ref _) (Value.int _ _)) _ _ _); k_dflt (refine item_c (by k_asm) (by k_mem) (by decide) (by decide) (by rfl) ?_ (by with_unfolding_all rfl); k_whole)))
  (k_with "call ref" => (k_here; (with_reducible show wpAny _ _ (call (Value.ref 128) _) _ _ _); k_dflt (refine does_use2 (by k_asm) (by k_asm) (by k_asm) (by k_asm) (by k_asm) (by first | exact rfl | assumption) (begin_c _ _ _ _ _ _ _ _ _ _ _ _ _ (by k_updF) (by k_mem) (by k_ne) (by assumption) (by omega) (by first | decide | omega) (by first | decide | omega) (by first | decide | omega) (by first | decide | omega)) (by ktr_room) (by ktr_units) ?_;  k_whole; intro r9 news9 h9 tk9 F9 N9 hr9; (obtain ⟨u9, n9, hA9, t9, hB9, hC9, hD9⟩ := hr9; subst hA9; subst hB9; (try dsimp only at N9));  (try dsimp only); (try k_fold))))
  (k_with "subscriptTail" => (k_here; (with_reducible show wpAny _ _ (subscriptTail _ _ (Value.ref _) (Value.int _ _)) _ _ _); k_dflt (refine menu_c (by k_asm) (by k_mem) (by assumption) (by assumption) ?_ ?_ ?_ (by with_unfolding_all rfl); k_whole; (all_goals intro hmenu9))))
  (k_with "eval ListComp" => (k_here; k_dflt (refine LCg.ListComp_U (F₀ := by k_asm) (by with_unfolding_all rfl) (by decide) (by rfl) (by decide) (by rfl) ?_)))
  (k_with "call builtin:str.join" => (k_here; (with_reducible show wpAny _ _ (call (Value.builtin _) [Value.str _ _, Value.ref _]) _ _ _); k_dflt (refine join_g (by k_asm) (by k_mem) (by assumption) (by decide) (by decide) ?_; k_whole; intro g9 t9 k9 hg9)))
  (k_with "pyIter ref" => (rename Facts _ _ _ => hfa9; refine stop_in ?_))
  (k_with "TurnPost" => (dsimp only [TurnPost]))
  (k_with "eval ListComp" => (k_here; (rename Facts _ _ _ => hfa9); k_dflt (refine LCt.ListComp_T (F₀ := by k_asm) (closure_one (x := Str.ofString "text") (by rfl) (cell_of (by rfl))) (by decide) (by rfl) (by decide) (by rfl) ?_)))
  (k_with "ite" => ((rename Facts _ _ _ => hfa9); refine ite_ne (by first | assumption | omega) ?_; k_whole))
  (k_with "ite" => (first | ((with_reducible rename Facts _ 3 8 => hfa9); refine PySem.W.ite_pos (fin_pos3 hfa9 (fin_mem3 hfa9 (by assumption) (by assumption))) ?_) | ((with_reducible rename Facts _ 4 16 => hfa9); refine PySem.W.ite_pos (fin_pos4 hfa9 (fin_mem4 hfa9 (by assumption) (by assumption))) ?_) | ((with_reducible rename Facts _ 2 9 => hfa9); refine PySem.W.ite_pos (fin_pos2 hfa9 (fin_mem2 hfa9 (by assumption) (by assumption))) ?_)))
  (k_with "k_all" => assumption)
  (k_with "call ref" => (k_here; (with_reducible show wpAny _ _ (call (Value.ref 157) _) _ _ _); (rename Facts _ _ _ => hfa9); (with_reducible show wpAny _ _ (call (Value.ref 157) _) _ _ _); k_dflt (refine does_use2 (by k_asm) (by k_asm) (by k_asm) (by k_asm) (by k_asm) (by first | exact rfl | assumption) (only_c _ _ _ _ _ (by first | omega | (refine ring_len (by assumption) (by decide) _) | (refine turn_len (by assumption) (by decide) _ (by assumption) (by omega)) | (simp only [Str.length_append] at *; omega)) (by first | (refine allW_getD_le _ _ _ (by decide)) | first | omega | (simp only [Str.length_append] at *; omega)) _) (by ktr_room) (by ktr_units) ?_;  k_whole; intro r9 news9 h9 tk9 F9 N9 hr9; (obtain ⟨hA9, t9, hB9, hC9, hD9⟩ := hr9; subst hA9; subst hB9);  (try dsimp only); (try k_fold))))
  k_go0
  (all_goals try k_fold)
  (have hsm : StopMark := StopMark.mk)
  (k_with "CompSrc" => k_dflt (k_dflt (refine src_map (fun n => Str.mk #[n.toNat]) (by rfl) (by k_asm) (by k_asm) (by k_mem) (by rfl) (Nat.le_of_ble_eq_true rfl) ?_ ?_); rotate_left; (intro g9 ys9 hys9; (have hF9 := few_map hys9 (Nat.le_of_ble_eq_true rfl)); (try k_fold)); rotate_left; (intro d9 t9 I9 oI9 C9 oC9 D9 m9 ys9 h9 tk9 E9 hd9 hC9 hx9 F9 N9 off9 ne9; (have hb9 : 0 ≤ d9 ∧ d9 ≤ 200 := by (simp only [List.mem_cons, List.not_mem_nil, or_false] at hd9; omega)); (try simp only [LCg.Off3, and_true] at off9); (try k_fold))))
  k_steps
  · exact MapEnd.intro (by assumption) (by assumption)
  · unfold Stop
    (rename StopMark => hsm)
    clear hsm
    (rename (_ = Txt.join _ _) => hg)
    (rename Str => g)
    (have hg2 : g.length = 2 := g_len2 hg (by omega) (by omega))
    (have hG : Facts g 3 8 := facts3 hg (by omega) (by omega))
    (have hAL : (((allW g 3).length : Nat) : Int) = 8 := hG.allN)
    (have hi1 : (Txt.item g (-1)).length = 1 := rfl)
    k_steps
    unfold Stop
    rename Facts _ _ _ => hG
    rename Fr _ _ _ _ => lF'
    rename News _ _ _ _ => lN'
    rename IsRange _ _ _ _ _ _ _ _ => rgX
    k_dflt (refine' loop_cell (n := 7) (y := Str.ofString "longer") (grow g 3) (Str.ofString "text") ?hcv3 (by rfl) rgX (by decide) (by rfl) lF' lN' ?hU3 ?ho3 ?hturn3 ?hdone3)
    (case hcv3 => rfl)
    (case ho3 => assumption)
    (case hU3 => k_dflt k_updF)
    (case' hturn3 => (intro i o t tk' u rest h tk hi hr ho F N; (have h1 : (grow g 3 i).length = 3 + i := hG.len i (by omega)); (have h2 : (longerOf (grow g 3 i) g 3).length = 3 + (i + 1) := hG.len (i + 1) (by omega)); clear lF' lN'; (try k_fold)))
    (case' hdone3 => (intro o t u h tk ho F N; (try dsimp only at N); clear lF' lN'; (have h1 : (grow g 3 7).length = 3 + 7 := hG.len 7 (by omega)); (have hfix : longerOf (grow g 3 7) g 3 = grow g 3 7 := hG.fix); (have honce : List.filter (fun w => decide (onlyAt (grow g 3 7) w = 0)) (allW g 3) = [] := hG.once); (have hring : midOf (grow g 3 7) (3 + 1) ++ Txt.item g (-1) = dueOf g 3 := hG.ring); (have hringN : (midOf (grow g 3 7) (3 + 1) ++ Txt.item g (-1)).length = 8 := hG.ringN); (try k_fold)))
    ·
      (k_with "CompSrcT" => k_dflt (k_dflt (refine src_strs (fun w => decide (onlyAt (grow g 3 7) w = 0)) (by rfl) (by k_asm) (by k_asm) (by k_mem) (by assumption) (by omega) (fun _ => rfl) (fun _ => rfl) (by decide) ?_ ?_); rotate_left; (intro g9 ys9 hys9; (rw [honce] at hys9); (cases hys9); (try k_fold)); rotate_left; (intro d9 t9 I9 oI9 C9 oC9 D9 m9 ys9 h9 tk9 E9 hd9 hC9 hx9 F9 N9 off9 ne9; (have hw9 := allW_each _ _ _ hd9); (try simp only [LCg.Off3, and_true] at off9); (try k_fold))))
      (repeat' (first | (k_unfold; (try dsimp only)) | walk1 | (dsimp only; walk1) | (leave1; try dsimp only)))
      · exact TestEnd.intro (by assumption) (by assumption) (by kcj_all) rfl
      with_reducible refine gw_true ?_ ?_
      · rename Facts _ _ _ => hGz
        with_reducible refine fin_end3 hGz (fin_mem3 hGz (by assumption) (by assumption)) (by assumption) (by omega)
      · exact goodW_bool (by assumption) (by assumption) (law_raises _) (law_post _)
    · k_steps
      exact ⟨_, _, _, _, _, rfl, by assumption, by assumption, by assumption, fun z hx hy => by (dsimp only; rw [if_neg hy, if_neg hx, if_neg hy])⟩
  · exact MapEnd.intro (by assumption) (by assumption)
  · unfold Stop
    (rename StopMark => hsm)
    clear hsm
    (rename (_ = Txt.join _ _) => hg)
    (rename Str => g)
    (have hg2 : g.length = 2 := g_len2 hg (by omega) (by omega))
    (have hG : Facts g 4 16 := facts4 hg (by omega) (by omega))
    (have hAL : (((allW g 4).length : Nat) : Int) = 16 := hG.allN)
    (have hi1 : (Txt.item g (-1)).length = 1 := rfl)
    k_steps
    unfold Stop
    rename Facts _ _ _ => hG
    rename Fr _ _ _ _ => lF'
    rename News _ _ _ _ => lN'
    rename IsRange _ _ _ _ _ _ _ _ => rgX
    k_dflt (refine' loop_cell (n := 15) (y := Str.ofString "longer") (grow g 4) (Str.ofString "text") ?hcv4 (by rfl) rgX (by decide) (by rfl) lF' lN' ?hU4 ?ho4 ?hturn4 ?hdone4)
    (case hcv4 => rfl)
    (case ho4 => assumption)
    (case hU4 => k_dflt k_updF)
    (case' hturn4 => (intro i o t tk' u rest h tk hi hr ho F N; (have h1 : (grow g 4 i).length = 4 + i := hG.len i (by omega)); (have h2 : (longerOf (grow g 4 i) g 4).length = 4 + (i + 1) := hG.len (i + 1) (by omega)); clear lF' lN'; (try k_fold)))
    (case' hdone4 => (intro o t u h tk ho F N; (try dsimp only at N); clear lF' lN'; (have h1 : (grow g 4 15).length = 4 + 15 := hG.len 15 (by omega)); (have hfix : longerOf (grow g 4 15) g 4 = grow g 4 15 := hG.fix); (have honce : List.filter (fun w => decide (onlyAt (grow g 4 15) w = 0)) (allW g 4) = [] := hG.once); (have hring : midOf (grow g 4 15) (4 + 1) ++ Txt.item g (-1) = dueOf g 4 := hG.ring); (have hringN : (midOf (grow g 4 15) (4 + 1) ++ Txt.item g (-1)).length = 16 := hG.ringN); (try k_fold)))
    ·
      (k_with "CompSrcT" => k_dflt (k_dflt (refine src_strs (fun w => decide (onlyAt (grow g 4 15) w = 0)) (by rfl) (by k_asm) (by k_asm) (by k_mem) (by assumption) (by omega) (fun _ => rfl) (fun _ => rfl) (by decide) ?_ ?_); rotate_left; (intro g9 ys9 hys9; (rw [honce] at hys9); (cases hys9); (try k_fold)); rotate_left; (intro d9 t9 I9 oI9 C9 oC9 D9 m9 ys9 h9 tk9 E9 hd9 hC9 hx9 F9 N9 off9 ne9; (have hw9 := allW_each _ _ _ hd9); (try simp only [LCg.Off3, and_true] at off9); (try k_fold))))
      (repeat' (first | (k_unfold; (try dsimp only)) | walk1 | (dsimp only; walk1) | (leave1; try dsimp only)))
      · exact TestEnd.intro (by assumption) (by assumption) (by kcj_all) rfl
      with_reducible refine gw_true ?_ ?_
      · rename Facts _ _ _ => hGz
        with_reducible refine fin_end4 hGz (fin_mem4 hGz (by assumption) (by assumption)) (by assumption) (by omega)
      · exact goodW_bool (by assumption) (by assumption) (law_raises _) (law_post _)
    · k_steps
      exact ⟨_, _, _, _, _, rfl, by assumption, by assumption, by assumption, fun z hx hy => by (dsimp only; rw [if_neg hy, if_neg hx, if_neg hy])⟩
  · exact MapEnd.intro (by assumption) (by assumption)
  · unfold Stop
    (rename StopMark => hsm)
    clear hsm
    (rename (_ = Txt.join _ _) => hg)
    (rename Str => g)
    (have hg2 : g.length = 3 := g_len3 hg (by omega) (by omega) (by omega))
    (have hG : Facts g 2 9 := facts2 hg (by omega) (by omega) (by omega))
    (have hAL : (((allW g 2).length : Nat) : Int) = 9 := hG.allN)
    (have hi1 : (Txt.item g (-1)).length = 1 := rfl)
    k_steps
    unfold Stop
    rename Facts _ _ _ => hG
    rename Fr _ _ _ _ => lF'
    rename News _ _ _ _ => lN'
    rename IsRange _ _ _ _ _ _ _ _ => rgX
    k_dflt (refine' loop_cell (n := 8) (y := Str.ofString "longer") (grow g 2) (Str.ofString "text") ?hcv2 (by rfl) rgX (by decide) (by rfl) lF' lN' ?hU2 ?ho2 ?hturn2 ?hdone2)
    (case hcv2 => rfl)
    (case ho2 => assumption)
    (case hU2 => k_dflt k_updF)
    (case' hturn2 => (intro i o t tk' u rest h tk hi hr ho F N; (have h1 : (grow g 2 i).length = 2 + i := hG.len i (by omega)); (have h2 : (longerOf (grow g 2 i) g 2).length = 2 + (i + 1) := hG.len (i + 1) (by omega)); clear lF' lN'; (try k_fold)))
    (case' hdone2 => (intro o t u h tk ho F N; (try dsimp only at N); clear lF' lN'; (have h1 : (grow g 2 8).length = 2 + 8 := hG.len 8 (by omega)); (have hfix : longerOf (grow g 2 8) g 2 = grow g 2 8 := hG.fix); (have honce : List.filter (fun w => decide (onlyAt (grow g 2 8) w = 0)) (allW g 2) = [] := hG.once); (have hring : midOf (grow g 2 8) (2 + 1) ++ Txt.item g (-1) = dueOf g 2 := hG.ring); (have hringN : (midOf (grow g 2 8) (2 + 1) ++ Txt.item g (-1)).length = 9 := hG.ringN); (try k_fold)))
    ·
      (k_with "CompSrcT" => k_dflt (k_dflt (refine src_strs (fun w => decide (onlyAt (grow g 2 8) w = 0)) (by rfl) (by k_asm) (by k_asm) (by k_mem) (by assumption) (by omega) (fun _ => rfl) (fun _ => rfl) (by decide) ?_ ?_); rotate_left; (intro g9 ys9 hys9; (rw [honce] at hys9); (cases hys9); (try k_fold)); rotate_left; (intro d9 t9 I9 oI9 C9 oC9 D9 m9 ys9 h9 tk9 E9 hd9 hC9 hx9 F9 N9 off9 ne9; (have hw9 := allW_each _ _ _ hd9); (try simp only [LCg.Off3, and_true] at off9); (try k_fold))))
      (repeat' (first | (k_unfold; (try dsimp only)) | walk1 | (dsimp only; walk1) | (leave1; try dsimp only)))
      · exact TestEnd.intro (by assumption) (by assumption) (by kcj_all) rfl
      with_reducible refine gw_true ?_ ?_
      · rename Facts _ _ _ => hGz
        with_reducible refine fin_end2 hGz (fin_mem2 hGz (by assumption) (by assumption)) (by assumption) (by omega)
      · exact goodW_bool (by assumption) (by assumption) (law_raises _) (law_post _)
    · k_steps
      exact ⟨_, _, _, _, _, rfl, by assumption, by assumption, by assumption, fun z hx hy => by (dsimp only; rw [if_neg hy, if_neg hx, if_neg hy])⟩
)
end Mine
set_option maxRecDepth 100000 in
set_option maxHeartbeats 8000000 in
theorem PySem.Challenge.cw_xm0027_01_holds : PySem.Challenge.rw_xm0027_01.Holds := by
  exact Mine.law_c
