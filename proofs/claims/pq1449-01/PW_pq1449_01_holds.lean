import PyProof.Rows.All
import Wide.All
import OpenK.AllK
import Wide.FinOn
import PySem.Challenge.RW_pq1449_01
set_option Elab.async false
set_option rowWalk.seconds 0
set_option compiler.extract_closed false
open PySem PySem.W PyProof.Rows
namespace Mine
local macro_rules | `(tactic| kst_in) => `(tactic| ((try dsimp only); k_extra "m_sub"))
local macro_rules | `(tactic| walk_at $s:str) => if ["CompSrc", "InvEndN", "binaryOp Add str str", "call builtin:chr", "call builtin:dict.get", "call builtin:str.join", "call ref", "compareOp Eq ref ref", "compareOp NotEq ref ref", "compareOp NotEq str str", "eval ListComp", "getItem ref str", "getMethod ref", "pyIter ref", "setItem ref str", "storeName", "subscriptTail"].contains s.getString then `(tactic| k_extra $s) else Lean.Macro.throwUnsupported
section
open PySem PySem.W PyProof.Rows
set_option Elab.async false
set_option maxRecDepth 100000
set_option maxHeartbeats 8000000
open_top hd for PySem.Challenge.rw_pq1449_01
end
section
open PySem PySem.W PyProof PyProof.Rows PySem.Builtin PySem.Builtin.Str
set_option maxRecDepth 100000
theorem len_cps (x : Str) : x.cps.toList.length = x.length := by simp [Str.length]
theorem item_at {x : Str} {i : Int} {c : Nat} {r : List Nat} (h0 : 0 ≤ i) (h : x.cps.toList.drop i.toNat = c :: r) : Txt.item x i = ⟨#[c]⟩ := by
  have hg : x.cps.toList[i.toNat]? = some c := by
    rw [← List.head?_drop, h]; rfl
  have hlt : i.toNat < x.cps.toList.length := by
    rcases Nat.lt_or_ge i.toNat x.cps.toList.length with h1 | h1
    · exact h1
    · rw [List.getElem?_eq_none h1] at hg; cases hg
  rw [len_cps] at hlt
  unfold Txt.item Txt.charAt seqIndex?
  have e1 : ¬ i < 0 := by omega
  have e2 : (decide (0 ≤ i) && decide (i < (x.length : Int))) = true := by
    simp; omega
  simp only [e1, if_false, e2, if_true, Option.bind_some]
  rw [Array.getElem?_toList] at hg
  rw [hg]; rfl
theorem drop_cons {x : Str} {i : Int} (h0 : 0 ≤ i) (h : i < (x.length : Int)) : ∃ c, x.cps.toList.drop i.toNat = c :: x.cps.toList.drop (i + 1).toNat := by
  have hlt : i.toNat < x.cps.toList.length := by rw [len_cps]; omega
  refine ⟨x.cps.toList[i.toNat], ?_⟩
  rw [List.drop_eq_getElem_cons hlt]
  have : (i + 1).toNat = i.toNat + 1 := by omega
  rw [this]
theorem drop_item {x : Str} {i : Int} (h0 : 0 ≤ i) (h : i < (x.length : Int)) : ∃ c, Txt.item x i = ⟨#[c]⟩ ∧ x.cps.toList.drop i.toNat = c :: x.cps.toList.drop (i + 1).toNat := by
  obtain ⟨c, e⟩ := drop_cons h0 h
  exact ⟨c, item_at h0 e, e⟩
theorem drop_none {x : Str} {i : Int} (h : (x.length : Int) ≤ i) : x.cps.toList.drop i.toNat = [] := by
  apply List.drop_eq_nil_of_le
  rw [len_cps]; omega
theorem slice_clip {n : Nat} {i j : Int} (h0 : 0 ≤ i) (h1 : 0 ≤ j) : strSliceIndices (some i) (some j) 1 n = strSliceIndices (some (min i n)) (some (min j n)) 1 n := by
  have a1 : ¬ i < 0 := by omega
  have a2 : ¬ j < 0 := by omega
  have a3 : ¬ min i (n : Int) < 0 := by omega
  have a4 : ¬ min j (n : Int) < 0 := by omega
  have h2 : (1 : Int) > 0 := by decide
  simp only [strSliceIndices, a1, a2, a3, a4, h2, if_false, if_true]
  congr 2 <;> omega
theorem slice_at {x : Str} {i j : Int} (h0 : 0 ≤ i) (h1 : i ≤ j) : Txt.slice x (some i) (some j) = ⟨((x.cps.toList.drop i.toNat).take (j - i).toNat).toArray⟩ := by
  have e2 : Txt.slice x (some i) (some j) = Txt.slice x (some (min i x.length)) (some (min j x.length)) := by
    unfold Txt.slice
    rw [slice_clip h0 (Int.le_trans h0 h1)]
  have hn : (0 : Int) ≤ x.length := Int.natCast_nonneg _
  have hl := len_cps x
  rcases Int.lt_or_le (x.length : Int) i with hi | hi
  · have m1 : min i (x.length : Int) = x.length := Int.min_eq_right (Int.le_of_lt hi)
    have m2 : min j (x.length : Int) = x.length := Int.min_eq_right (Int.le_trans (Int.le_of_lt hi) h1)
    rw [e2, m1, m2, beq_iff_eq.mp (slice_closesL (x := x) (i := x.length) (j := x.length) hn (Int.le_refl _) (Int.le_refl _))]
    rw [drop_none (Int.le_refl _), drop_none (Int.le_of_lt hi), List.take_nil, List.take_nil]
  · have m1 : min i (x.length : Int) = i := Int.min_eq_left hi
    rcases Int.lt_or_le (x.length : Int) j with hj | hj
    · have m2 : min j (x.length : Int) = x.length := Int.min_eq_right (Int.le_of_lt hj)
      rw [e2, m1, m2, beq_iff_eq.mp (slice_closesL (x := x) (i := i) (j := x.length) h0 hi (Int.le_refl _))]
      rw [List.take_of_length_le (by rw [List.length_drop, hl]; omega), List.take_of_length_le (by rw [List.length_drop, hl]; omega)]
    · have m2 : min j (x.length : Int) = j := Int.min_eq_left hj
      rw [e2, m1, m2, beq_iff_eq.mp (slice_closesL (x := x) (i := i) (j := j) h0 h1 hj)]
theorem slice_from {x : Str} {i : Int} (h0 : 0 ≤ i) : Txt.slice x (some i) none = ⟨(x.cps.toList.drop i.toNat).toArray⟩ := by
  by_cases h : i ≤ (x.length : Int)
  · rw [slice_from_eq (b := (x.length : Int)) h0 h rfl]
    rw [List.take_of_length_le]
    rw [List.length_drop, len_cps]; omega
  · rw [slice_beyond (by omega), drop_none (by omega)]; rfl
end
section
open PySem PySem.W PyProof.Rows
set_option Elab.async false
set_option maxRecDepth 100000
set_option maxHeartbeats 8000000
set_option pp.deepTerms false
set_option pp.maxSteps 30000
theorem room_le {a dp D D' : Nat} (h : dp + D' < recursionLimit) (e : a = dp + 1) (hD : D + 1 ≤ D') : a + D < recursionLimit := by
  subst e; exact Nat.lt_of_le_of_lt (by omega) h
theorem units_le {a un U U' : Nat} (h : un + U' < cLine) (e : a = un + 3) (hU : U + 3 ≤ U') : a + U < cLine := by
  subst e; exact Nat.lt_of_le_of_lt (by omega) h
abbrev CP (w : World) (mean : ExcName → Option Value) (mg mb : Str → Option Value) (D U : Nat) (f : Addr) (vs : List Value) (R : Tok → Value) : Prop :=
  ∀ (dp un : Nat) (gd : Option (List Code)) (cn : Str) (cs : Scope) (a : Addr) (ccd : Value) (cl : List (Str × Addr)) (outer : List Env) (A₀ : Around) (base h₀ : Heap) (L : Addr) (m : Str → Option Value) (news : List (Addr × Obj)) (s : Shared) (Q E : Value → Shared → Prop),
    Below A₀ base outer h₀ → Fr h₀ L s.heap m → (hd.heap_39 w.params).In h₀ → News h₀ L s.heap news → Top hd.view_39 (looseW hd.view_39 []) mean mg mb h₀ → cs.kind = .function →
    dp + D < recursionLimit → un + U < cLine →
    (∀ (t : Tok) (h' : Heap) (tk' : Nat), Fr h₀ L h' m → News h₀ L h' news → Q (R t) { s with heap := h', toks := tk' }) →
      wpAny (model Challenge.rw_pq1449_01.row.prog w) (ktrTop dp un gd cn cs L a ccd cl outer) (call (.ref f) vs) Q E s

theorem CP.use {w : World} {mean : ExcName → Option Value} {mg mb : Str → Option Value} {D U : Nat} {f : Addr} {vs : List Value} {R : Tok → Value} (C : CP w mean mg mb D U f vs R)
    {dp un : Nat} {gd : Option (List Code)} {cn : Str} {cs : Scope} {a : Addr} {ccd : Value} {cl : List (Str × Addr)} {outer : List Env} {A₀ : Around} {base h₀ : Heap} {L : Addr} {m : Str → Option Value} {news : List (Addr × Obj)} {s : Shared} {Q E : Value → Shared → Prop}
    (B : Below A₀ base outer h₀) (F : Fr h₀ L s.heap m) (X : (hd.heap_39 w.params).In h₀) (N : News h₀ L s.heap news) (T : Top hd.view_39 (looseW hd.view_39 []) mean mg mb h₀) (hk : cs.kind = .function)
    (hd : dp + D < recursionLimit) (hu : un + U < cLine)
    (h : ∀ (t : Tok) (h' : Heap) (tk' : Nat), Fr h₀ L h' m → News h₀ L h' news → Q (R t) { s with heap := h', toks := tk' }) :
    wpAny (model Challenge.rw_pq1449_01.row.prog w) (ktrTop dp un gd cn cs L a ccd cl outer) (call (.ref f) vs) Q E s := C _ _ _ _ _ _ _ _ _ _ _ _ _ _ _ _ _ _ B F X N T hk hd hu h

def nbS (x : Str) : Bool := (!decide (x.cps.toList < [65]) && !decide ([90] < x.cps.toList)) || (!decide (x.cps.toList < [97]) && !decide ([122] < x.cps.toList)) || [Str.mk #[95], Str.mk #[63], Str.mk #[46], Str.mk #[64]].contains x
def fgS (x : Str) : Bool := !decide (x.cps.toList < [48]) && !decide ([57] < x.cps.toList)


theorem o_A : (Str.ofString "A").cps.toList = [65] := by decide +kernel
theorem o_Z : (Str.ofString "Z").cps.toList = [90] := by decide +kernel
theorem o_a : (Str.ofString "a").cps.toList = [97] := by decide +kernel
theorem o_z : (Str.ofString "z").cps.toList = [122] := by decide +kernel
theorem o_0 : (Str.ofString "0").cps.toList = [48] := by decide +kernel
theorem o_9 : (Str.ofString "9").cps.toList = [57] := by decide +kernel
theorem o_4 : [Str.ofString "_", Str.ofString "?", Str.ofString ".", Str.ofString "@"] = [Str.mk #[95], Str.mk #[63], Str.mk #[46], Str.mk #[64]] := by decide +kernel
theorem any_contains (l : List Str) (x : Str) : (l.any fun y => y == x) = l.contains x := by
  rw [List.contains_eq_any_beq]; congr 1; funext y; exact Bool.beq_comm

theorem c_begin (w mean mg mb) (x : Str) (t : Tok) : CP w mean mg mb 1 10 21 [.str x t] (fun _ => .bool (nbS x)) := by
  k_with_none
  k_with "m_N" => first | k_asm | (refine cb_drop (by assumption) ?_; kcj_all)
  k_with "m_in" => (w_top off; dsimp only [CP]; k_fill; intros; rename_i hret; refine wpAny_call ?_; k_dflt cell_enter)
  k_with "m_retB" => (refine cb_retB hret ?_ (by k_asm) (by k_extra "m_N"))
  k_extra "m_in"
  k_steps
  all_goals k_extra "m_retB"
  all_goals (simp only [o_A, o_Z, o_a, o_z, o_4, any_contains] at *)
  all_goals simp only [nbS, *, decide_true, decide_false, not_false_eq_true, not_true_eq_false, Bool.not_true, Bool.not_false, Bool.true_and, Bool.and_true, Bool.false_and, Bool.true_or, Bool.false_or, Bool.or_false, Bool.or_true]
theorem c_fig (w mean mg mb) (x : Str) (t : Tok) : CP w mean mg mb 1 10 28 [.str x t] (fun _ => .bool (fgS x)) := by
  k_with_none
  k_with "m_N" => first | k_asm | (refine cb_drop (by assumption) ?_; kcj_all)
  k_with "m_in" => (w_top off; dsimp only [CP]; k_fill; intros; rename_i hret; refine wpAny_call ?_; k_dflt cell_enter)
  k_with "m_retB" => (refine cb_retB hret ?_ (by k_asm) (by k_extra "m_N"))
  k_extra "m_in"
  k_steps
  all_goals k_extra "m_retB"
  all_goals (simp only [o_0, o_9] at *)
  all_goals simp_all [fgS]

def npS (x : Str) : Bool := nbS x || fgS x

theorem c_part (w mean mg mb) (x : Str) (t : Tok) : CP w mean mg mb 2 20 35 [.str x t] (fun _ => .bool (npS x)) := by
  k_with_none
  k_with "m_N" => first | k_asm | (refine cb_drop (by assumption) ?_; kcj_all)
  k_with "m_in" => (w_top off; dsimp only [CP]; k_fill; intros; rename_i hret; refine wpAny_call ?_; k_dflt cell_enter)
  k_with "m_retB" => (refine cb_retB hret ?_ (by k_asm) (by k_extra "m_N"))
  k_with "call ref" => (k_here; (first | refine' (c_begin _ _ _ _ _ _).use ?k1 ?k2 ?k3 ?k4 ?k5 ?kK ?kd ?ku ?_ | refine' (c_fig _ _ _ _ _ _).use ?k1 ?k2 ?k3 ?k4 ?k5 ?kK ?kd ?ku ?_); (case k1 => k_asm); (case k2 => k_asm); (case k3 => k_asm); (case k4 => k_asm); (case k5 => k_asm); (case kK => first | exact rfl | assumption); (case kd => exact room_le (by with_reducible assumption) (by with_unfolding_all rfl) (by decide)); (case ku => exact units_le (by with_reducible assumption) (by with_unfolding_all rfl) (by decide)); intro t9 h9 tk9 F9 N9; (try dsimp only); (try k_fold))
  k_extra "m_in"
  k_steps
  all_goals k_extra "m_retB"
  all_goals simp_all [npS]
end
section
open PySem PySem.W PyProof.Rows
set_option Elab.async false
set_option maxRecDepth 100000
set_option maxHeartbeats 8000000
set_option pp.deepTerms false
set_option pp.maxSteps 30000

def npc (c : Nat) : Bool := npS ⟨#[c]⟩
def rl (l : List Nat) : Nat := (l.takeWhile npc).length
def runI (x : Str) (i : Int) : Int := i + rl (x.cps.toList.drop i.toNat)
theorem run_stop {x : Str} {i : Int} (h : (x.length : Int) ≤ i) : runI x i = i := by
  unfold runI
  have : x.cps.toList.length ≤ i.toNat := by
    have : x.cps.toList.length = x.length := by simp [Str.length]
    omega
  rw [List.drop_eq_nil_of_le this]; simp [rl]
theorem run_no {x : Str} {i : Int} (h0 : 0 ≤ i) (h : i < (x.length : Int)) (hn : npS (Txt.item x i) = false) : runI x i = i := by
  obtain ⟨c, e, d⟩ := drop_item h0 h
  rw [e] at hn
  unfold runI
  rw [d]
  simp [rl, List.takeWhile_cons, npc, hn]
theorem run_go {x : Str} {i : Int} (h0 : 0 ≤ i) (h : i < (x.length : Int)) (hn : npS (Txt.item x i) = true) : runI x (i + 1) = runI x i := by
  obtain ⟨c, e, d⟩ := drop_item h0 h
  rw [e] at hn
  unfold runI
  rw [d]
  simp only [rl, List.takeWhile_cons, npc, hn, if_true, List.length_cons]
  omega
theorem run_turn {x : Str} {i j : Int} (hx : x.length ≤ 2 ^ 16) (h0 : 0 ≤ j) (h : j < (x.length : Int)) (e : runI x j = runI x i) (hn : npS (Txt.item x j) = true) : 0 ≤ j + 1 ∧ j + 1 ≤ 2 ^ 16 ∧ runI x (j + 1) = runI x i :=
  ⟨by omega, by omega, (run_go h0 h hn).trans e⟩
theorem c_run (w mean mg mb) (x : Str) (t : Tok) (i : Int) (u : Tok) (hx : x.length ≤ 2 ^ 16) (h0 : 0 ≤ i) (hi : i ≤ 2 ^ 16) : CP w mean mg mb 3 30 47 [.str x t, .int i u] (fun t => .int (runI x i) t) := by
  k_with_none
  k_with "m_N" => first | k_asm | (refine cb_drop (by assumption) ?_; kcj_all)
  k_with "m_in" => (w_top off; dsimp only [CP]; k_fill; intros; rename_i hret; refine wpAny_call ?_; k_dflt cell_enter)
  k_with "m_retI" => (refine cb_retI hret ?_ (by k_asm) (by k_extra "m_N"))
  k_with "call ref" => (k_here; (first | refine' (c_part _ _ _ _ _ _).use ?k1 ?k2 ?k3 ?k4 ?k5 ?kK ?kd ?ku ?_); (case k1 => k_asm); (case k2 => k_asm); (case k3 => k_asm); (case k4 => k_asm); (case k5 => k_asm); (case kK => first | exact rfl | assumption); (case kd => exact room_le (by with_reducible assumption) (by with_unfolding_all rfl) (by decide)); (case ku => exact units_le (by with_reducible assumption) (by with_unfolding_all rfl) (by decide)); intro t9 h9 tk9 F9 N9; (try dsimp only); (try k_fold))
  k_extra "m_in"
  k_with "exec While BoolOp cons nil" => k_while (fun _ j => 0 ≤ j ∧ j ≤ 2 ^ 16 ∧ runI x j = runI x i) (fun _ j => ((x.length : Int) - j).toNat) "at"
  k_with "state" => first | exact ⟨h0, hi, rfl⟩ | exact run_turn hx (by assumption) (by assumption) (by assumption) (by assumption)
  k_steps
  all_goals k_extra "m_retI"
  all_goals (rename (runI x _ = runI x i) => e)
  all_goals (rw [← e]; first | exact (run_no (by assumption) (by assumption) (by assumption)).symm | exact (run_stop (by omega)).symm)

def capc (c : Nat) : Nat := if 97 ≤ c ∧ c ≤ 122 then c - 32 else c
def capL (l : List Nat) : List Nat := l.map capc
def capS (x : Str) : Str := ⟨(capL x.cps.toList).toArray⟩
end
section
open PySem PySem.W PyProof PyProof.Rows PySem.Calls
set_option Elab.async false
set_option maxRecDepth 100000
set_option maxHeartbeats 8000000
set_option pp.deepTerms false
set_option pp.maxSteps 30000

section
variable {prog : Program} {w : World} {A : Around} {E : Value → Shared → Prop} {s : Shared} {h₀ : Heap} {L : Addr} {m : Str → Option Value} {env : Env}
def TextSrc (prog : Program) (w : World) (A : Around) (h₀ : Heap) (L : Addr) (m : Str → Option Value) (env : Env) (elt : Expr) (x : Str) (scope : Scope) (cl : List (Str × Addr)) (Q : Value → Shared → Prop) (xv : Value) (s₁ : Shared) : Prop :=
  ∃ y t news, xv = .str y t ∧ A.handled = none ∧ Fr h₀ L s₁.heap m ∧ News h₀ L s₁.heap news ∧ y.cps.size ≤ sizeLine ∧
    ∀ g, LCg.CompRest prog w A h₀ L m env elt x scope cl { s₁ with heap := g } (fun _ => True) (SignAt y) (LCg.FinE h₀ L m { s₁ with heap := g } Q) y.cps.size 0 [] news

theorem text_src_go {elt iter : Expr} {x : Str} {px : Pos} {scope : Scope} {cl : List (Str × Addr)} {pos : Pos} {Q : Value → Shared → Prop} {s₁ : Shared} {y : Str} {t : Tok} {news : List (Addr × Obj)} (nm : String)
    (W : Walks prog w A s₁.heap.objs.size [s₁.heap.objs.size] [s₁.heap.objs.size] y.cps.size (SignAt y) (fun i h => h.IsStrIter s₁.heap.objs.size nm y t i))
    (hcell : ∀ y ∈ scope.names, y.2 ≠ .cell) (hkind : scope.kind = .function) (hx : scope.names.lookup x = some .local)
    (F : Fr h₀ L s₁.heap m) (N : News h₀ L s₁.heap news) (hsz : y.cps.size ≤ sizeLine)
    (R : ∀ g, LCg.CompRest prog w A h₀ L m env elt x scope cl { s₁ with heap := g } (fun _ => True) (SignAt y) (LCg.FinE h₀ L m { s₁ with heap := g } Q) y.cps.size 0 [] news) :
    wpAny (model prog w) A (newList []) (fun acc s₃ => wpAny (model prog w) A (newFunctionEnv scope env.globals cl [] env.qual none .none (some env)) (fun cenv s₄ =>
      codeAny (model prog w) A (.compStart (.ListComp elt [⟨.Name x px, iter, [], 0⟩] scope pos) 0 (.ref s₁.heap.objs.size) acc { cenv with scope := relabel scope env })
        (compPost (model prog w) A E none Q acc cenv.locals) s₄) E s₃) E
      { s₁ with heap := s₁.heap.push { cls := .type nm, data := .fields #[.str y t, .int 0 0] } } := by
  have up : ∀ b o, s₁.heap.get? b = some o → (s₁.heap.push { cls := .type nm, data := .fields #[.str y t, .int 0 0] }).get? b = some o := fun b o e => Heap.get?_push_of_some _ e
  refine LCg.block_U W hsz (fun i h st => by obtain ⟨o, e, _⟩ := st; exact ⟨o, e⟩) (fun i h h' o nw st e e' _ _ _ => by obtain ⟨o', q, r⟩ := st; rw [e] at q; cases q; exact ⟨o, e', r⟩) hcell hkind hx ⟨_, Heap.get?_push_size _ rfl, rfl, rfl⟩ (fun b hb => ?_)
    (F.keeps up) (N.grown up) (Nat.ne_of_lt F.ns.lt) (next_is_new F) (fun p hp => Nat.ne_of_lt (Heap.lt_size (N p hp).1)) trivial (R _) ?_
  · show b < (s₁.heap.push _).objs.size
    rw [Heap.size_push, List.mem_singleton.mp hb]
    exact Nat.lt_succ_self _
  · intro D C h tk m' ys news' F' N' o1 hn hC₀ hD₀ hCL hDL hCD offC fin
    refine ⟨m', hn, fun h'' hs'' => fin D h'' tk (F'.change hs'' hCL hC₀) (fun p hp => ?_) o1⟩
    refine ⟨hs''.extBut _ _ ?_ (N' p hp).1, (N' p hp).2⟩
    rcases List.mem_cons.mp hp with rfl | hp
    · exact Ne.symm hCD
    · exact offC p hp
theorem comp_text {elt iter : Expr} {x : Str} {px : Pos} {scope : Scope} {cl : List (Str × Addr)} {pos : Pos} {Q : Value → Shared → Prop} (F₀ : Fr h₀ L s.heap m)
    (hclos : closureFor scope env = pure cl) (hcell : ∀ y ∈ scope.names, y.2 ≠ .cell) (hkind : scope.kind = .function)
    (hnames : ∀ y ∈ scope.names, y.2 = .local → scope.names.lookup y.1 = some .local) (hx : scope.names.lookup x = some .local)
    (h : wpAny (model prog w) A (eval iter env) (TextSrc prog w A h₀ L m env elt x scope cl Q) E s)
    (hs : ∀ x, foldedSetIterable iter env x = pure x := by intro _; rfl) :
    wpAny (model prog w) A (eval (.ListComp elt [⟨.Name x px, iter, [], 0⟩] scope pos) env) Q E s := by
  rw [eval_ListComp]
  refine wpAny_comprehension_free (use := none) rfl hs hclos hkind hnames (wpAny_mono h (fun xv s₁ h₁ => ?_) fun _ _ e => e)
  obtain ⟨y, t, news, rfl, hh, F, N, hsz, R⟩ := h₁
  cases ha : y.cps.all (· < 128)
  · exact wpAny_pyIter_wide ha (text_src_go _ (Walks.strWide hh _ y t) hcell hkind hx F N hsz R)
  · exact wpAny_pyIter_ascii ha (text_src_go _ (Walks.strAscii hh _ y t) hcell hkind hx F N hsz R)

/-- each turn makes a text, the ledger stands -/
theorem text_turns {elt : Expr} {x : Str} {scope : Scope} {cl : List (Str × Addr)} {s₁ : Shared} {Fin : List Value → List (Addr × Obj) → Prop} {y : Str} {news : List (Addr × Obj)} (g : Nat → Str)
    (turn : ∀ c t I oI C oC D m₂ ys h tk (E' : Value → Shared → Prop), LCg.NsObj oC m₂ → m₂ x = some (.str ⟨#[c]⟩ t) → Fr h₀ L h m → News h₀ L h ((I, oI) :: (C, oC) :: (D, LCg.lst ys) :: news) → LCg.Off3 I C D news → ((@Ne Nat I C) ∧ (@Ne Nat I D) ∧ (@Ne Nat C D)) →
      wpAny (model prog w) A (eval elt (compEnvC scope cl C env)) (LCg.CompEnd h₀ L m { s₁ with heap := h, toks := tk } I oI C oC D (LCg.lst ys) (fun _ => True) (fun v news' => KCtEl news (g c) v news')) E' { s₁ with heap := h, toks := tk })
    (fin : ∀ vs, StrsAre vs (y.cps.toList.map g) → Fin vs news) :
    LCg.CompRest prog w A h₀ L m env elt x scope cl s₁ (fun _ => True) (SignAt y) Fin y.cps.size 0 [] news := by
  have key : ∀ (j i : Nat) (ys : List Value), i + j = y.cps.size → StrsAre ys ((y.cps.toList.take i).map g) → LCg.CompRest prog w A h₀ L m env elt x scope cl s₁ (fun _ => True) (SignAt y) Fin j i ys news := by
    intro j
    induction j with
    | zero =>
      intro i ys hi hy
      refine LCg.CompRest.zero (fin ys ?_)
      rwa [List.take_of_length_le (by rw [Array.length_toList]; omega)] at hy
    | succ j ih =>
      intro i ys hi hy
      refine LCg.CompRest.succ ?_
      intro v I oI C oC D m₂ h tk E' hv hC hx F N off ne
      obtain ⟨c, t, hk, hv'⟩ := hv
      rw [hv'] at hx
      refine wpAny_mono (turn c t I oI C oC D m₂ ys h tk E' hC hx F N off ne) (fun v s₂ hq => ?_) fun _ _ e => e
      obtain ⟨h', tk', nw, e, F', N', off', hS, hn, t', hy'⟩ := hq
      rw [hn] at N' off'
      refine ⟨h', tk', news, e, F', N', off', hS, ?_⟩
      rw [hy']
      refine ih (i + 1) _ (by omega) ?_
      rw [List.take_add_one, Array.getElem?_toList, hk]
      simpa using kct_snoc hy
  exact key _ 0 [] (by omega) (by simp only [List.take_zero, List.map_nil]; exact .nil)
end


theorem lt_one {a b : Nat} : ([a] < [b]) ↔ a < b := by simp [List.cons_lt_cons_iff]
theorem lo_a {c : Nat} (h : ¬ (Str.mk #[c]).cps.toList < (Str.ofString "a").cps.toList) : 97 ≤ c := by
  rw [o_a] at h; have := mt lt_one.mpr h; omega
theorem hi_z {c : Nat} (h : ¬ (Str.ofString "z").cps.toList < (Str.mk #[c]).cps.toList) : c ≤ 122 := by
  rw [o_z] at h; have := mt lt_one.mpr h; omega
theorem lo_a' {c : Nat} (h : (Str.mk #[c]).cps.toList < (Str.ofString "a").cps.toList) : c < 97 := by
  rw [o_a] at h; exact lt_one.mp h
theorem hi_z' {c : Nat} (h : (Str.ofString "z").cps.toList < (Str.mk #[c]).cps.toList) : 122 < c := by
  rw [o_z] at h; exact lt_one.mp h
theorem chr_up {prog : Program} {w : World} {A : Around} {E : Value → Shared → Prop} {s : Shared} {c : Nat} {t : Tok} {Q : Value → Shared → Prop} (h0 : 97 ≤ c) (h1 : c ≤ 122) (h : Q (.str ⟨#[capc c]⟩ s.toks) { s with toks := s.toks + 1 }) :
    wpAny (model prog w) A (call (.builtin "chr") [.int ((c : Int) - 32) t]) Q E s := by
  refine chr_of_range (by omega) (by omega) ?_
  have e : ((c : Int) - 32).toNat = capc c := by unfold capc; rw [if_pos ⟨h0, h1⟩]; omega
  rw [e]; exact h
theorem cap_same {c : Nat} (h : c < 97 ∨ 122 < c) : capc c = c := by unfold capc; rw [if_neg]; omega
theorem turn_end {h₀ : Heap} {L I C D : Addr} {m : Str → Option Value} {s₁ : Shared} {oI oC oD : Obj} {h' : Heap} {tk : Nat} {news : List (Addr × Obj)} {x y : Str} {t : Tok}
    (F : Fr h₀ L h' m) (N : News h₀ L h' ((I, oI) :: (C, oC) :: (D, oD) :: news)) (off : LCg.Off3 I C D news) (e : x = y) :
    LCg.CompEnd h₀ L m s₁ I oI C oC D oD (fun _ => True) (fun v news' => KCtEl news x v news') (.str y t) { s₁ with heap := h', toks := tk } :=
  .intro F N news (fun _ h => h) off trivial ⟨rfl, t, by rw [e]⟩
theorem sum_ones (f : Nat → Nat) : ∀ l : List Nat, ((l.map fun c => (⟨#[f c]⟩ : Str)).map (·.length)).sum = l.length
  | [] => rfl
  | c :: r => by rw [List.map_cons, List.map_cons, List.sum_cons, sum_ones f r, List.length_cons]; show 1 + _ = _; omega
theorem join_up {prog : Program} {w : World} {A : Around} {E : Value → Shared → Prop} {s : Shared} {x : Str} {vs : List Value} {D : Addr} {t : Tok} {Q : Value → Shared → Prop} {h₀ : Heap} {L : Addr} {news : List (Addr × Obj)} (N : News h₀ L s.heap ((D, LCg.lst vs) :: news)) (hv : StrsAre vs (x.cps.toList.map fun c => (⟨#[capc c]⟩ : Str))) (hx : x.length ≤ 2 ^ 16)
    (h : ∀ t' k, Q (.str (capS x) t') { s with toks := k }) : wpAny (model prog w) A (call (.builtin "str.join") [.str (Str.ofString "") t, .ref D]) Q E s := by
  have hl : s.heap.IsList D vs.toArray := ⟨_, (N _ (.head _)).1, rfl, _, rfl⟩
  refine join_listC (ys := x.cps.toList.map fun c => (⟨#[capc c]⟩ : Str)) hl (by simpa using hv) (by decide) ?_ ?_
  · rw [sum_ones, List.length_map, len_cps]; omega
  · have e : Txt.join (Str.ofString "") (x.cps.toList.map fun c => (⟨#[capc c]⟩ : Str)) = capS x := by
      show Builtin.Str.glued (Str.ofString "") _ = _
      rw [StrLaws.glued_eq_join]
      have := join_ones (x.cps.toList.map capc)
      rw [List.map_map] at this
      have e0 : Str.ofString "" = ⟨#[]⟩ := by decide +kernel
      rw [e0]
      exact this
    rw [e]; exact h

theorem c_cap (w mean mg mb) (x : Str) (t : Tok) (hx : x.length ≤ 2 ^ 16) : CP w mean mg mb 3 30 40 [.str x t] (fun t => .str (capS x) t) := by
  k_with_none
  k_with "m_N" => first | k_asm | (refine cb_drop (by assumption) ?_; kcj_all)
  k_with "m_in" => (w_top off; dsimp only [CP]; k_fill; intros; rename_i hret; refine wpAny_call ?_; k_dflt cell_enter)
  k_with "m_retS" => (refine cb_retS hret ?_ (by k_asm) (by k_extra "m_N"))
  k_with "eval ListComp" => (k_here; k_dflt (refine comp_text (F₀ := by k_asm) (by with_unfolding_all rfl) (by decide) (by rfl) (by decide) (by rfl) ?_))
  k_with "call builtin:chr" => (refine chr_up (lo_a (by assumption)) (hi_z (by assumption)) ?_)
  k_with "call builtin:str.join" => (refine join_up (by with_reducible assumption) (by with_reducible assumption) (by assumption) ?_; intro _ _)
  k_extra "m_in"
  k_steps
  unfold TextSrc
  refine ⟨x, t, _, rfl, rfl, by k_asm, by k_asm, ?_, fun g => text_turns (fun c => ⟨#[capc c]⟩) ?_ ?_⟩
  · rw [PySem.sizeLine_eq]; have : x.cps.size = x.length := rfl; omega
  · intro c t I oI C oC D m₂ ys h tk E' hC' hx' F' N' off' ne'
    k_steps
    · exact turn_end (by assumption) (by assumption) off' (by rw [cap_same (.inl (lo_a' (by assumption)))])
    · exact turn_end (by assumption) (by assumption) off' (by rw [cap_same (.inr (hi_z' (by assumption)))])
    · exact turn_end (by assumption) (by assumption) off' rfl
  · intro vs hv D h tk F' N' off'
    dsimp only
    k_steps
    all_goals k_extra "m_retS"
    all_goals rfl
end
section
open PySem PySem.W PyProof PyProof.Rows PySem.Calls
set_option Elab.async false
set_option maxRecDepth 100000
set_option maxHeartbeats 8000000
set_option pp.deepTerms false
set_option pp.maxSteps 30000
set_option linter.unusedSimpArgs false
set_option linter.unusedVariables false
def folS (x : Str) (i : Int) : Str := capS (Txt.slice x (some (i + 1)) (some (i + 2)))
def pfxS (x : Str) (i : Int) : Bool :=
  if (Txt.item x i == Str.ofString "$") = true then (folS x i != Str.ofString "") && !(Builtin.Str.occurrences (Str.ofString "0123456789ABCDEF") (folS x i) 0 (Str.ofString "0123456789ABCDEF").length 1).isEmpty
  else Txt.item x i == Str.ofString "%" && ([Str.ofString "0", Str.ofString "1"].any fun y => y == folS x i)
theorem slice_small (x : Str) (i j : Int) (hx : x.length ≤ 2 ^ 16) : (Txt.slice x (some i) (some j)).length ≤ 2 ^ 16 := Nat.le_trans (Txt.length_slice_le x _ _) hx
theorem c_pfx (w mean mg mb) (x : Str) (t : Tok) (i : Int) (u : Tok) (hx : x.length ≤ 2 ^ 16) (h0 : 0 ≤ i) (hi : i < (x.length : Int)) : CP w mean mg mb 5 50 54 [.str x t, .int i u] (fun _ => .bool (pfxS x i)) := by
  k_with_none
  k_with "m_N" => first | k_asm | (refine cb_drop (by assumption) ?_; kcj_all)
  k_with "m_in" => (w_top off; dsimp only [CP]; k_fill; intros; rename_i hret; refine wpAny_call ?_; k_dflt cell_enter)
  k_with "m_retB" => (refine cb_retB hret ?_ (by k_asm) (by k_extra "m_N"))
  k_with "call ref" => (k_here; (first | refine' (c_cap _ _ _ _ _ _ (by first | assumption | exact slice_small _ _ _ (by assumption))).use ?k1 ?k2 ?k3 ?k4 ?k5 ?kK ?kd ?ku ?_); (case k1 => k_asm); (case k2 => k_asm); (case k3 => k_asm); (case k4 => k_asm); (case k5 => k_asm); (case kK => first | exact rfl | assumption); (case kd => exact room_le (by with_reducible assumption) (by with_unfolding_all rfl) (by decide)); (case ku => exact units_le (by with_reducible assumption) (by with_unfolding_all rfl) (by decide)); intro t9 h9 tk9 F9 N9; (try dsimp only); (try k_fold))
  k_extra "m_in"
  k_steps
  all_goals k_extra "m_retB"
  all_goals (simp only [pfxS, folS, *, if_true, if_false, Bool.false_eq_true, Bool.true_and, Bool.false_and])
def endI (x : Str) (i : Int) : Int := runI x (if pfxS x i = true then i + 1 else i)
def atomI (x : Str) (i : Int) : Int :=
  if (capS (Txt.slice x (some i) (some (endI x i))) == Str.ofString "AF") = true then (if (Txt.slice x (some (endI x i)) (some (endI x i + 1)) == Str.ofString "'") = true then endI x i + 1 else endI x i) else endI x i
theorem run_ge (x : Str) (i : Int) : i ≤ runI x i := by unfold runI; omega
theorem run_le {x : Str} {i : Int} (h0 : 0 ≤ i) (h : i ≤ (x.length : Int)) : runI x i ≤ x.length := by
  unfold runI rl
  have h1 := (List.takeWhile_sublist npc (l := x.cps.toList.drop i.toNat)).length_le
  rw [List.length_drop, len_cps] at h1
  omega
theorem c_atom (w mean mg mb) (x : Str) (t : Tok) (i : Int) (u : Tok) (hx : x.length ≤ 2 ^ 16) (h0 : 0 ≤ i) (hi : i < (x.length : Int)) : CP w mean mg mb 7 60 61 [.str x t, .int i u] (fun t => .int (atomI x i) t) := by
  k_with_none
  k_with "m_N" => first | k_asm | (refine cb_drop (by assumption) ?_; kcj_all)
  k_with "m_in" => (w_top off; dsimp only [CP]; k_fill; intros; rename_i hret; refine wpAny_call ?_; k_dflt cell_enter)
  k_with "m_retI" => (refine cb_retI hret ?_ (by k_asm) (by k_extra "m_N"))
  k_with "call ref" => (k_here; (first | refine' (c_cap _ _ _ _ _ _ (by first | assumption | exact slice_small _ _ _ (by assumption))).use ?k1 ?k2 ?k3 ?k4 ?k5 ?kK ?kd ?ku ?_); (case k1 => k_asm); (case k2 => k_asm); (case k3 => k_asm); (case k4 => k_asm); (case k5 => k_asm); (case kK => first | exact rfl | assumption); (case kd => exact room_le (by with_reducible assumption) (by with_unfolding_all rfl) (by decide)); (case ku => exact units_le (by with_reducible assumption) (by with_unfolding_all rfl) (by decide)); intro t9 h9 tk9 F9 N9; (try dsimp only); (try k_fold))
  k_with "call ref" => (k_here; (first | refine' (c_pfx _ _ _ _ _ _ _ _ (by assumption) (by assumption) (by assumption)).use ?k1 ?k2 ?k3 ?k4 ?k5 ?kK ?kd ?ku ?_ | refine' (c_run _ _ _ _ _ _ _ _ (by assumption) (by omega) (by omega)).use ?k1 ?k2 ?k3 ?k4 ?k5 ?kK ?kd ?ku ?_); (case k1 => k_asm); (case k2 => k_asm); (case k3 => k_asm); (case k4 => k_asm); (case k5 => k_asm); (case kK => first | exact rfl | assumption); (case kd => exact room_le (by with_reducible assumption) (by with_unfolding_all rfl) (by decide)); (case ku => exact units_le (by with_reducible assumption) (by with_unfolding_all rfl) (by decide)); intro t9 h9 tk9 F9 N9; (try dsimp only); (try k_fold))
  k_extra "m_in"
  k_steps
  all_goals k_extra "m_retI"
  all_goals (simp only [atomI, endI, *, if_true, if_false, Bool.false_eq_true])
end
section
open PySem PySem.W PyProof PyProof.Rows PySem.Calls
set_option Elab.async false
set_option maxRecDepth 100000
set_option maxHeartbeats 8000000
set_option pp.deepTerms false
set_option pp.maxSteps 30000
set_option linter.unusedSimpArgs false
set_option linter.unusedVariables false
/-- as CP, of a call that reads an object of the ledger -/
abbrev CN (w : World) (mean : ExcName → Option Value) (mg mb : Str → Option Value) (D U : Nat) (f : Addr) (vs : List Value) (pre : List (Addr × Obj) → Prop) (R : Tok → Value) : Prop :=
  ∀ (dp un : Nat) (gd : Option (List Code)) (cn : Str) (cs : Scope) (a : Addr) (ccd : Value) (cl : List (Str × Addr)) (outer : List Env) (A₀ : Around) (base h₀ : Heap) (L : Addr) (m : Str → Option Value) (news : List (Addr × Obj)) (s : Shared) (Q E : Value → Shared → Prop),
    Below A₀ base outer h₀ → Fr h₀ L s.heap m → (hd.heap_39 w.params).In h₀ → News h₀ L s.heap news → Top hd.view_39 (looseW hd.view_39 []) mean mg mb h₀ → cs.kind = .function →
    dp + D < recursionLimit → un + U < cLine → pre news →
    (∀ (t : Tok) (h' : Heap) (tk' : Nat), Fr h₀ L h' m → News h₀ L h' news → Q (R t) { s with heap := h', toks := tk' }) →
      wpAny (model Challenge.rw_pq1449_01.row.prog w) (ktrTop dp un gd cn cs L a ccd cl outer) (call (.ref f) vs) Q E s

theorem CN.use {w : World} {mean : ExcName → Option Value} {mg mb : Str → Option Value} {D U : Nat} {f : Addr} {vs : List Value} {pre : List (Addr × Obj) → Prop} {R : Tok → Value} (C : CN w mean mg mb D U f vs pre R)
    {dp un : Nat} {gd : Option (List Code)} {cn : Str} {cs : Scope} {a : Addr} {ccd : Value} {cl : List (Str × Addr)} {outer : List Env} {A₀ : Around} {base h₀ : Heap} {L : Addr} {m : Str → Option Value} {news : List (Addr × Obj)} {s : Shared} {Q E : Value → Shared → Prop}
    (B : Below A₀ base outer h₀) (F : Fr h₀ L s.heap m) (X : (hd.heap_39 w.params).In h₀) (N : News h₀ L s.heap news) (T : Top hd.view_39 (looseW hd.view_39 []) mean mg mb h₀) (hk : cs.kind = .function)
    (hd : dp + D < recursionLimit) (hu : un + U < cLine) (hp : pre news)
    (h : ∀ (t : Tok) (h' : Heap) (tk' : Nat), Fr h₀ L h' m → News h₀ L h' news → Q (R t) { s with heap := h', toks := tk' }) :
    wpAny (model Challenge.rw_pq1449_01.row.prog w) (ktrTop dp un gd cn cs L a ccd cl outer) (call (.ref f) vs) Q E s := C _ _ _ _ _ _ _ _ _ _ _ _ _ _ _ _ _ _ B F X N T hk hd hu hp h

/-- what a dict of texts says -/
def TabOf (kvs : List (Str × Value)) (tab : Str → Option Str) : Prop :=
  ∀ k, (∃ v t, PySem.valueAt kvs k = some (.str v t) ∧ tab k = some v ∧ v.length ≤ 8) ∨ (PySem.valueAt kvs k = none ∧ tab k = none)
def TabIn (w : World) (d : Addr) (tab : Str → Option Str) (news : List (Addr × Obj)) : Prop :=
  ∃ o kvs, (d, o) ∈ news ∧ o.IsDictOf (strKind Challenge.rw_pq1449_01.row.prog w) kvs ∧ (d == sysModules) = false ∧ TabOf kvs tab
theorem TabIn.method {w : World} {A : Around} {E : Value → Shared → Prop} {s : Shared} {h₀ : Heap} {L d : Addr} {news : List (Addr × Obj)} {tab : Str → Option Str} {pl : Sem Bool} {Q : Value × List Value → Shared → Prop} (T : TabIn w d tab news) (N : News h₀ L s.heap news) (h : Q (.builtin "dict.get", [.ref d]) s) :
    wpAny (model Challenge.rw_pq1449_01.row.prog w) A (getMethod (.ref d) "get" pl) Q E s := by
  obtain ⟨o, kvs, hm, hd, _, _⟩ := T
  exact kdg_method N hm hd h
theorem TabIn.get {w : World} {A : Around} {E : Value → Shared → Prop} {s : Shared} {h₀ : Heap} {L d : Addr} {news : List (Addr × Obj)} {tab : Str → Option Str} {k y : Str} {u u' : Tok} {Q : Value → Shared → Prop} (T : TabIn w d tab news) (N : News h₀ L s.heap news)
    (h : ∀ t, ((tab k).getD y).length ≤ 8 + y.length → Q (.str ((tab k).getD y) t) { s with toks := s.toks + 1 }) :
    wpAny (model Challenge.rw_pq1449_01.row.prog w) A (call (.builtin "dict.get") [.ref d, .str k u, .str y u']) Q E s := by
  obtain ⟨o, kvs, hm, hd, lo, hT⟩ := T
  refine kdg_get2 N hm hd lo (strKind_is _ w k u) _ rfl ?_
  rcases hT k with ⟨v, t, e, et, hl⟩ | ⟨e, et⟩
  · rw [e]
    have := h t
    rw [et] at this
    exact this (by show v.length ≤ _; omega)
  · rw [e]
    have := h u'
    rw [et] at this
    exact this (by show y.length ≤ _; omega)
theorem TabIn.sub {w : World} {d : Addr} {tab : Str → Option Str} {news news' : List (Addr × Obj)} (T : TabIn w d tab news) (h : ∀ p ∈ news, p ∈ news') : TabIn w d tab news' := by
  obtain ⟨o, kvs, hm, r⟩ := T
  exact ⟨o, kvs, h _ hm, r⟩
theorem TabIn.methodN {w : World} {A : Around} {E : Value → Shared → Prop} {s : Shared} {h₀ : Heap} {L d : Addr} {news news' : List (Addr × Obj)} {tab : Str → Option Str} {pl : Sem Bool} {Q : Value × List Value → Shared → Prop} (N : News h₀ L s.heap news') (T : TabIn w d tab news) (hs : ∀ p ∈ news, p ∈ news') (h : Q (.builtin "dict.get", [.ref d]) s) :
    wpAny (model Challenge.rw_pq1449_01.row.prog w) A (getMethod (.ref d) "get" pl) Q E s := (T.sub hs).method N h
theorem TabIn.getN {w : World} {A : Around} {E : Value → Shared → Prop} {s : Shared} {h₀ : Heap} {L d : Addr} {news news' : List (Addr × Obj)} {tab : Str → Option Str} {k y : Str} {u u' : Tok} {Q : Value → Shared → Prop} (N : News h₀ L s.heap news') (T : TabIn w d tab news) (hs : ∀ p ∈ news, p ∈ news')
    (h : ∀ t, ((tab k).getD y).length ≤ 8 + y.length → Q (.str ((tab k).getD y) t) { s with toks := s.toks + 1 }) :
    wpAny (model Challenge.rw_pq1449_01.row.prog w) A (call (.builtin "dict.get") [.ref d, .str k u, .str y u']) Q E s := (T.sub hs).get N h
def qNext (c q : Str) : Str :=
  if (([Str.ofString "'", Str.ofString "\""].any fun y => y == c) && ([Str.ofString "", c].any fun y => y == q)) = true then (if (q == c) = true then Str.ofString "" else c) else q
def keepS (c q : Str) : Str := if ((c != Str.ofString "&") || (q != Str.ofString "")) = true then c else Str.empty
/-- the text's rest, as the loop makes it -/
def putF (tab : Str → Option Str) : Nat → Str → Int → Str → Str
  | 0, _, _, _ => Str.empty
  | n + 1, x, i, q =>
    if i < (x.length : Int) then
      (if (q == Str.ofString "") = true ∧ i < atomI x i then (tab (capS (Txt.slice x (some i) (some (atomI x i))))).getD (Txt.slice x (some i) (some (atomI x i))) ++ putF tab n x (atomI x i) q
      else keepS (Txt.item x i) (qNext (Txt.item x i) q) ++ putF tab n x (i + 1) (qNext (Txt.item x i) q))
    else Str.empty
def PutRest (tab : Str → Option Str) (x : Str) (f : Str) (i : Int) (q : Str) : Prop :=
  ∃ n : Nat, (x.length : Int) - i ≤ n ∧ f ++ putF tab n x i q = putF tab x.length x 0 (Str.ofString "")
theorem put_end {tab : Str → Option Str} {x f q : Str} {i : Int} (h : PutRest tab x f i q) (hi : ¬ i < (x.length : Int)) : f = putF tab x.length x 0 (Str.ofString "") := by
  obtain ⟨n, _, e⟩ := h
  have z : putF tab n x i q = Str.empty := by cases n <;> simp only [putF, if_neg hi]
  rw [← e, z]
  cases f; show _ = Str.mk (_ ++ #[]); simp
theorem slice_len {x : Str} {i j : Int} (h0 : 0 ≤ i) (h1 : i ≤ j) : ((Txt.slice x (some i) (some j)).length : Int) ≤ j - i := by
  rw [slice_at h0 h1]
  show ((List.take _ _).toArray.size : Int) ≤ _
  rw [List.size_toArray, List.length_take]
  omega
theorem slice_none {x : Str} {i j : Int} (h0 : 0 ≤ i) (h1 : i ≤ j) (h : (x.length : Int) ≤ i) : Txt.slice x (some i) (some j) = ⟨#[]⟩ := by
  rw [slice_at h0 h1, drop_none h, List.take_nil]
theorem atom_le {x : Str} {i : Int} (h0 : 0 ≤ i) (h : i < (x.length : Int)) : atomI x i ≤ x.length := by
  have e1 : endI x i ≤ x.length := by
    unfold endI
    split
    · exact run_le (by omega) (by omega)
    · exact run_le h0 (by omega)
  have e0 : 0 ≤ endI x i := by
    unfold endI
    split
    · exact Int.le_trans (by omega) (run_ge x _)
    · exact Int.le_trans h0 (run_ge x _)
  unfold atomI
  split
  · split
    · rename_i _ hq
      rcases Int.lt_or_le (endI x i) x.length with h2 | h2
      · omega
      · rw [slice_none e0 (by omega) h2] at hq
        exact absurd hq (by decide +kernel)
    · exact e1
  · exact e1
theorem str_assoc (a b c : Str) : a ++ b ++ c = a ++ (b ++ c) := by
  cases a; cases b; cases c
  show Str.mk (_ ++ _ ++ _) = Str.mk (_ ++ (_ ++ _))
  rw [Array.append_assoc]
theorem str_len (a b : Str) : (a ++ b).length = a.length + b.length := by
  cases a; cases b
  show (_ ++ _ : Array Nat).size = _
  rw [Array.size_append]; rfl
theorem put_go {tab : Str → Option Str} {x f q : Str} {i : Int} (h : PutRest tab x f i q) (hi : i < (x.length : Int)) : ∃ k : Nat, (x.length : Int) - (i + 1) ≤ k ∧ f ++ putF tab (k + 1) x i q = putF tab x.length x 0 (Str.ofString "") := by
  obtain ⟨n, hn, e⟩ := h
  cases n with
  | zero => omega
  | succ k => exact ⟨k, by omega, e⟩
theorem put_atom {tab : Str → Option Str} {x f q : Str} {i : Int} (h : PutRest tab x f i q) (hx : x.length ≤ 2 ^ 16) (h0 : 0 ≤ i) (hi : i < (x.length : Int)) (hf : (f.length : Int) ≤ 16 * i) (hq : (q == Str.ofString "") = true) (ha : i < atomI x i) (hql : q.length ≤ 1)
    (hl : ((tab (capS (Txt.slice x (some i) (some (atomI x i))))).getD (Txt.slice x (some i) (some (atomI x i)))).length ≤ 8 + (Txt.slice x (some i) (some (atomI x i))).length) :
    0 ≤ atomI x i ∧ atomI x i ≤ (x.length : Int) ∧ ((f ++ (tab (capS (Txt.slice x (some i) (some (atomI x i))))).getD (Txt.slice x (some i) (some (atomI x i)))).length : Int) ≤ 16 * atomI x i ∧ q.length ≤ 1 ∧
      PutRest tab x (f ++ (tab (capS (Txt.slice x (some i) (some (atomI x i))))).getD (Txt.slice x (some i) (some (atomI x i)))) (atomI x i) q := by
  have hs := slice_len (x := x) h0 (Int.le_of_lt ha)
  refine ⟨by omega, atom_le h0 hi, ?_, hql, ?_⟩
  · rw [str_len]; omega
  · obtain ⟨k, hk, e⟩ := put_go h hi
    refine ⟨k, by omega, ?_⟩
    rw [← e, putF, if_pos hi, if_pos ⟨hq, ha⟩, str_assoc]
theorem keep_len (c q : Str) : (keepS c q).length ≤ c.length := by
  unfold keepS; split
  · exact Nat.le_refl _
  · exact Nat.zero_le _
theorem item_len (x : Str) (i : Int) : (Txt.item x i).length = 1 := rfl
theorem qnext_len {x q : Str} {i : Int} (h : q.length ≤ 1) : (qNext (Txt.item x i) q).length ≤ 1 := by
  unfold qNext
  split
  · split
    · decide +kernel
    · exact Nat.le_of_eq (item_len x i)
  · exact h
theorem put_sign {tab : Str → Option Str} {x f q f' q' : Str} {i : Int} (h : PutRest tab x f i q) (h0 : 0 ≤ i) (hi : i < (x.length : Int)) (hf : (f.length : Int) ≤ 16 * i) (hql : q.length ≤ 1)
    (hn : ¬ ((q == Str.ofString "") = true ∧ i < atomI x i)) (hq : qNext (Txt.item x i) q = q') (hk : f ++ keepS (Txt.item x i) q' = f') :
    0 ≤ i + 1 ∧ i + 1 ≤ (x.length : Int) ∧ (f'.length : Int) ≤ 16 * (i + 1) ∧ q'.length ≤ 1 ∧ PutRest tab x f' (i + 1) q' := by
  subst hq
  subst hk
  have h1 := keep_len (Txt.item x i) (qNext (Txt.item x i) q)
  have h2 := item_len x i
  refine ⟨by omega, by omega, ?_, qnext_len hql, ?_⟩
  · rw [str_len]; omega
  · obtain ⟨k, hk, e⟩ := put_go h hi
    refine ⟨k, by omega, ?_⟩
    rw [← e, putF, if_pos hi, if_neg hn, str_assoc]
theorem nh1 {i a : Int} {p : Prop} (h : ¬ i < a) : ¬ (p ∧ i < a) := fun q => h q.2
theorem nh2 {b : Bool} {p : Prop} (h : b = false) : ¬ (b = true ∧ p) := fun q => by rw [h] at q; exact absurd q.1 Bool.false_ne_true
section
variable {c q q' f : Str}
theorem qn1 (h1 : ([Str.ofString "'", Str.ofString "\""].any fun y => y == c) = true) (h2 : ([Str.ofString "", c].any fun y => y == q) = true) (h3 : (q == c) = true) : qNext c q = Str.ofString "" := by
  unfold qNext; rw [h1, h2, h3]; rfl
theorem qn2 (h1 : ([Str.ofString "'", Str.ofString "\""].any fun y => y == c) = true) (h2 : ([Str.ofString "", c].any fun y => y == q) = true) (h3 : (q == c) = false) : qNext c q = c := by
  unfold qNext; rw [h1, h2, h3]; rfl
theorem qn3 (h1 : ([Str.ofString "'", Str.ofString "\""].any fun y => y == c) = false) : qNext c q = q := by
  unfold qNext; rw [h1]; rfl
theorem qn4 (h1 : ([Str.ofString "'", Str.ofString "\""].any fun y => y == c) = true) (h2 : ([Str.ofString "", c].any fun y => y == q) = false) : qNext c q = q := by
  unfold qNext; rw [h1, h2]; rfl
theorem ks1 (h : (c != Str.ofString "&") = true) : f ++ keepS c q' = f ++ c := by unfold keepS; rw [h]; rfl
theorem ks2 (h : (c != Str.ofString "&") = false) (h2 : (q' != Str.ofString "") = true) : f ++ keepS c q' = f ++ c := by unfold keepS; rw [h, h2]; rfl
theorem ks3 (h : (c != Str.ofString "&") = false) (h2 : (q' != Str.ofString "") = false) : f ++ keepS c q' = f := by
  unfold keepS; rw [h, h2]; cases f; show Str.mk (_ ++ #[]) = _; simp
end
theorem o_e : Str.ofString "" = Str.empty := by decide +kernel
theorem e_app (x : Str) : Str.empty ++ x = x := by
  cases x; show Str.mk (#[] ++ _) = _; simp
theorem app_e (x : Str) : x ++ Str.empty = x := by
  cases x; show Str.mk (_ ++ #[]) = _; simp
theorem put_start (tab : Str → Option Str) (x : Str) : (0 : Int) ≤ 0 ∧ (0 : Int) ≤ (x.length : Int) ∧ ((Str.ofString "").length : Int) ≤ 16 * 0 ∧ (Str.ofString "").length ≤ 1 ∧ PutRest tab x (Str.ofString "") 0 (Str.ofString "") :=
  ⟨by omega, by omega, by decide, by decide, x.length, by omega, by rw [o_e, e_app]⟩
theorem sub0 {α : Type} {X : List α} : ∀ p ∈ X, p ∈ X := fun _ h => h
theorem sub1 {α : Type} {X Y : List α} {a : α} (h : ∀ p ∈ X, p ∈ Y) : ∀ p ∈ X, p ∈ a :: Y := fun p hp => .tail _ (h p hp)
theorem c_put (w mean mg mb) (x : Str) (t : Tok) (d : Addr) (tab : Str → Option Str) (hx : x.length ≤ 2 ^ 16) : CN w mean mg mb 9 80 82 [.str x t, .ref d] (TabIn w d tab) (fun t => .str (putF tab x.length x 0 (Str.ofString "")) t) := by
  k_with_none
  k_with "m_N" => first | k_asm | (refine cb_drop (by assumption) ?_; kcj_all)
  k_with "m_inN" => (w_top off; dsimp only [CN]; k_fill; intros; rename_i hpre hret; refine wpAny_call ?_; k_dflt cell_enter)
  k_with "m_retS" => (refine cb_retS hret ?_ (by k_asm) (by k_extra "m_N"))
  k_with "m_sub" => first | exact sub0 | (refine sub1 ?_; k_extra "m_sub")
  k_with "getMethod ref" => (k_here; refine TabIn.methodN (by k_asm) (by assumption) (by kcj_all) ?_)
  k_with "call builtin:dict.get" => (k_here; refine TabIn.getN (by k_asm) (by assumption) (by kcj_all) ?_; intro _ _)
  k_with "call ref" => (k_here; (first | refine' (c_atom _ _ _ _ _ _ _ _ (by with_reducible assumption) (by with_reducible assumption) (by with_reducible assumption)).use ?k1 ?k2 ?k3 ?k4 ?k5 ?kK ?kd ?ku ?_ | refine' (c_cap _ _ _ _ _ _ (by first | with_reducible assumption | exact slice_small _ _ _ (by with_reducible assumption))).use ?k1 ?k2 ?k3 ?k4 ?k5 ?kK ?kd ?ku ?_); (case k1 => k_asm); (case k2 => k_asm); (case k3 => k_asm); (case k4 => k_asm); (case k5 => k_asm); (case kK => first | exact rfl | assumption); (case kd => exact room_le (by with_reducible assumption) (by with_unfolding_all rfl) (by decide)); (case ku => exact units_le (by with_reducible assumption) (by with_unfolding_all rfl) (by decide)); intro t9 h9 tk9 F9 N9; (try dsimp only); (try k_fold))
  k_extra "m_inN"
  k_with "exec While Compare cons nil" => k_while (fun _ f i q => 0 ≤ i ∧ i ≤ (x.length : Int) ∧ (f.length : Int) ≤ 16 * i ∧ q.length ≤ 1 ∧ PutRest tab x f i q) (fun _ f i q => ((x.length : Int) - i).toNat) "found" "at" "quote"
  k_with "state" => first
    | exact put_start tab x
    | exact put_atom (by with_reducible assumption) (by with_reducible assumption) (by with_reducible assumption) (by with_reducible assumption) (by with_reducible assumption) (by with_reducible assumption) (by with_reducible assumption) (by with_reducible assumption) (by with_reducible assumption)
    | exact put_sign (by with_reducible assumption) (by with_reducible assumption) (by with_reducible assumption) (by with_reducible assumption) (by with_reducible assumption) (by first | exact nh1 (by with_reducible assumption) | exact nh2 (by with_reducible assumption)) (by first | exact qn1 (by with_reducible assumption) (by with_reducible assumption) (by with_reducible assumption) | exact qn2 (by with_reducible assumption) (by with_reducible assumption) (by with_reducible assumption) | exact qn3 (by with_reducible assumption) | exact qn4 (by with_reducible assumption) (by with_reducible assumption)) (by first | exact ks1 (by with_reducible assumption) | exact ks2 (by with_reducible assumption) (by with_reducible assumption) | exact ks3 (by with_reducible assumption) (by first | with_reducible assumption | decide +kernel))
  k_steps
  all_goals k_extra "m_retS"
  all_goals exact put_end (by assumption) (by assumption)
end
section
open PySem PySem.W PyProof PyProof.Rows PySem.Calls
set_option Elab.async false
set_option maxRecDepth 100000
set_option maxHeartbeats 8000000
set_option pp.deepTerms false
set_option pp.maxSteps 30000
set_option linter.unusedSimpArgs false
set_option linter.unusedVariables false
/-- as CP, of a call that hands back a new list of texts -/
abbrev CL (w : World) (mean : ExcName → Option Value) (mg mb : Str → Option Value) (D U : Nat) (f : Addr) (vs : List Value) (out : List Str) : Prop :=
  ∀ (dp un : Nat) (gd : Option (List Code)) (cn : Str) (cs : Scope) (a : Addr) (ccd : Value) (cl : List (Str × Addr)) (outer : List Env) (A₀ : Around) (base h₀ : Heap) (L : Addr) (m : Str → Option Value) (news : List (Addr × Obj)) (s : Shared) (Q E : Value → Shared → Prop),
    Below A₀ base outer h₀ → Fr h₀ L s.heap m → (hd.heap_39 w.params).In h₀ → News h₀ L s.heap news → Top hd.view_39 (looseW hd.view_39 []) mean mg mb h₀ → cs.kind = .function →
    dp + D < recursionLimit → un + U < cLine →
    (∀ (l : Addr) (ys : List Value) (k : Nat) (h' : Heap) (tk' : Nat), StrsAre ys out → Fr h₀ L h' m → News h₀ L h' ((l, listOf ys.toArray k) :: news) → (∀ p ∈ news, p.1 < l) → Q (.ref l) { s with heap := h', toks := tk' }) →
      wpAny (model Challenge.rw_pq1449_01.row.prog w) (ktrTop dp un gd cn cs L a ccd cl outer) (call (.ref f) vs) Q E s
theorem CL.use {w : World} {mean : ExcName → Option Value} {mg mb : Str → Option Value} {D U : Nat} {f : Addr} {vs : List Value} {out : List Str} (C : CL w mean mg mb D U f vs out)
    {dp un : Nat} {gd : Option (List Code)} {cn : Str} {cs : Scope} {a : Addr} {ccd : Value} {cl : List (Str × Addr)} {outer : List Env} {A₀ : Around} {base h₀ : Heap} {L : Addr} {m : Str → Option Value} {news : List (Addr × Obj)} {s : Shared} {Q E : Value → Shared → Prop}
    (B : Below A₀ base outer h₀) (F : Fr h₀ L s.heap m) (X : (hd.heap_39 w.params).In h₀) (N : News h₀ L s.heap news) (T : Top hd.view_39 (looseW hd.view_39 []) mean mg mb h₀) (hk : cs.kind = .function)
    (hd : dp + D < recursionLimit) (hu : un + U < cLine)
    (h : ∀ (l : Addr) (ys : List Value) (k : Nat) (h' : Heap) (tk' : Nat), StrsAre ys out → Fr h₀ L h' m → News h₀ L h' ((l, listOf ys.toArray k) :: news) → (∀ p ∈ news, p.1 < l) → Q (.ref l) { s with heap := h', toks := tk' }) :
    wpAny (model Challenge.rw_pq1449_01.row.prog w) (ktrTop dp un gd cn cs L a ccd cl outer) (call (.ref f) vs) Q E s := C _ _ _ _ _ _ _ _ _ _ _ _ _ _ _ _ _ _ B F X N T hk hd hu h
section
open PySem.Spec
theorem tx_canLay : ∀ ss : List Str, (∀ y ∈ ss, PyData.strOk y = true) → PyData.canLayAll0 (ss.map PyData.str) = true
  | [], _ => rfl
  | a :: r, h => by
    simp only [List.map_cons, PyData.canLayAll0, PyData.canLay0, tx_canLay r (fun y hy => h y (.tail _ hy)), h a (.head _), Bool.and_self]
theorem tx_depth : ∀ ss : List Str, PyData.depthAll (ss.map PyData.str) = 0
  | [] => rfl
  | _ :: r => by simp [PyData.depthAll, PyData.depth, tx_depth r]
theorem tx_shaped (ss : List Str) (h : ∀ y ∈ ss, PyData.strOk y = true) : SeqAt.shaped (.list (ss.map PyData.str)) = true := by
  simp [SeqAt.shaped, PyData.canLay0, PyData.depth, tx_canLay ss h, tx_depth]
theorem tx_sameAll : ∀ ns ms : List Str, PySem.Spec.sameAll (ns.map PyData.str) (ms.map PyData.str) = decide (ns = ms)
  | [], [] => by simp [PySem.Spec.sameAll]
  | [], _ :: _ => by simp [PySem.Spec.sameAll]
  | _ :: _, [] => by simp [PySem.Spec.sameAll]
  | a :: r, b :: t => by
    simp only [List.map_cons, PySem.Spec.sameAll, PySem.Spec.same, tx_sameAll r t]
    by_cases h : a = b <;> by_cases h' : r = t <;> simp [h, h']
theorem tx_same (ns ms : List Str) : PySem.Spec.same (.list (ns.map PyData.str)) (.list (ms.map PyData.str)) = decide (ns = ms) := by
  simp only [PySem.Spec.same]; exact tx_sameAll ns ms
variable {prog : Program} {w : World} {A : Around} {E : Value → Shared → Prop} {s : Shared} {a b : Addr} {xs ys : Array Value} {j k : Nat} {ns ms : List Str} {Q : Value → Shared → Prop} {h₀ : Heap} {L : Addr} {news : List (Addr × Obj)}
theorem eq_texts (N : News h₀ L s.heap news) (ha : (a, listOf xs j) ∈ news) (hb : (b, listOf ys k) ∈ news) (hi : StrsAre xs.toList ns) (hj : StrsAre ys.toList ms) (oi : ∀ y ∈ ns, PyData.strOk y = true) (oj : ∀ y ∈ ms, PyData.strOk y = true) (hu : A.units + 64 < cLine) (h : Q (.bool (decide (ns = ms))) s) :
    wpAny (model prog w) A (compareOp .Eq (.ref a) (.ref b)) Q E s :=
  eq_dataH_same (reads_newData ⟨_, (N _ ha).1, rfl, _, rfl⟩ hi.carried) (reads_newData ⟨_, (N _ hb).1, rfl, _, rfl⟩ hj.carried) (tx_shaped _ oi) (tx_shaped _ oj) hu (SeqAt.noMix_of_shape (.list .str) rfl _ _ (list_map_has fun _ => rfl) (list_map_has fun _ => rfl)) (by rw [tx_same]; exact h)
theorem ne_texts (N : News h₀ L s.heap news) (ha : (a, listOf xs j) ∈ news) (hb : (b, listOf ys k) ∈ news) (hi : StrsAre xs.toList ns) (hj : StrsAre ys.toList ms) (oi : ∀ y ∈ ns, PyData.strOk y = true) (oj : ∀ y ∈ ms, PyData.strOk y = true) (hu : A.units + 64 < cLine) (h : Q (.bool (!decide (ns = ms))) s) :
    wpAny (model prog w) A (compareOp .NotEq (.ref a) (.ref b)) Q E s :=
  ne_dataH_same (reads_newData ⟨_, (N _ ha).1, rfl, _, rfl⟩ hi.carried) (reads_newData ⟨_, (N _ hb).1, rfl, _, rfl⟩ hj.carried) (tx_shaped _ oi) (tx_shaped _ oj) hu (SeqAt.noMix_of_shape (.list .str) rfl _ _ (list_map_has fun _ => rfl) (list_map_has fun _ => rfl)) (by rw [tx_same]; exact h)
end
theorem tx_push {l : List Value} {ss : List Str} {y : Str} {t : Tok} (h : StrsAre l ss) : StrsAre (l.toArray.push (.str y t)).toList (ss ++ [y]) := by
  rw [Array.toList_push]; exact StrsAre.append' h (.cons _ _ .nil)
theorem tx_one {y : Str} {t : Tok} : StrsAre (#[.str y t] : Array Value).toList [y] := .cons _ _ .nil
def qStep (c q : Str) : Str :=
  if (q != Str.ofString "") = true then (if (c == q) = true then Str.ofString "" else q)
  else if (c == Str.ofString ";") = true then q
  else if ([Str.ofString "'", Str.ofString "\""].any fun y => y == c) = true then c else q
def dStep (c q : Str) (dep : Int) : Int :=
  if (q != Str.ofString "") = true then dep
  else if (c == Str.ofString ";") = true then dep
  else if ([Str.ofString "'", Str.ofString "\""].any fun y => y == c) = true then dep
  else if (c == Str.ofString "(") = true then dep + 1
  else if (c == Str.ofString ")") = true then dep - 1 else dep
/-- the text's rest, as the loop cuts it -/
def splF : Nat → Str → Int → Str → Int → Str → List Str
  | 0, _, _, here, _, _ => [Txt.strip here]
  | n + 1, x, i, here, dep, q =>
    if i < (x.length : Int) then
      (if (q == Str.ofString "") = true ∧ i < atomI x i then splF n x (atomI x i) (here ++ Txt.slice x (some i) (some (atomI x i))) dep q
      else if (q == Str.ofString "") = true ∧ (Txt.item x i == Str.ofString ";") = true then [Txt.strip here]
      else if (Txt.item x i == Str.ofString ",") = true ∧ dStep (Txt.item x i) q dep = 0 ∧ (qStep (Txt.item x i) q == Str.ofString "") = true then
        Txt.strip here :: splF n x (i + 1) (Str.ofString "") (dStep (Txt.item x i) q dep) (qStep (Txt.item x i) q)
      else splF n x (i + 1) (here ++ Txt.item x i) (dStep (Txt.item x i) q dep) (qStep (Txt.item x i) q))
    else [Txt.strip here]
def SplRest (x : Str) (found : List Str) (here : Str) (dep : Int) (q : Str) (i : Int) : Prop :=
  ∃ n : Nat, (x.length : Int) - i ≤ n ∧ found ++ splF n x i here dep q = splF x.length x 0 (Str.ofString "") 0 (Str.ofString "")
def splitS (x : Str) : List Str := if splF x.length x 0 (Str.ofString "") 0 (Str.ofString "") = [Str.ofString ""] then [] else splF x.length x 0 (Str.ofString "") 0 (Str.ofString "")
section
variable {x : Str} {found : List Str} {here q q' : Str} {dep dep' i : Int}
theorem spl_go (h : SplRest x found here dep q i) (hi : i < (x.length : Int)) : ∃ k : Nat, (x.length : Int) - (i + 1) ≤ k ∧ found ++ splF (k + 1) x i here dep q = splF x.length x 0 (Str.ofString "") 0 (Str.ofString "") := by
  obtain ⟨n, hn, e⟩ := h
  cases n with
  | zero => omega
  | succ k => exact ⟨k, by omega, e⟩
theorem spl_start (x : Str) : (0 : Int) ≤ 0 ∧ (0 : Int) ≤ (x.length : Int) ∧ (([] : List Str).length : Int) ≤ 0 ∧ ((Str.ofString "").length : Int) ≤ 0 ∧ -(0 : Int) ≤ 0 ∧ (0 : Int) ≤ 0 ∧ (Str.ofString "").length ≤ 1 ∧ SplRest x [] (Str.ofString "") 0 (Str.ofString "") 0 :=
  ⟨by omega, by omega, by simp, by decide, by omega, by omega, by decide, x.length, by omega, rfl⟩
theorem spl_end (h : SplRest x found here dep q i) (hi : ¬ i < (x.length : Int)) : found ++ [Txt.strip here] = splF x.length x 0 (Str.ofString "") 0 (Str.ofString "") := by
  obtain ⟨n, _, e⟩ := h
  rw [← e]
  cases n <;> simp only [splF, if_neg hi]
theorem spl_brk (h : SplRest x found here dep q i) (hi : i < (x.length : Int)) (hn : ¬ ((q == Str.ofString "") = true ∧ i < atomI x i)) (hq : (q == Str.ofString "") = true) (hs : (Txt.item x i == Str.ofString ";") = true) : found ++ [Txt.strip here] = splF x.length x 0 (Str.ofString "") 0 (Str.ofString "") := by
  obtain ⟨k, _, e⟩ := spl_go h hi
  rw [← e, splF, if_pos hi, if_neg hn, if_pos ⟨hq, hs⟩]
theorem spl_ok1 (h : SplRest x found here dep q i) (hi : ¬ i < (x.length : Int)) (hok : ∀ y ∈ splF x.length x 0 (Str.ofString "") 0 (Str.ofString ""), PyData.strOk y = true) : ∀ y ∈ found ++ [Txt.strip here], PyData.strOk y = true := by
  rw [spl_end h hi]; exact hok
theorem nq (h : (q != Str.ofString "") = false) : (q == Str.ofString "") = true := by simpa using h
theorem spl_ok2 (h : SplRest x found here dep q i) (hi : i < (x.length : Int)) (hn : ¬ ((q == Str.ofString "") = true ∧ i < atomI x i)) (hq : (q == Str.ofString "") = true) (hs : (Txt.item x i == Str.ofString ";") = true) (hok : ∀ y ∈ splF x.length x 0 (Str.ofString "") 0 (Str.ofString ""), PyData.strOk y = true) : ∀ y ∈ found ++ [Txt.strip here], PyData.strOk y = true := by
  rw [spl_brk h hi hn hq hs]; exact hok
theorem spl_atom (h : SplRest x found here dep q i) (h0 : 0 ≤ i) (hi : i < (x.length : Int)) (hf : (found.length : Int) ≤ i) (hh : (here.length : Int) ≤ i) (hd : -i ≤ dep) (hd' : dep ≤ i) (hql : q.length ≤ 1) (hq : (q == Str.ofString "") = true) (ha : i < atomI x i) :
    0 ≤ atomI x i ∧ atomI x i ≤ (x.length : Int) ∧ (found.length : Int) ≤ atomI x i ∧ ((here ++ Txt.slice x (some i) (some (atomI x i))).length : Int) ≤ atomI x i ∧ -(atomI x i) ≤ dep ∧ dep ≤ atomI x i ∧ q.length ≤ 1 ∧ SplRest x found (here ++ Txt.slice x (some i) (some (atomI x i))) dep q (atomI x i) := by
  have hs := slice_len (x := x) h0 (Int.le_of_lt ha)
  refine ⟨by omega, atom_le h0 hi, by omega, ?_, by omega, by omega, hql, ?_⟩
  · rw [str_len]; omega
  · obtain ⟨k, hk, e⟩ := spl_go h hi
    refine ⟨k, by omega, ?_⟩
    rw [← e, splF, if_pos hi, if_pos ⟨hq, ha⟩]
theorem d_lo (c q : Str) (dep : Int) : dep - 1 ≤ dStep c q dep ∧ dStep c q dep ≤ dep + 1 := by
  unfold dStep
  (repeat' split) <;> omega
theorem qs_len (h : q.length ≤ 1) : (qStep (Txt.item x i) q).length ≤ 1 := by
  unfold qStep
  (repeat' split) <;> first | exact h | decide | exact Nat.le_of_eq (item_len x i)
variable {c : Str}
theorem nb1 (h : (q == Str.ofString "") = false) : ¬ ((q == Str.ofString "") = true ∧ (c == Str.ofString ";") = true) := by rw [h]; simp
theorem nb2 (h : (c == Str.ofString ";") = false) : ¬ ((q == Str.ofString "") = true ∧ (c == Str.ofString ";") = true) := by rw [h]; simp
theorem nb3 (h : (q != Str.ofString "") = true) : ¬ ((q == Str.ofString "") = true ∧ (c == Str.ofString ";") = true) := by
  have : (q == Str.ofString "") = false := by simpa using h
  rw [this]; simp
theorem sq1 (h : (q != Str.ofString "") = true) (h2 : (c == q) = true) : qStep c q = Str.ofString "" := by unfold qStep; rw [if_pos h, if_pos h2]
theorem sq2 (h : (q != Str.ofString "") = true) (h2 : (c == q) = false) : qStep c q = q := by unfold qStep; rw [if_pos h, h2]; rfl
theorem sq3 (h : (q != Str.ofString "") = false) (h2 : (c == Str.ofString ";") = false) (h3 : ([Str.ofString "'", Str.ofString "\""].any fun y => y == c) = true) : qStep c q = c := by unfold qStep; rw [h, h2, h3]; rfl
theorem sq4 (h : (q != Str.ofString "") = false) (h2 : (c == Str.ofString ";") = false) (h3 : ([Str.ofString "'", Str.ofString "\""].any fun y => y == c) = false) : qStep c q = q := by unfold qStep; rw [h, h2, h3]; rfl
theorem sd1 (h : (q != Str.ofString "") = true) : dStep c q dep = dep := by unfold dStep; rw [if_pos h]
theorem sd2 (h : (q != Str.ofString "") = false) (h2 : (c == Str.ofString ";") = false) (h3 : ([Str.ofString "'", Str.ofString "\""].any fun y => y == c) = true) : dStep c q dep = dep := by unfold dStep; rw [h, h2, h3]; rfl
theorem sd3 (h : (q != Str.ofString "") = false) (h2 : (c == Str.ofString ";") = false) (h3 : ([Str.ofString "'", Str.ofString "\""].any fun y => y == c) = false) (h4 : (c == Str.ofString "(") = true) : dStep c q dep = dep + 1 := by unfold dStep; rw [h, h2, h3, h4]; rfl
theorem sd4 (h : (q != Str.ofString "") = false) (h2 : (c == Str.ofString ";") = false) (h3 : ([Str.ofString "'", Str.ofString "\""].any fun y => y == c) = false) (h4 : (c == Str.ofString "(") = false) (h5 : (c == Str.ofString ")") = true) : dStep c q dep = dep - 1 := by unfold dStep; rw [h, h2, h3, h4, h5]; rfl
theorem sd5 (h : (q != Str.ofString "") = false) (h2 : (c == Str.ofString ";") = false) (h3 : ([Str.ofString "'", Str.ofString "\""].any fun y => y == c) = false) (h4 : (c == Str.ofString "(") = false) (h5 : (c == Str.ofString ")") = false) : dStep c q dep = dep := by unfold dStep; rw [h, h2, h3, h4, h5]; rfl
theorem spl_cut (h : SplRest x found here dep q i) (h0 : 0 ≤ i) (hi : i < (x.length : Int)) (hf : (found.length : Int) ≤ i) (hh : (here.length : Int) ≤ i) (hd : -i ≤ dep) (hd' : dep ≤ i) (hql : q.length ≤ 1)
    (hn : ¬ ((q == Str.ofString "") = true ∧ i < atomI x i)) (hb : ¬ ((q == Str.ofString "") = true ∧ (Txt.item x i == Str.ofString ";") = true)) (eq : qStep (Txt.item x i) q = q') (ed : dStep (Txt.item x i) q dep = dep')
    (h1 : (Txt.item x i == Str.ofString ",") = true) (h2 : dep' = 0) (h3 : (q' == Str.ofString "") = true) :
    0 ≤ i + 1 ∧ i + 1 ≤ (x.length : Int) ∧ ((found ++ [Txt.strip here]).length : Int) ≤ i + 1 ∧ ((Str.ofString "").length : Int) ≤ i + 1 ∧ -(i + 1) ≤ dep' ∧ dep' ≤ i + 1 ∧ q'.length ≤ 1 ∧ SplRest x (found ++ [Txt.strip here]) (Str.ofString "") dep' q' (i + 1) := by
  subst eq
  subst ed
  have hb' := d_lo (Txt.item x i) q dep
  have hz : (Str.ofString "").length = 0 := by decide
  refine ⟨by omega, by omega, ?_, by omega, by omega, by omega, qs_len hql, ?_⟩
  · rw [List.length_append, List.length_singleton]; omega
  · obtain ⟨k, hk, e⟩ := spl_go h hi
    refine ⟨k, by omega, ?_⟩
    rw [← e, splF, if_pos hi, if_neg hn, if_neg hb, if_pos ⟨h1, h2, h3⟩, List.append_assoc]
    rfl
theorem nc1 {p r : Prop} (h : (c == Str.ofString ",") = false) : ¬ ((c == Str.ofString ",") = true ∧ p ∧ r) := by rw [h]; simp
theorem nc2 {p r : Prop} (h : ¬ dep' = 0) : ¬ (p ∧ dep' = 0 ∧ r) := fun q => h q.2.1
theorem nc3 {p r : Prop} (h : (q' == Str.ofString "") = false) : ¬ (p ∧ r ∧ (q' == Str.ofString "") = true) := by rw [h]; simp
theorem spl_sign (h : SplRest x found here dep q i) (h0 : 0 ≤ i) (hi : i < (x.length : Int)) (hf : (found.length : Int) ≤ i) (hh : (here.length : Int) ≤ i) (hd : -i ≤ dep) (hd' : dep ≤ i) (hql : q.length ≤ 1)
    (hn : ¬ ((q == Str.ofString "") = true ∧ i < atomI x i)) (hb : ¬ ((q == Str.ofString "") = true ∧ (Txt.item x i == Str.ofString ";") = true)) (eq : qStep (Txt.item x i) q = q') (ed : dStep (Txt.item x i) q dep = dep')
    (hc : ¬ ((Txt.item x i == Str.ofString ",") = true ∧ dep' = 0 ∧ (q' == Str.ofString "") = true)) :
    0 ≤ i + 1 ∧ i + 1 ≤ (x.length : Int) ∧ (found.length : Int) ≤ i + 1 ∧ ((here ++ Txt.item x i).length : Int) ≤ i + 1 ∧ -(i + 1) ≤ dep' ∧ dep' ≤ i + 1 ∧ q'.length ≤ 1 ∧ SplRest x found (here ++ Txt.item x i) dep' q' (i + 1) := by
  subst eq
  subst ed
  have hb' := d_lo (Txt.item x i) q dep
  have h2 := item_len x i
  refine ⟨by omega, by omega, by omega, ?_, by omega, by omega, qs_len hql, ?_⟩
  · rw [str_len]; omega
  · obtain ⟨k, hk, e⟩ := spl_go h hi
    refine ⟨k, by omega, ?_⟩
    rw [← e, splF, if_pos hi, if_neg hn, if_neg hb, if_neg hc]
end
theorem spl_fin0 {x : Str} {ss : List Str} (e : ss = splF x.length x 0 (Str.ofString "") 0 (Str.ofString "")) (h : ss = [Str.ofString ""]) : StrsAre (#[] : Array Value).toList (splitS x) := by
  unfold splitS; rw [if_pos (e ▸ h)]; exact .nil
theorem spl_fin1 {x : Str} {ss : List Str} {xs : Array Value} (e : ss = splF x.length x 0 (Str.ofString "") 0 (Str.ofString "")) (h : ¬ ss = [Str.ofString ""]) (hs : StrsAre xs.toList ss) : StrsAre xs.toList (splitS x) := by
  unfold splitS; rw [if_neg (fun q => h (e ▸ q)), ← e]; exact hs
theorem cl_ret {h₀ : Heap} {L : Addr} {m : Str → Option Value} {news big : List (Addr × Obj)} {s : Shared} {Q : Value → Shared → Prop} {out : List Str} {l : Addr} {xs : Array Value} {k : Nat} {h' : Heap} {tk' : Nat}
    (hret : ∀ (l : Addr) (ys : List Value) (k : Nat) (h' : Heap) (tk' : Nat), StrsAre ys out → Fr h₀ L h' m → News h₀ L h' ((l, listOf ys.toArray k) :: news) → (∀ p ∈ news, p.1 < l) → Q (.ref l) { s with heap := h', toks := tk' })
    (N : News h₀ L h' big) (hm : (l, listOf xs k) ∈ big) (hS : StrsAre xs.toList out) (F : Fr h₀ L h' m) (hsub : ∀ p ∈ news, p ∈ big) (hl : ∀ p ∈ news, p.1 < l) : Q (.ref l) { s with heap := h', toks := tk' } := by
  refine hret l xs.toList k h' tk' hS F (fun p hp => ?_) hl
  rcases List.mem_cons.mp hp with rfl | hp
  · exact N _ hm
  · exact N _ (hsub _ hp)
local macro_rules | `(tactic| kst_facts1) => `(tactic| first | exact StrsAre.nil | with_reducible assumption | exact StrsAre.append' (by with_reducible assumption) (.cons _ _ .nil))
theorem ne_kn1 {prog : Program} {w : World} {A : Around} {E : Value → Shared → Prop} {s : Shared} {x y : Str} {t u : Tok} {Q : Value → Shared → Prop} (h : (x == y) = true) (hQ : (x != y) = false → Q (.bool false) s) : wpAny (model prog w) A (compareOp .NotEq (.str x t) (.str y u)) Q E s := by
  have e : (x != y) = false := by simp [bne, h]
  exact PyProof.Rows.ne_str (by rw [e]; exact hQ e)
theorem ne_kn2 {prog : Program} {w : World} {A : Around} {E : Value → Shared → Prop} {s : Shared} {x y : Str} {t u : Tok} {Q : Value → Shared → Prop} (h : (x == y) = false) (hQ : (x != y) = true → Q (.bool true) s) : wpAny (model prog w) A (compareOp .NotEq (.str x t) (.str y u)) Q E s := by
  have e : (x != y) = true := by simp [bne, h]
  exact PyProof.Rows.ne_str (by rw [e]; exact hQ e)
theorem c_split (w mean mg mb) (x : Str) (t : Tok) (hx : x.length ≤ 2 ^ 16) (hok : ∀ y ∈ splF x.length x 0 (Str.ofString "") 0 (Str.ofString ""), PyData.strOk y = true) : CL w mean mg mb 9 80 68 [.str x t] (splitS x) := by
  k_with_none
  k_with "m_fin" => first | exact spl_end (by with_reducible assumption) (by with_reducible assumption) | exact spl_brk (by with_reducible assumption) (by with_reducible assumption) (by k_extra "m_na") (by first | with_reducible assumption | exact nq (by with_reducible assumption)) (by with_reducible assumption)
  k_with "m_inL" => (w_top off; dsimp only [CL]; k_fill; intros; rename_i hret; refine wpAny_call ?_; k_dflt cell_enter)
  k_with "m_lt" => first | with_reducible assumption | exact ktn_ltOf (by with_reducible assumption) | exact ktn_ltOf (And.right (by with_reducible assumption)) | exact ktn_ltOf (And.right (And.right (by with_reducible assumption))) | exact ktn_ltOf (And.right (And.right (And.right (by with_reducible assumption)))) | exact ktn_ltOf (And.right (And.right (And.right (And.right (by with_reducible assumption))))) | exact ktn_ltOf (And.right (And.right (And.right (And.right (And.right (by with_reducible assumption)))))) | exact ktn_ltOf (And.right (And.right (And.right (And.right (And.right (And.right (by with_reducible assumption))))))) | exact ktn_ltOf (And.right (And.right (And.right (And.right (And.right (And.right (And.right (by with_reducible assumption))))))))
  k_with "m_mem" => first | exact List.mem_cons_self | (refine List.mem_cons_of_mem _ ?_; k_extra "m_mem")
  k_with "m_na" => first | exact nh1 (by with_reducible assumption) | exact nh2 (by with_reducible assumption)
  k_with "m_nb" => first | exact nb2 (by with_reducible assumption) | exact nb1 (by with_reducible assumption) | exact nb3 (by with_reducible assumption)
  k_with "m_nc" => first | exact nc1 (by with_reducible assumption) | exact nc2 (by with_reducible assumption) | exact nc3 (by with_reducible assumption)
  k_with "m_sd" => first | exact sd1 (by with_reducible assumption) | exact sd2 (by with_reducible assumption) (by with_reducible assumption) (by with_reducible assumption) | exact sd3 (by with_reducible assumption) (by with_reducible assumption) (by with_reducible assumption) (by with_reducible assumption) | exact sd4 (by with_reducible assumption) (by with_reducible assumption) (by with_reducible assumption) (by with_reducible assumption) (by with_reducible assumption) | exact sd5 (by with_reducible assumption) (by with_reducible assumption) (by with_reducible assumption) (by with_reducible assumption) (by with_reducible assumption)
  k_with "m_sq" => first | exact sq1 (by with_reducible assumption) (by with_reducible assumption) | exact sq2 (by with_reducible assumption) (by with_reducible assumption) | exact sq3 (by with_reducible assumption) (by with_reducible assumption) (by with_reducible assumption) | exact sq4 (by with_reducible assumption) (by with_reducible assumption) (by with_reducible assumption)
  k_with "m_sub" => first | exact sub0 | (refine sub1 ?_; k_extra "m_sub")
  k_with "m_texts" => first | with_reducible assumption | exact tx_one | exact tx_push (by with_reducible assumption) | exact StrsAre.append' (by with_reducible assumption) (.cons _ _ .nil) | exact .cons _ _ (by k_extra "m_texts")
  k_with "compareOp NotEq str str" => (k_here; (with_reducible show wpAny _ _ (compareOp CmpOp.NotEq (Value.str _ _) (Value.str _ _)) _ _ _); (first | refine ne_kn1 (by with_reducible assumption) ?_ | refine ne_kn2 (by with_reducible assumption) ?_); intro _)
  k_with "compareOp Eq ref ref" => (k_here; (with_reducible show wpAny _ _ (compareOp CmpOp.Eq (Value.ref _) (Value.ref _)) _ _ _); refine eq_texts (by k_asm) (by k_extra "m_mem") (by k_extra "m_mem") (by k_extra "m_texts") (by k_extra "m_texts") (by first | exact spl_ok1 (by with_reducible assumption) (by with_reducible assumption) hok | exact spl_ok2 (by with_reducible assumption) (by with_reducible assumption) (by k_extra "m_na") (by first | with_reducible assumption | exact nq (by with_reducible assumption)) (by with_reducible assumption) hok) (by decide +kernel) (by ktr_units) ?_)
  k_with "call ref" => (k_here; (first | refine' (c_atom _ _ _ _ _ _ _ _ (by with_reducible assumption) (by with_reducible assumption) (by with_reducible assumption)).use ?k1 ?k2 ?k3 ?k4 ?k5 ?kK ?kd ?ku ?_); (case k1 => k_asm); (case k2 => k_asm); (case k3 => k_asm); (case k4 => k_asm); (case k5 => k_asm); (case kK => first | exact rfl | assumption); (case kd => exact room_le (by with_reducible assumption) (by with_unfolding_all rfl) (by decide)); (case ku => exact units_le (by with_reducible assumption) (by with_unfolding_all rfl) (by decide)); intro t9 h9 tk9 F9 N9; (try dsimp only); (try k_fold))
  k_extra "m_inL"
  k_with "exec While Compare cons nil" => k_while (fun _ found here dep q i => 0 ≤ i ∧ i ≤ (x.length : Int) ∧ (found.length : Int) ≤ i ∧ (here.length : Int) ≤ i ∧ -i ≤ dep ∧ dep ≤ i ∧ q.length ≤ 1 ∧ SplRest x found here dep q i) (fun _ found here dep q i => ((x.length : Int) - i).toNat) "found$" "here" "depth" "quote" "at"
  k_with "state" => first
    | exact spl_start x
    | exact spl_atom (by with_reducible assumption) (by with_reducible assumption) (by with_reducible assumption) (by with_reducible assumption) (by with_reducible assumption) (by with_reducible assumption) (by with_reducible assumption) (by with_reducible assumption) (by with_reducible assumption) (by with_reducible assumption)
    | exact spl_cut (by with_reducible assumption) (by with_reducible assumption) (by with_reducible assumption) (by with_reducible assumption) (by with_reducible assumption) (by with_reducible assumption) (by with_reducible assumption) (by with_reducible assumption) (by k_extra "m_na") (by k_extra "m_nb") (by k_extra "m_sq") (by k_extra "m_sd") (by with_reducible assumption) (by with_reducible assumption) (by first | with_reducible assumption | decide +kernel)
    | exact spl_sign (by with_reducible assumption) (by with_reducible assumption) (by with_reducible assumption) (by with_reducible assumption) (by with_reducible assumption) (by with_reducible assumption) (by with_reducible assumption) (by with_reducible assumption) (by k_extra "m_na") (by k_extra "m_nb") (by k_extra "m_sq") (by k_extra "m_sd") (by k_extra "m_nc")
  k_steps
  all_goals refine cl_ret hret (by k_asm) (by k_extra "m_mem") (by first | exact spl_fin0 (by k_extra "m_fin") (by with_reducible assumption) | exact spl_fin1 (by k_extra "m_fin") (by with_reducible assumption) (tx_push (by with_reducible assumption))) (by k_asm) (by k_extra "m_sub") (by k_extra "m_lt")
end
section
open PySem PySem.W PyProof PyProof.Rows PySem.Calls
set_option Elab.async false
set_option maxRecDepth 100000
set_option maxHeartbeats 8000000
set_option pp.deepTerms false
set_option pp.maxSteps 30000
set_option linter.unusedSimpArgs false
set_option linter.unusedVariables false
theorem cap_len (x : Str) : (capS x).length = x.length := by
  unfold capS capL Str.length; simp
/-- the text's rest behind the word, as the loop finds it -/
def tailF (x wh y : Str) : Nat → Int → Str
  | 0, _ => Str.ofString ""
  | n + 1, i =>
    if i < (wh.length : Int) then
      (if nbS (Txt.item wh i) = true then (if (Txt.slice wh (some i) (some (runI wh i)) == y) = true then Txt.slice x (some (runI wh i)) none else tailF x wh y n (runI wh i))
      else tailF x wh y n (i + 1))
    else Str.ofString ""
def TailRest (x y : Str) (i : Int) : Prop := ∃ n : Nat, (x.length : Int) - i ≤ n ∧ tailF x (capS x) y n i = tailF x (capS x) y x.length 0
section
variable {x y : Str} {i : Int}
theorem tail_start (x y : Str) : (0 : Int) ≤ 0 ∧ (0 : Int) ≤ (x.length : Int) ∧ TailRest x y 0 := ⟨by omega, by omega, x.length, by omega, rfl⟩
theorem tail_end (h : TailRest x y i) (hi : ¬ i < ((capS x).length : Int)) : tailF x (capS x) y x.length 0 = Str.ofString "" := by
  obtain ⟨n, _, e⟩ := h
  rw [← e]
  cases n <;> simp only [tailF, if_neg hi]
theorem tail_go (h : TailRest x y i) (hi : i < ((capS x).length : Int)) : ∃ k : Nat, (x.length : Int) - (i + 1) ≤ k ∧ tailF x (capS x) y (k + 1) i = tailF x (capS x) y x.length 0 := by
  obtain ⟨n, hn, e⟩ := h
  rw [cap_len] at hi
  cases n with
  | zero => omega
  | succ k => exact ⟨k, by omega, e⟩
theorem tail_hit (h : TailRest x y i) (hi : i < ((capS x).length : Int)) (hb : nbS (Txt.item (capS x) i) = true) (hw : (Txt.slice (capS x) (some i) (some (runI (capS x) i)) == y) = true) : tailF x (capS x) y x.length 0 = Txt.slice x (some (runI (capS x) i)) none := by
  obtain ⟨k, _, e⟩ := tail_go h hi
  rw [← e, tailF, if_pos hi, if_pos hb, if_pos hw]
theorem run_gt {x : Str} {i : Int} (h0 : 0 ≤ i) (h : i < (x.length : Int)) (hb : nbS (Txt.item x i) = true) : i + 1 ≤ runI x i := by
  rw [← run_go h0 h (by unfold npS; rw [hb]; rfl)]
  exact run_ge _ _
theorem run_gt' {x : Str} {i : Int} (hb : nbS (Txt.item x i) = true) (h : i < (x.length : Int)) (h0 : 0 ≤ i) : i + 1 ≤ runI x i := run_gt h0 h hb
theorem tail_word (h : TailRest x y i) (h0 : 0 ≤ i) (hi : i < ((capS x).length : Int)) (hb : nbS (Txt.item (capS x) i) = true) (hw : (Txt.slice (capS x) (some i) (some (runI (capS x) i)) == y) = false) :
    0 ≤ runI (capS x) i ∧ runI (capS x) i ≤ (x.length : Int) ∧ TailRest x y (runI (capS x) i) := by
  have h1 := run_gt h0 hi hb
  have h2 := run_le h0 (Int.le_of_lt hi)
  rw [cap_len] at h2
  refine ⟨by omega, h2, ?_⟩
  obtain ⟨k, hk, e⟩ := tail_go h hi
  refine ⟨k, by omega, ?_⟩
  rw [← e, tailF, if_pos hi, if_pos hb, hw]; rfl
theorem tail_sign (h : TailRest x y i) (h0 : 0 ≤ i) (hi : i < ((capS x).length : Int)) (hb : nbS (Txt.item (capS x) i) = false) :
    0 ≤ i + 1 ∧ i + 1 ≤ (x.length : Int) ∧ TailRest x y (i + 1) := by
  obtain ⟨k, hk, e⟩ := tail_go h hi
  rw [cap_len] at hi
  refine ⟨by omega, by omega, k, hk, ?_⟩
  rw [← e, tailF, if_pos (by rw [cap_len]; exact hi), hb]; rfl
theorem tail_meas {a b : Int} (h : a < ((capS x).length : Int)) : a < (x.length : Int) := by rwa [cap_len] at h
end
theorem c_tail (w mean mg mb) (x : Str) (t : Tok) (y : Str) (u : Tok) (hx : x.length ≤ 2 ^ 16) (hc : (capS x).length = x.length) : CP w mean mg mb 9 80 75 [.str x t, .str y u] (fun t => .str (tailF x (capS x) y x.length 0) t) := by
  k_with_none
  k_with "m_N" => first | k_asm | (refine cb_drop (by assumption) ?_; kcj_all)
  k_with "m_in" => (w_top off; dsimp only [CP]; k_fill; intros; rename_i hret; refine wpAny_call ?_; k_dflt cell_enter)
  k_with "m_retS" => (refine cb_retS hret ?_ (by k_asm) (by k_extra "m_N"))
  k_with "m_sub" => first | exact sub0 | (refine sub1 ?_; k_extra "m_sub")
  k_with "call ref" => (k_here; (first | refine' (c_begin _ _ _ _ _ _).use ?k1 ?k2 ?k3 ?k4 ?k5 ?kK ?kd ?ku ?_ | (have hrg9 := run_gt' (by with_reducible assumption) (by with_reducible assumption) (by with_reducible assumption)); refine' (c_run _ _ _ _ _ _ _ _ (by first | with_reducible assumption | (rw [cap_len]; with_reducible assumption)) (by with_reducible assumption) (by omega)).use ?k1 ?k2 ?k3 ?k4 ?k5 ?kK ?kd ?ku ?_ | refine' (c_cap _ _ _ _ _ _ (by with_reducible assumption)).use ?k1 ?k2 ?k3 ?k4 ?k5 ?kK ?kd ?ku ?_); (case k1 => k_asm); (case k2 => k_asm); (case k3 => k_asm); (case k4 => k_asm); (case k5 => k_asm); (case kK => first | exact rfl | assumption); (case kd => exact room_le (by with_reducible assumption) (by with_unfolding_all rfl) (by decide)); (case ku => exact units_le (by with_reducible assumption) (by with_unfolding_all rfl) (by decide)); intro t9 h9 tk9 F9 N9; (try dsimp only); (try k_fold))
  k_extra "m_in"
  k_with "exec While Compare cons nil" => k_while (fun _ i => 0 ≤ i ∧ i ≤ (x.length : Int) ∧ TailRest x y i) (fun _ i => ((x.length : Int) - i).toNat) "at"
  k_with "state" => first
    | exact tail_start x y
    | exact tail_word (by with_reducible assumption) (by with_reducible assumption) (by with_reducible assumption) (by with_reducible assumption) (by with_reducible assumption)
    | exact tail_sign (by with_reducible assumption) (by with_reducible assumption) (by with_reducible assumption) (by with_reducible assumption)
  k_steps
  all_goals k_extra "m_retS"
  all_goals first | exact (tail_end (by assumption) (by assumption)).symm | exact (tail_hit (by assumption) (by assumption) (by assumption) (by assumption)).symm
end
section
open PySem PySem.W PyProof PyProof.Rows PySem.Calls
set_option Elab.async false
set_option maxRecDepth 100000
set_option maxHeartbeats 8000000
set_option pp.deepTerms false
set_option pp.maxSteps 30000
set_option linter.unusedSimpArgs false
set_option linter.unusedVariables false
def atomL (l : List Nat) : Nat := if capL (l.take (rl l)) = [65, 70] ∧ (l.drop (rl l)).take 1 = [39] then rl l + 1 else rl l
theorem str_beq (a b : List Nat) : ((Str.mk a.toArray) == (Str.mk b.toArray)) = decide (a = b) := by
  rw [Bool.eq_iff_iff]; simp
theorem o_af : Str.ofString "AF" = ⟨[65, 70].toArray⟩ := by decide +kernel
theorem o_sq : Str.ofString "'" = ⟨[39].toArray⟩ := by decide +kernel
theorem o_dq : Str.ofString "\"" = ⟨[34].toArray⟩ := by decide +kernel
theorem o_amp : Str.ofString "&" = ⟨[38].toArray⟩ := by decide +kernel
theorem o_nil : Str.ofString "" = ⟨([] : List Nat).toArray⟩ := by decide +kernel
theorem o_dol : Str.ofString "$" = ⟨[36].toArray⟩ := by decide +kernel
theorem o_pct : Str.ofString "%" = ⟨[37].toArray⟩ := by decide +kernel
theorem one_arr (c : Nat) : (Str.mk #[c]) = ⟨[c].toArray⟩ := rfl
theorem capS_mk (l : List Nat) : capS ⟨l.toArray⟩ = ⟨(capL l).toArray⟩ := rfl
theorem rl_le (l : List Nat) : rl l ≤ l.length := (List.takeWhile_sublist npc (l := l)).length_le
theorem drop_at {x : Str} {i : Int} {l : List Nat} (h0 : 0 ≤ i) (hd : x.cps.toList.drop i.toNat = l) (k : Nat) : x.cps.toList.drop (i + k).toNat = l.drop k := by
  rw [← hd, List.drop_drop]; congr 1; omega
theorem atomI_eq {x : Str} {i : Int} {c : Nat} {r : List Nat} (h0 : 0 ≤ i) (hd : x.cps.toList.drop i.toNat = c :: r) (h1 : c ≠ 36) (h2 : c ≠ 37) : atomI x i = i + atomL (c :: r) := by
  have hit : Txt.item x i = ⟨[c].toArray⟩ := item_at h0 hd
  have hp : pfxS x i = false := by
    unfold pfxS
    rw [hit, o_dol, o_pct, str_beq, str_beq, decide_eq_false (by simpa using h1), decide_eq_false (by simpa using h2)]
    simp
  have he : endI x i = i + rl (c :: r) := by
    unfold endI
    rw [hp]
    show runI x i = _
    unfold runI; rw [hd]
  have hs1 : Txt.slice x (some i) (some (i + (rl (c :: r) : Int))) = ⟨((c :: r).take (rl (c :: r))).toArray⟩ := by
    rw [slice_at h0 (by omega), hd]; congr 3; omega
  have hs2 : Txt.slice x (some (i + (rl (c :: r) : Int))) (some (i + (rl (c :: r) : Int) + 1)) = ⟨(((c :: r).drop (rl (c :: r))).take 1).toArray⟩ := by
    rw [slice_at (by omega) (by omega), drop_at h0 hd]; congr 3; omega
  unfold atomI
  rw [he, hs1, hs2, capS_mk, o_af, o_sq, str_beq, str_beq]
  unfold atomL
  by_cases ha : capL ((c :: r).take (rl (c :: r))) = [65, 70]
  · rw [decide_eq_true ha, if_pos rfl]
    by_cases hb : ((c :: r).drop (rl (c :: r))).take 1 = [39]
    · rw [decide_eq_true hb, if_pos rfl, if_pos ⟨ha, hb⟩]; omega
    · rw [decide_eq_false hb, if_neg Bool.false_ne_true, if_neg (fun q => hb q.2)]
  · rw [decide_eq_false ha, if_neg Bool.false_ne_true, if_neg (fun q => ha q.1)]
def qNL (c : Nat) (q : List Nat) : List Nat := if (c = 39 ∨ c = 34) ∧ (q = [] ∨ q = [c]) then (if q = [c] then [] else [c]) else q
def keepL (c : Nat) (q : List Nat) : List Nat := if c ≠ 38 ∨ q ≠ [] then [c] else []
def putL (tab : List Nat → Option (List Nat)) : Nat → List Nat → List Nat → List Nat
  | 0, _, _ => []
  | _ + 1, [], _ => []
  | n + 1, c :: r, q => if q = [] ∧ 0 < atomL (c :: r) then (tab (capL ((c :: r).take (atomL (c :: r))))).getD ((c :: r).take (atomL (c :: r))) ++ putL tab n ((c :: r).drop (atomL (c :: r))) q
    else keepL c (qNL c q) ++ putL tab n r (qNL c q)
theorem qN_eq (c : Nat) (q : List Nat) : qNext ⟨[c].toArray⟩ ⟨q.toArray⟩ = ⟨(qNL c q).toArray⟩ := by
  unfold qNext qNL
  simp only [o_sq, o_dq, o_nil, List.any_cons, List.any_nil, Bool.or_false, str_beq]
  have c1 : ([39] = [c]) = (c = 39) := by simp [eq_comm]
  have c2 : ([34] = [c]) = (c = 34) := by simp [eq_comm]
  have c3 : ([] = q) = (q = []) := by simp [eq_comm]
  have c4 : ([c] = q) = (q = [c]) := by simp [eq_comm]
  simp only [c1, c2, c3, c4, Bool.and_eq_true, Bool.or_eq_true, decide_eq_true_eq]
  split
  · split <;> rfl
  · rfl
theorem keep_eq (c : Nat) (q : List Nat) : keepS ⟨[c].toArray⟩ ⟨q.toArray⟩ = ⟨(keepL c q).toArray⟩ := by
  unfold keepS keepL
  simp only [o_amp, o_nil, bne, str_beq]
  have c1 : ([c] = [38]) = (c = 38) := by simp
  simp only [c1, Bool.or_eq_true, Bool.not_eq_true', decide_eq_false_iff_not, ne_eq]
  split <;> rfl
theorem mk_app (a b : List Nat) : (Str.mk a.toArray) ++ (Str.mk b.toArray) = ⟨(a ++ b).toArray⟩ := by
  show Str.mk (_ ++ _) = _
  simp
theorem putF_eq {tab : Str → Option Str} {tabL : List Nat → Option (List Nat)} (ht : ∀ k, tab ⟨k.toArray⟩ = (tabL k).map fun v => ⟨v.toArray⟩) {x : Str} : ∀ (n : Nat) (i : Int) (q : List Nat), 0 ≤ i → (∀ c ∈ x.cps.toList.drop i.toNat, c ≠ 36 ∧ c ≠ 37) →
    putF tab n x i ⟨q.toArray⟩ = ⟨(putL tabL n (x.cps.toList.drop i.toNat) q).toArray⟩ := by
  intro n
  induction n with
  | zero => intro i q _ _; rfl
  | succ n ih =>
    intro i q h0 hc
    rcases Int.lt_or_le i (x.length : Int) with hi | hi
    · obtain ⟨c, hit, hd⟩ := drop_item h0 hi
      have hcc := hc c (by rw [hd]; exact .head _)
      have ha := atomI_eq h0 hd hcc.1 hcc.2
      rw [hd, putF, if_pos hi, putL, o_nil, str_beq, ← hd]
      have iff : (decide (q = []) = true ∧ i < atomI x i) ↔ (q = [] ∧ 0 < atomL (x.cps.toList.drop i.toNat)) := by
        rw [hd, ha, decide_eq_true_eq]
        constructor
        · rintro ⟨a, b⟩; exact ⟨a, by omega⟩
        · rintro ⟨a, b⟩; exact ⟨a, by omega⟩
      by_cases hq : q = [] ∧ 0 < atomL (x.cps.toList.drop i.toNat)
      · rw [if_pos (iff.mpr hq), if_pos hq]
        have hs : Txt.slice x (some i) (some (atomI x i)) = ⟨((x.cps.toList.drop i.toNat).take (atomL (x.cps.toList.drop i.toNat))).toArray⟩ := by
          rw [ha, slice_at h0 (by omega), hd]; congr 3; omega
        rw [hs, capS_mk, ht]
        have hd2 : x.cps.toList.drop (atomI x i).toNat = (x.cps.toList.drop i.toNat).drop (atomL (x.cps.toList.drop i.toNat)) := by
          have := drop_at h0 rfl (x := x) (atomL (x.cps.toList.drop i.toNat))
          rw [← this, ha, hd]
        rw [ih (atomI x i) q (by rw [ha]; omega) (fun c' h' => hc c' (by rw [hd2] at h'; exact List.mem_of_mem_drop h')), hd2]
        cases tabL (capL ((x.cps.toList.drop i.toNat).take (atomL (x.cps.toList.drop i.toNat)))) with
        | none => exact mk_app _ _
        | some v => exact mk_app _ _
      · rw [if_neg (fun h => hq (iff.mp h)), if_neg hq, hit]
        have e1 := qN_eq c q
        rw [one_arr, e1, keep_eq, ih (i + 1) (qNL c q) (by omega) (fun c' h' => hc c' (by rw [hd]; exact .tail _ h')), mk_app]
    · have hn := drop_none hi
      rw [hn, putF, if_neg (by omega), putL]; rfl
end
section
open PySem PySem.W PyProof PyProof.Rows PySem.Calls
set_option Elab.async false
set_option maxRecDepth 100000
set_option maxHeartbeats 8000000
set_option pp.deepTerms false
set_option pp.maxSteps 30000
set_option linter.unusedSimpArgs false
set_option linter.unusedVariables false
def SledO (w : World) (c : Addr) (n k : Int) (o : Obj) : Prop :=
  ∃ t u, o.IsDictOf (strKind Challenge.rw_pq1449_01.row.prog w) [(Str.ofString "cells", .ref c), (Str.ofString "count", .int n t), (Str.ofString "more", .int k u)]
theorem UpdF.mem {d : Addr} {o : Obj} {l : List (Addr × Obj)} {g : Obj → List (Addr × Obj)} (U : UpdF d o l g) : (d, o) ∈ l := by
  obtain ⟨pre, post, rfl, _⟩ := U.split
  simp
theorem UpdF.mem' {d : Addr} {o : Obj} {l : List (Addr × Obj)} {g : Obj → List (Addr × Obj)} (U : UpdF d o l g) (o' : Obj) : (d, o') ∈ g o' := by
  obtain ⟨pre, post, _, h, _⟩ := U.split
  rw [h]; simp
theorem UpdF.keep {d : Addr} {o : Obj} {l : List (Addr × Obj)} {g : Obj → List (Addr × Obj)} (U : UpdF d o l g) {p : Addr × Obj} (hp : p ∈ l) (hne : p.1 ≠ d) (o' : Obj) : p ∈ g o' := by
  obtain ⟨pre, post, rfl, h, _⟩ := U.split
  rw [h]
  rcases List.mem_append.mp hp with h | h
  · exact List.mem_append_left _ h
  · rcases List.mem_cons.mp h with rfl | h
    · exact absurd rfl hne
    · exact List.mem_append_right _ (.tail _ h)
theorem UpdF.again {d : Addr} {o : Obj} : ∀ {l : List (Addr × Obj)} {g : Obj → List (Addr × Obj)}, UpdF d o l g → ∀ o', UpdF d o' (g o') g
  | _, _, .head h, _ => .head h
  | _, _, .tail h r, o' => .tail h (UpdF.again r o')
/-- a call that draws from the sled: an int below the bound, the sled's count one on -/
abbrev CH (w : World) (mean : ExcName → Option Value) (mg mb : Str → Option Value) (D U : Nat) (f : Addr) (d : Addr) (mv : Int) (u : Tok) : Prop :=
  ∀ (dp un : Nat) (gd : Option (List Code)) (cn : Str) (cs : Scope) (a : Addr) (ccd : Value) (cl : List (Str × Addr)) (outer : List Env) (A₀ : Around) (base h₀ : Heap) (L : Addr) (m : Str → Option Value) (news : List (Addr × Obj)) (s : Shared) (Q E : Value → Shared → Prop)
    (o : Obj) (g : Obj → List (Addr × Obj)) (c : Addr) (n k : Int) (vs : List Value) (ns : List Int) (kk : Nat),
    Below A₀ base outer h₀ → Fr h₀ L s.heap m → (hd.heap_39 w.params).In h₀ → News h₀ L s.heap news → Top hd.view_39 (looseW hd.view_39 []) mean mg mb h₀ → cs.kind = .function →
    dp + D < recursionLimit → un + U < cLine →
    UpdF d o news g → SledO w c n k o → (d == sysModules) = false → (c, listOf vs.toArray kk) ∈ news → c ≠ d → IntsAre vs ns → ns.length ≤ 63 → 0 ≤ n → 0 ≤ k → k ≤ 40 →
    (∀ (v : Int) (t : Tok) (h' : Heap) (tk' : Nat) (o' : Obj), 0 ≤ v → v < mv → Fr h₀ L h' m → News h₀ L h' (g o') → SledO w c (n + 1) k o' → Q (.int v t) { s with heap := h', toks := tk' }) →
      wpAny (model Challenge.rw_pq1449_01.row.prog w) (ktrTop dp un gd cn cs L a ccd cl outer) (call (.ref f) [.ref d, .int mv u]) Q E s
theorem news_two {h₀ h : Heap} {L : Addr} {p q : Addr × Obj} {l : List (Addr × Obj)} (N : News h₀ L h l) (hp : p ∈ l) (hq : q ∈ l) : News h₀ L h (p :: q :: l) := fun r hr => by
  rcases List.mem_cons.mp hr with rfl | hr
  · exact N _ hp
  · rcases List.mem_cons.mp hr with rfl | hr
    · exact N _ hq
    · exact N _ hr
theorem st_count (a b c v : Value) : stored [(Str.ofString "cells", a), (Str.ofString "count", b), (Str.ofString "more", c)] (Str.ofString "count") v = [(Str.ofString "cells", a), (Str.ofString "count", v), (Str.ofString "more", c)] := by with_unfolding_all rfl
theorem sl_get {prog : Program} {w : World} {K : Type} [DecidableEq K] {knd : KeyKind prog w K} {A : Around} {E : Value → Shared → Prop} {s : Shared} {h₀ : Heap} {L d : Addr} {news : List (Addr × Obj)} {o : Obj} {kvs : List (K × Value)} {k : K} {key v : Value} {Q : Value → Shared → Prop} (N : News h₀ L s.heap news) (hp : (d, o) ∈ news) (hd : o.IsDictOf knd kvs) (hkey : knd.is k key = true) (hl : valueAt kvs k = some v) (h : Q v { s with toks := s.toks + 1 }) :
    wpAny (model prog w) A (getItem (.ref d) key) Q E s := wpAny_getItem_of hkey (kda_dict N hp hd).mapOf hl h
theorem c_haul (w mean mg mb) (d : Addr) (mv : Int) (u : Tok) (hm0 : 0 < mv) (hm1 : mv ≤ 12) : CH w mean mg mb 5 60 89 d mv u := by
  k_with_none
  k_with "m_N" => first | k_asm | (refine cb_drop (by assumption) ?_; kcj_all)
  k_with "m_sub" => first | exact sub0 | (refine sub1 ?_; k_extra "m_sub")
  k_with "getItem ref str" => (k_here; k_dflt (refine sl_get (knd := PySem.strKind _ _) (by k_asm) (by with_reducible assumption) (by with_reducible assumption) (strKind_is _ _ _ _) (by rfl) ?_))
  k_with "subscriptTail" => (k_here; (with_reducible show wpAny _ _ (subscriptTail _ _ (Value.ref _) (Value.str _ _)) _ _ _); k_dflt (refine kda_item (knd := PySem.strKind _ _) (by k_asm) (by first | exact List.mem_cons_of_mem _ List.mem_cons_self | with_reducible assumption) (by with_reducible assumption) (strKind_is _ _ _ _) (by rfl) ?_))
  k_with "setItem ref str" => (k_here; k_dflt (refine' kda_set (knd := PySem.strKind _ _) ?F ?N ?U ?d (strKind_is _ _ _ _) ?z ?_; (case F => k_asm); (case N => k_asm); (case U => exact hU); (case d => k_asm); (case z => rw [sizeLine_eq]; exact Nat.le_of_ble_eq_true (by with_unfolding_all rfl))); intro h' o' F' N' hd'; rw [st_count] at hd'; (have hm' := UpdF.mem' hU o'); (have hc' := UpdF.keep hU hcm hcd o'); replace N' := news_two N' hc' hm'; clear hc')
  w_top off; dsimp only [CH]; k_fill; intros
  rename_i hU hO lo hcm hcd hi hlen hn0 hk0 hk1 hret
  obtain ⟨t1, u1, hO⟩ := hO
  have hm := UpdF.mem hU
  refine wpAny_call ?_
  k_dflt cell_enter
  k_steps
  all_goals refine hret _ _ _ _ _ ?_ ?_ (by k_asm) (by k_extra "m_N") ⟨_, _, by assumption⟩
  all_goals first | exact Int.fmod_nonneg_of_pos _ hm0 | exact Int.fmod_lt_of_pos _ hm0
end
section
open PySem PySem.W PyProof PyProof.Rows PySem.Calls
set_option Elab.async false
set_option maxRecDepth 100000
set_option maxHeartbeats 8000000
set_option pp.deepTerms false
set_option pp.maxSteps 30000
set_option linter.unusedSimpArgs false
set_option linter.unusedVariables false
theorem CH.use {w : World} {mean : ExcName → Option Value} {mg mb : Str → Option Value} {D U : Nat} {f : Addr} {d : Addr} {mv : Int} {u : Tok} (C : CH w mean mg mb D U f d mv u)
    {dp un : Nat} {gd : Option (List Code)} {cn : Str} {cs : Scope} {a : Addr} {ccd : Value} {cl : List (Str × Addr)} {outer : List Env} {A₀ : Around} {base h₀ : Heap} {L : Addr} {m : Str → Option Value} {news : List (Addr × Obj)} {s : Shared} {Q E : Value → Shared → Prop}
    {o : Obj} {g : Obj → List (Addr × Obj)} {c : Addr} {n k : Int} {vs : List Value} {ns : List Int} {kk : Nat}
    (B : Below A₀ base outer h₀) (F : Fr h₀ L s.heap m) (X : (hd.heap_39 w.params).In h₀) (N : News h₀ L s.heap news) (T : Top hd.view_39 (looseW hd.view_39 []) mean mg mb h₀) (hk : cs.kind = .function)
    (hd : dp + D < recursionLimit) (hu : un + U < cLine)
    (hU : UpdF d o news g) (hO : SledO w c n k o) (lo : (d == sysModules) = false) (hc : (c, listOf vs.toArray kk) ∈ news) (hcd : c ≠ d) (hi : IntsAre vs ns) (hl : ns.length ≤ 63) (hn0 : 0 ≤ n) (hk0 : 0 ≤ k) (hk1 : k ≤ 40)
    (h : ∀ (v : Int) (t : Tok) (h' : Heap) (tk' : Nat) (o' : Obj), 0 ≤ v → v < mv → Fr h₀ L h' m → News h₀ L h' (g o') → SledO w c (n + 1) k o' → Q (.int v t) { s with heap := h', toks := tk' }) :
    wpAny (model Challenge.rw_pq1449_01.row.prog w) (ktrTop dp un gd cn cs L a ccd cl outer) (call (.ref f) [.ref d, .int mv u]) Q E s := C _ _ _ _ _ _ _ _ _ _ _ _ _ _ _ _ _ _ _ _ _ _ _ _ _ _ B F X N T hk hd hu hU hO lo hc hcd hi hl hn0 hk0 hk1 h
/-- a check of the law: it draws from the sled and answers True -/
abbrev CW (w : World) (mean : ExcName → Option Value) (mg mb : Str → Option Value) (D U : Nat) (f : Addr) (d : Addr) : Prop :=
  ∀ (dp un : Nat) (gd : Option (List Code)) (cn : Str) (cs : Scope) (a : Addr) (ccd : Value) (cl : List (Str × Addr)) (outer : List Env) (A₀ : Around) (base h₀ : Heap) (L : Addr) (m : Str → Option Value) (news : List (Addr × Obj)) (s : Shared) (Q E : Value → Shared → Prop)
    (o : Obj) (g : Obj → List (Addr × Obj)) (c : Addr) (n k : Int) (vs : List Value) (ns : List Int) (kk : Nat),
    Below A₀ base outer h₀ → Fr h₀ L s.heap m → (hd.heap_39 w.params).In h₀ → News h₀ L s.heap news → Top hd.view_39 (looseW hd.view_39 []) mean mg mb h₀ → cs.kind = .function →
    dp + D < recursionLimit → un + U < cLine →
    UpdF d o news g → SledO w c n k o → (d == sysModules) = false → (c, listOf vs.toArray kk) ∈ news → c ≠ d → IntsAre vs ns → ns.length ≤ 63 → 0 ≤ n → 0 ≤ k → k ≤ 40 →
    (∀ (h' : Heap) (tk' : Nat) (o' : Obj) (n' : Int), n ≤ n' → Fr h₀ L h' m → News h₀ L h' (g o') → SledO w c n' k o' → Q (.bool true) { s with heap := h', toks := tk' }) →
      wpAny (model Challenge.rw_pq1449_01.row.prog w) (ktrTop dp un gd cn cs L a ccd cl outer) (call (.ref f) [.ref d]) Q E s
theorem ne_lt {l d : Addr} {o : Obj} {X : List (Addr × Obj)} (h : ∀ p ∈ X, p.1 < l) (hm : (d, o) ∈ X) : l ≠ d := fun e => by
  have := h _ hm
  rw [← e] at this
  exact Nat.lt_irrefl _ this
theorem UpdF.app {d : Addr} {o : Obj} : ∀ {l : List (Addr × Obj)} {g : Obj → List (Addr × Obj)} {own : List (Addr × Obj)}, UpdF d o l g → (∀ p ∈ own, p.1 ≠ d) → UpdF d o (l ++ own) (fun o' => g o' ++ own)
  | _, _, _, .head h, h2 => .head fun p hp => by
    rcases List.mem_append.mp hp with q | q
    · exact h p q
    · exact h2 p q
  | _, _, _, .tail h r, h2 => .tail h (UpdF.app r h2)
theorem UpdF.adr {d : Addr} {o : Obj} : ∀ {l : List (Addr × Obj)} {g : Obj → List (Addr × Obj)}, UpdF d o l g → ∀ o' o'', (g o').map (·.1) = (g o'').map (·.1)
  | _, _, .head _, _, _ => rfl
  | _, _, .tail _ r, o', o'' => congrArg (_ :: ·) (UpdF.adr r o' o'')
theorem upd_news {h₀ h : Heap} {L d : Addr} {o : Obj} {l : List (Addr × Obj)} {g : Obj → List (Addr × Obj)} (N : News h₀ L h l) (U : UpdF d o l g) : UpdF d o l g := U
theorem ne_gt {p : Addr × Obj} {b : Nat} (h : @LT.lt Nat _ b p.1) : p.1 ≠ b := Nat.ne_of_gt h
theorem lt_nat {a b : Addr} (h : a < b) : @LT.lt Nat _ a b := h
def nmTab : List (Str × Str) := [("N", "5"), ("n", "5"), ("Where", "(HL)"), ("NX", "NX"), ("N_", "N_"), ("'N & n'", "'N & n'"), ("\"N'&'N\"", "\"N'&'N\""), ("'\"N'", "'\"N'"), ("(N)", "(5)"), ("@n", "@n"), ("+", "+"), ("LD", "LD")].map fun p => (Str.ofString p.1, Str.ofString p.2)
inductive NM : Nat → Str → Str → Prop
  | nil : NM 0 (Str.ofString "") (Str.ofString "")
  | amp {n r e a b} : NM n r e → (a, b) ∈ nmTab → NM (n + 1) (r ++ a ++ Str.ofString "&") (e ++ b ++ Str.ofString "")
  | blank {n r e a b} : NM n r e → (a, b) ∈ nmTab → NM (n + 1) (r ++ a ++ Str.ofString " ") (e ++ b ++ Str.ofString " ")
  | comma {n r e a b} : NM n r e → (a, b) ∈ nmTab → NM (n + 1) (r ++ a ++ Str.ofString ",") (e ++ b ++ Str.ofString ",")
structure NSt where
  r : Str
  rt : Tok
  e : Str
  et : Tok
  o : Obj
  n : Int
def nmPs (c : NSt) : List (Str × Value) := [(Str.ofString "row", .str c.r c.rt), (Str.ofString "due", .str c.e c.et)]
def NmW (n1 : Int) (pre : List Int) (c : NSt) : Prop := NM pre.length c.r c.e ∧ c.r.length ≤ 8 * pre.length ∧ c.e.length ≤ 8 * pre.length ∧ n1 ≤ c.n
section
variable {prog : Program} {A : Around} {E : Value → Shared → Prop} {s : Shared} {env : Env} {h₀ : Heap} {body : List Stmt} {x : Str} {Q : Flow → Shared → Prop}
theorem names_loop {w : World} {r : Addr} {b : Int} {t₀ u₀ v₀ : Tok} {m₀ : Str → Option Value} {G : Obj → List (Addr × Obj)} {d cc : Addr} {o1 : Obj} {led : List (Addr × Obj)} {k n1 : Int} {ta tb : Tok} (stored : List Str)
    (hU1 : UpdF d o1 led G) (hled : led = G o1) (hO : SledO w cc n1 k o1) (hb0 : 0 ≤ b) (hb1 : b < 7)
    (hh : A.handled = none) (hr : IsRange s.heap r 0 b 1 t₀ u₀ v₀) (F : Fr h₀ env.locals s.heap m₀) (N : News h₀ env.locals s.heap led) (h1 : m₀ (Str.ofString "row") = some (.str (Str.ofString "") ta)) (h2 : m₀ (Str.ofString "due") = some (.str (Str.ofString "") tb))
    (turn : ∀ (cr : Str) (crt : Tok) (ce : Str) (cet : Tok) (co : Obj) (cn : Int) (pre : List Int) (i : Int) t (u : Str → Option Value) h tk own, i = (pre.length : Int) → pre.length < 6 → OwnOff own ((G o1).map (·.1)) → SledO w cc cn k co →
      NM pre.length cr ce → cr.length ≤ 8 * pre.length → ce.length ≤ 8 * pre.length → n1 ≤ cn →
      Fr h₀ env.locals h (fun y => if y = x then some (.int i t) else kstB (fun z => if stored.contains z then u z else m₀ z) (nmPs ⟨cr, crt, ce, cet, co, cn⟩) y) → News h₀ env.locals h (G co ++ own) → UpdF d co (G co ++ own) (fun o' => G o' ++ own) →
      wpAny (model prog w) A (execs body env) (InvPostN h₀ env.locals (KstS (fun c : NSt => G c.o) nmPs (fun c => SledO w cc c.n k c.o) x stored m₀ (NmW n1) (pre ++ [i])) own ((G o1).map (·.1)) { s with heap := h, toks := tk } Q) E { s with heap := h, toks := tk })
    (done : ∀ (cr : Str) (crt : Tok) (ce : Str) (cet : Tok) (co : Obj) (cn : Int) (j : Nat) (u : Str → Option Value) h tk, SledO w cc cn k co → j ≤ 6 → NM j cr ce → cr.length ≤ 8 * j → ce.length ≤ 8 * j → n1 ≤ cn →
      Fr h₀ env.locals h (fun y => if y = x then u y else kstB (fun z => if stored.contains z then u z else m₀ z) (nmPs ⟨cr, crt, ce, cet, co, cn⟩) y) → News h₀ env.locals h (G co) → UpdF d co (G co) G → Q .next { s with heap := h, toks := tk }) :
    wpAny (model prog w) A (pyIter (.ref r)) (fun it s₂ => LoopAtV prog w A h₀ env x body Q E it s₂) E s := by
  subst hled
  have hd : d ∈ (G o1).map (·.1) := List.mem_map.mpr ⟨_, UpdF.mem hU1, rfl⟩
  refine kst_range (σ := NSt) (fun c => G c.o) nmPs (fun c => SledO w cc c.n k c.o) stored (NmW n1) ⟨Str.ofString "", ta, Str.ofString "", tb, o1, n1⟩ hh hr (small_one (by omega) (by omega) (by omega) (by omega)) (rangeSize_nat _ _) F N hO ?_ ⟨.nil, by show (Str.ofString "").length ≤ 8 * 0; decide, by show (Str.ofString "").length ≤ 8 * 0; decide, Int.le_refl _⟩ ?_ ?_
  · exact List.forall_mem_cons.mpr ⟨h1, List.forall_mem_cons.mpr ⟨h2, List.forall_mem_nil _⟩⟩
  · rintro ⟨cr, crt, ce, cet, co, cn⟩ pre i t u h tk own hi hl hoff hO' ⟨p1, p2, p3, p4⟩ F' N'
    exact turn cr crt ce cet co cn pre i t u h tk own (by omega) (by omega) hoff hO' p1 p2 p3 p4 F' N' (UpdF.app (UpdF.again hU1 co) (hoff.ne hd))
  · rintro ⟨cr, crt, ce, cet, co, cn⟩ u h tk hO' ⟨p1, p2, p3, p4⟩ F' N'
    rw [rangeKs_length] at p1 p2 p3
    exact done cr crt ce cet co cn _ u h tk hO' (by omega) p1 p2 p3 p4 F' N' (UpdF.again hU1 co)
theorem names_end {w : World} {L : Addr} {m₀ m' : Str → Option Value} {G : Obj → List (Addr × Obj)} {d cc : Addr} {o1 o' oo : Obj} {led : List (Addr × Obj)} {k n1 n' : Int} {stored : List Str} {pre : List Int} {i : Int} {own news' : List (Addr × Obj)} {s₁ : Shared} {h' : Heap} {tk : Nat} {r e : Str} {rt et : Tok}
    (hU1 : UpdF d oo led G) (hf : SledO w cc n' k o') (F : Fr h₀ L h' m') (N : News h₀ L h' news') (hn : ∀ p ∈ G o', p ∈ news') (ho : ∀ p ∈ own, p ∈ news')
    (hk1 : m' (Str.ofString "row") = some (.str r rt)) (hk2 : m' (Str.ofString "due") = some (.str e et)) (hr : ∀ z, z ≠ x → z ≠ Str.ofString "row" → z ≠ Str.ofString "due" → stored.contains z = false → m' z = m₀ z)
    (p1 : NM (pre.length + 1) r e) (p2 : r.length ≤ 8 * (pre.length + 1)) (p3 : e.length ≤ 8 * (pre.length + 1)) (p4 : n1 ≤ n') :
    InvEndN h₀ L (KstS (fun c : NSt => G c.o) nmPs (fun c => SledO w cc c.n k c.o) x stored m₀ (NmW n1) (pre ++ [i])) own ((G o1).map (·.1)) s₁ { s₁ with heap := h', toks := tk } := by
  refine kst_end ⟨r, rt, e, et, o', n'⟩ F N hn ho (UpdF.adr hU1 _ _) hf ?_ (fun z q1 q2 q3 => hr z q1 (q2 _ (.head _)) (q2 _ (.tail _ (.head _))) q3) ?_
  · exact List.forall_mem_cons.mpr ⟨hk1, List.forall_mem_cons.mpr ⟨hk2, List.forall_mem_nil _⟩⟩
  · have e1 : (pre ++ [i]).length = pre.length + 1 := by simp
    unfold NmW
    rw [e1]
    exact ⟨p1, p2, p3, p4⟩
end
structure Stop (p : Prop) : Prop where
  h : p
theorem stop_of {p : Prop} (h : Stop p) : p := h.h
theorem subA {α : Type} {X Y : List α} : ∀ p ∈ X, p ∈ X ++ Y := fun _ h => List.mem_append_left _ h
theorem subB {α : Type} {X Y : List α} : ∀ p ∈ Y, p ∈ X ++ Y := fun _ h => List.mem_append_right _ h
theorem pick_str {prog : Program} {w : World} {A : Around} {E : Value → Shared → Prop} {s : Shared} {h₀ : Heap} {L : Addr} {news : List (Addr × Obj)} {value slice : Expr} {l : Addr} {vs : List Value} {ys : List Str} {kk : Nat} {v : Int} {t : Tok} {Q : Value → Shared → Prop}
    (N : News h₀ L s.heap news) (hm : (l, listOf vs.toArray kk) ∈ news) (hi : StrsAre vs ys) (h0 : 0 ≤ v) (h1 : v < ys.length) (hz : ys.length ≤ 100) (h : ∀ y u, y ∈ ys → Q (.str y u) s)
    (hs : subscripted slice false (.ref l) (.int v t) = operate [.ref l, .int v t] (getItem (.ref l) (.int v t)) := by with_unfolding_all rfl) :
    wpAny (model prog w) A (subscriptTail value slice (.ref l) (.int v t)) Q E s :=
  item_strsR (k := v) (u := t) ⟨_, (N _ hm).1, rfl, _, rfl⟩ hi h0 h1 (by omega) (fun u => h _ u (by
    have hlt : v.toNat < ys.length := by omega
    have e : ys.getD v.toNat Str.empty = ys[v.toNat] := by simp [List.getD, hlt]
    rw [e]
    exact List.getElem_mem hlt)) hs
theorem pick_len {l : List Str} {y : Str} (h : y ∈ l) (hl : (l.all fun z => decide (z.length ≤ 50)) = true) : y.length ≤ 50 := of_decide_eq_true (List.all_eq_true.mp hl y h)
theorem pick_pair {prog : Program} {w : World} {A : Around} {E : Value → Shared → Prop} {s : Shared} {h₀ : Heap} {L d : Addr} {news : List (Addr × Obj)} {value slice : Expr} {l : Addr} {vs : List Value} {kk : Nat} {v : Int} {t : Tok} {Q : Value → Shared → Prop}
    (N : News h₀ L s.heap news) (hm : (l, listOf vs.toArray kk) ∈ news) (h0 : 0 ≤ v) (h1 : v < 12)
    (hv : ∀ i : Nat, i < 12 → ∃ D a b ta tb, vs[i]? = some (.ref D) ∧ (D, ({ cls := .type "tuple", data := .seq #[.str a ta, .str b tb] } : Obj)) ∈ news ∧ (a, b) ∈ nmTab ∧ D ≠ d)
    (h : ∀ D a b ta tb, (a, b) ∈ nmTab → News h₀ L s.heap ((D, { cls := .type "tuple", data := .seq #[.str a ta, .str b tb] }) :: news) → D ≠ d → Q (.ref D) s)
    (hs : subscripted slice false (.ref l) (.int v t) = operate [.ref l, .int v t] (getItem (.ref l) (.int v t)) := by with_unfolding_all rfl) (hg : ∀ r, letTemporaryGo value (.ref l) r = pure () := by intro _; with_unfolding_all rfl) :
    wpAny (model prog w) A (subscriptTail value slice (.ref l) (.int v t)) Q E s := by
  obtain ⟨D, a, b, ta, tb, e, hD, hab, hne⟩ := hv v.toNat (by omega)
  refine item_listL (x := .ref D) ⟨_, (N _ hm).1, rfl, _, rfl⟩ h0 (by omega) (by simpa using e) (h D a b ta tb hab (fun p hp => ?_) hne) hs hg
  rcases List.mem_cons.mp hp with rfl | hp
  · exact N _ hD
  · exact N _ hp
theorem forall12 {P : Nat → Prop} (p0 : P 0) (p1 : P 1) (p2 : P 2) (p3 : P 3) (p4 : P 4) (p5 : P 5) (p6 : P 6) (p7 : P 7) (p8 : P 8) (p9 : P 9) (p10 : P 10) (p11 : P 11) : ∀ i, i < 12 → P i := by
  intro i hi
  match i, hi with
  | 0, _ => exact p0
  | 1, _ => exact p1
  | 2, _ => exact p2
  | 3, _ => exact p3
  | 4, _ => exact p4
  | 5, _ => exact p5
  | 6, _ => exact p6
  | 7, _ => exact p7
  | 8, _ => exact p8
  | 9, _ => exact p9
  | 10, _ => exact p10
  | 11, _ => exact p11
/-- the written objects of the ledger put away behind one name -/
theorem hide {h₀ h : Heap} {L d l : Addr} {o o1 : Obj} {led news : List (Addr × Obj)} {g G : Obj → List (Addr × Obj)} {vs : List Value} {kk : Nat} (_hU : UpdF d o news g) (hU1 : UpdF d o1 led G) (hled : led = G o1) (N : News h₀ L h led) (hsub : ∀ o', ∀ p ∈ g o', p ∈ G o') (hl : ∀ o', (l, listOf vs.toArray kk) ∈ G o')
    (hv : ∀ o', ∀ i : Nat, i < 12 → ∃ D a b ta tb, vs[i]? = some (.ref D) ∧ (D, ({ cls := .type "tuple", data := .seq #[.str a ta, .str b tb] } : Obj)) ∈ G o' ∧ (a, b) ∈ nmTab ∧ D ≠ d) :
    ∃ (GT : Obj → List (Addr × Obj)) (vs12 : List Value), UpdF d o1 (GT o1) GT ∧ News h₀ L h (GT o1) ∧ (∀ o', ∀ p ∈ g o', p ∈ GT o') ∧ (∀ o', (l, listOf vs12.toArray kk) ∈ GT o') ∧
      (∀ o', ∀ i : Nat, i < 12 → ∃ D a b ta tb, vs12[i]? = some (.ref D) ∧ (D, ({ cls := .type "tuple", data := .seq #[.str a ta, .str b tb] } : Obj)) ∈ GT o' ∧ (a, b) ∈ nmTab ∧ D ≠ d) := by
  subst hled
  exact ⟨G, vs, hU1, N, hsub, hl, hv⟩
theorem hv_app {d : Addr} {vs : List Value} {X Y : List (Addr × Obj)} (hv : ∀ i : Nat, i < 12 → ∃ D a b ta tb, vs[i]? = some (.ref D) ∧ (D, ({ cls := .type "tuple", data := .seq #[.str a ta, .str b tb] } : Obj)) ∈ X ∧ (a, b) ∈ nmTab ∧ D ≠ d) :
    ∀ i : Nat, i < 12 → ∃ D a b ta tb, vs[i]? = some (.ref D) ∧ (D, ({ cls := .type "tuple", data := .seq #[.str a ta, .str b tb] } : Obj)) ∈ X ++ Y ∧ (a, b) ∈ nmTab ∧ D ≠ d := fun i hi => by
  obtain ⟨D, a, b, ta, tb, e, hD, r⟩ := hv i hi
  exact ⟨D, a, b, ta, tb, e, List.mem_append_left _ hD, r⟩
theorem nm_len {a b : Str} (h : (a, b) ∈ nmTab) : a.length ≤ 7 ∧ b.length ≤ 7 := of_decide_eq_true (List.all_eq_true.mp (show (nmTab.all fun p => decide (p.1.length ≤ 7 ∧ p.2.length ≤ 7)) = true by decide +kernel) _ h)
theorem sign_len {y : Str} (h : y ∈ [Str.ofString "&", Str.ofString " ", Str.ofString ","]) : y.length ≤ 1 := of_decide_eq_true (List.all_eq_true.mp (show ([Str.ofString "&", Str.ofString " ", Str.ofString ","].all fun z => decide (z.length ≤ 1)) = true by decide +kernel) _ h)
theorem nm_amp {n : Nat} {r e a b y : Str} (h : NM n r e) (hm : (a, b) ∈ nmTab) (hy : (y == Str.ofString "&") = true) : NM (n + 1) (r ++ a ++ y) (e ++ b ++ Str.ofString "") := by
  rw [beq_iff_eq.mp hy]; exact .amp h hm
theorem nm_oth {n : Nat} {r e a b y : Str} (h : NM n r e) (hm : (a, b) ∈ nmTab) (hs : y ∈ [Str.ofString "&", Str.ofString " ", Str.ofString ","]) (hy : (y == Str.ofString "&") = false) : NM (n + 1) (r ++ a ++ y) (e ++ b ++ y) := by
  rcases List.mem_cons.mp hs with rfl | hs
  · exact absurd (beq_self_eq_true _) (by rw [hy]; exact Bool.false_ne_true)
  · rcases List.mem_cons.mp hs with rfl | hs
    · exact .blank h hm
    · rw [List.mem_singleton.mp hs]; exact .comma h hm
def nmF (k : Str) : Option Str := if k = Str.ofString "N" then some (Str.ofString "5") else if k = Str.ofString "WHERE" then some (Str.ofString "(HL)") else none
theorem tab_nm (t u : Tok) : TabOf [(Str.ofString "N", .str (Str.ofString "5") t), (Str.ofString "WHERE", .str (Str.ofString "(HL)") u)] nmF := by
  intro k
  by_cases h1 : k = Str.ofString "N"
  · subst h1; exact .inl ⟨_, _, rfl, rfl, by decide⟩
  · by_cases h2 : k = Str.ofString "WHERE"
    · subst h2; exact .inl ⟨_, _, rfl, rfl, by decide⟩
    · have h1' : ¬ Str.ofString "N" = k := fun e => h1 e.symm
      have h2' : ¬ Str.ofString "WHERE" = k := fun e => h2 e.symm
      exact .inr ⟨by simp [valueAt, h1', h2'], by simp [nmF, h1, h2]⟩
def nmL (k : List Nat) : Option (List Nat) := if k = [78] then some [53] else if k = [87, 72, 69, 82, 69] then some [40, 72, 76, 41] else none
theorem o_N : Str.ofString "N" = ⟨[78].toArray⟩ := by decide +kernel
theorem o_5 : Str.ofString "5" = ⟨[53].toArray⟩ := by decide +kernel
theorem o_W : Str.ofString "WHERE" = ⟨[87, 72, 69, 82, 69].toArray⟩ := by decide +kernel
theorem o_H : Str.ofString "(HL)" = ⟨[40, 72, 76, 41].toArray⟩ := by decide +kernel
theorem mk_inj (a b : List Nat) : (Str.mk a.toArray = Str.mk b.toArray) = (a = b) := by simp
theorem nm_ht (k : List Nat) : nmF ⟨k.toArray⟩ = (nmL k).map fun v => ⟨v.toArray⟩ := by
  unfold nmF nmL
  rw [o_N, o_5, o_W, o_H]
  simp only [mk_inj]
  split
  · rfl
  · split <;> rfl
def nmTabL : List (List Nat × List Nat) := [([78], [53]), ([110], [53]), ([87, 104, 101, 114, 101], [40, 72, 76, 41]), ([78, 88], [78, 88]), ([78, 95], [78, 95]), ([39, 78, 32, 38, 32, 110, 39], [39, 78, 32, 38, 32, 110, 39]), ([34, 78, 39, 38, 39, 78, 34], [34, 78, 39, 38, 39, 78, 34]), ([39, 34, 78, 39], [39, 34, 78, 39]), ([40, 78, 41], [40, 53, 41]), ([64, 110], [64, 110]), ([43], [43]), ([76, 68], [76, 68])]
theorem nmTab_eq : nmTab = nmTabL.map fun p => (⟨p.1.toArray⟩, ⟨p.2.toArray⟩) := by decide +kernel
def sgL (s : Nat) : List Nat := if s = 38 then [] else [s]
theorem piece {a b : List Nat} (h : (a, b) ∈ nmTabL) {s : Nat} (hs : s = 38 ∨ s = 32 ∨ s = 44) (m : Nat) (rest : List Nat) : ∃ m', m ≤ m' ∧ putL nmL (m + (a.length + 1)) (a ++ s :: rest) [] = b ++ sgL s ++ putL nmL m' rest [] := by
  simp only [nmTabL, List.mem_cons, Prod.mk.injEq, List.not_mem_nil, or_false] at h
  rcases hs with rfl | rfl | rfl <;> rcases h with ⟨rfl, rfl⟩ | ⟨rfl, rfl⟩ | ⟨rfl, rfl⟩ | ⟨rfl, rfl⟩ | ⟨rfl, rfl⟩ | ⟨rfl, rfl⟩ | ⟨rfl, rfl⟩ | ⟨rfl, rfl⟩ | ⟨rfl, rfl⟩ | ⟨rfl, rfl⟩ | ⟨rfl, rfl⟩ | ⟨rfl, rfl⟩
  all_goals first | exact ⟨m, by omega, rfl⟩ | exact ⟨m + 1, by omega, rfl⟩ | exact ⟨m + 4, by omega, rfl⟩
theorem app_list (a b : Str) : (a ++ b).cps.toList = a.cps.toList ++ b.cps.toList := by
  cases a; cases b
  show (_ ++ _ : Array Nat).toList = _
  simp
theorem tab_mem {a b : Str} (h : (a, b) ∈ nmTab) : ∃ al bl, (al, bl) ∈ nmTabL ∧ a = ⟨al.toArray⟩ ∧ b = ⟨bl.toArray⟩ := by
  rw [nmTab_eq] at h
  obtain ⟨⟨al, bl⟩, hm, e⟩ := List.mem_map.mp h
  exact ⟨al, bl, hm, (Prod.mk.inj e).1.symm, (Prod.mk.inj e).2.symm⟩
theorem str_list (l : List Nat) : (Str.mk l.toArray).cps.toList = l := by simp
def NmRun (r e : Str) : Prop := (∀ c ∈ r.cps.toList, c ≠ 36 ∧ c ≠ 37) ∧ ∀ rest fuel, r.length + rest.length ≤ fuel → ∃ m', rest.length ≤ m' ∧ putL nmL fuel (r.cps.toList ++ rest) [] = e.cps.toList ++ putL nmL m' rest []
theorem nm_step {r e a b S G : Str} {s : Nat} (h : NmRun r e) (hm : (a, b) ∈ nmTab) (hs : s = 38 ∨ s = 32 ∨ s = 44) (eS : S = ⟨[s].toArray⟩) (eG : G = ⟨(sgL s).toArray⟩) : NmRun (r ++ a ++ S) (e ++ b ++ G) := by
  obtain ⟨al, bl, hq, rfl, rfl⟩ := tab_mem hm
  subst eS
  subst eG
  constructor
  · intro c hc
    rw [app_list, app_list, str_list, str_list] at hc
    rcases List.mem_append.mp hc with hc | hc
    · rcases List.mem_append.mp hc with hc | hc
      · exact h.1 c hc
      · exact of_decide_eq_true (List.all_eq_true.mp (List.all_eq_true.mp (show (nmTabL.all fun p => p.1.all fun c => decide (c ≠ 36 ∧ c ≠ 37)) = true by decide) _ hq) c hc)
    · rw [List.mem_singleton.mp hc]; omega
  · intro rest fuel hf
    rw [str_len, str_len] at hf
    have l1 : (Str.mk al.toArray).length = al.length := rfl
    have l2 : (Str.mk [s].toArray).length = 1 := rfl
    rw [l1, l2] at hf
    obtain ⟨f1, h1, e1⟩ := h.2 (al ++ s :: rest) fuel (by rw [List.length_append, List.length_cons]; omega)
    rw [List.length_append, List.length_cons] at h1
    obtain ⟨m', h2, e2⟩ := piece hq hs (f1 - (al.length + 1)) rest
    rw [show f1 - (al.length + 1) + (al.length + 1) = f1 by omega] at e2
    refine ⟨m', by omega, ?_⟩
    rw [app_list, app_list, str_list, str_list, app_list, app_list, str_list, str_list]
    rw [show r.cps.toList ++ al ++ [s] ++ rest = r.cps.toList ++ (al ++ s :: rest) by simp, e1, e2]
    simp
theorem nm_run {n : Nat} {r e : Str} (h : NM n r e) : NmRun r e := by
  induction h with
  | nil =>
    refine ⟨fun c hc => (by rw [o_nil, str_list] at hc; exact absurd hc (by simp)), fun rest fuel hf => ⟨fuel, by omega, ?_⟩⟩
    rw [o_nil, str_list]; rfl
  | amp _ hm ih => exact nm_step ih hm (.inl rfl) o_amp o_nil
  | blank _ hm ih => exact nm_step ih hm (.inr (.inl rfl)) (show Str.ofString " " = ⟨[32].toArray⟩ by decide +kernel) (show Str.ofString " " = ⟨[32].toArray⟩ by decide +kernel)
  | comma _ hm ih => exact nm_step ih hm (.inr (.inr rfl)) (show Str.ofString "," = ⟨[44].toArray⟩ by decide +kernel) (show Str.ofString "," = ⟨[44].toArray⟩ by decide +kernel)
theorem names_law {n : Nat} {r e : Str} (h : NM n r e) (_hn : n ≤ 6) : putF nmF r.length r 0 (Str.ofString "") = e := by
  obtain ⟨hc, hr⟩ := nm_run h
  have h1 := putF_eq nm_ht (x := r) r.length 0 [] (by omega) hc
  obtain ⟨m', _, e1⟩ := hr [] r.length (by simp)
  rw [o_nil, h1]
  have z : putL nmL m' [] [] = [] := by cases m' <;> rfl
  rw [z, List.append_nil, List.append_nil] at e1
  show Str.mk (putL nmL r.length r.cps.toList []).toArray = e
  rw [e1]
theorem len2z {r a : Str} {n : Nat} (h : r.length ≤ 8 * n) (h2 : a.length ≤ 8) : (r ++ a ++ Str.ofString "").length ≤ 8 * (n + 1) := by
  rw [str_len, str_len]; have : (Str.ofString "").length = 0 := by decide
  omega
theorem len2 {r a b : Str} {n : Nat} (h : r.length ≤ 8 * n) (h2 : a.length + b.length ≤ 8) : (r ++ a ++ b).length ≤ 8 * (n + 1) := by
  rw [str_len, str_len]; omega
theorem szA {r a : Str} {n : Nat} (h : r.length ≤ 8 * n) (hn : n < 6) (ha : a.length ≤ 8) : r.length + a.length ≤ sizeLine := by rw [PySem.sizeLine_eq]; omega
theorem szB {r a b : Str} {n : Nat} (h : r.length ≤ 8 * n) (hn : n < 6) (ha : a.length ≤ 8) (hb : b.length ≤ 8) : (r ++ a).length + b.length ≤ sizeLine := by rw [PySem.sizeLine_eq, str_len]; omega
theorem c_names (w mean mg mb) (d : Addr) : CW w mean mg mb 15 200 96 d := by
  k_with_none
  k_with "m_al" => first | with_reducible assumption | exact And.right (by first | with_reducible assumption | exact And.right (by first | with_reducible assumption | exact And.right (by first | with_reducible assumption | exact And.right (by first | with_reducible assumption | exact And.right (by first | with_reducible assumption | exact And.right (by first | with_reducible assumption | exact And.right (by first | with_reducible assumption | exact And.right (by first | with_reducible assumption | exact And.right (by first | with_reducible assumption | exact And.right (by first | with_reducible assumption | exact And.right (by first | with_reducible assumption | exact And.right (by first | with_reducible assumption | exact And.right (by first | with_reducible assumption | exact And.right (by first | with_reducible assumption | exact And.right (by first | with_reducible assumption | exact And.right (by with_reducible assumption))))))))))))))))
  k_with "m_hc" => first | exact hcm | exact UpdF.keep hU hcm hcd _ | exact List.mem_append_left _ (hsub _ _ (UpdF.keep hU hcm hcd _)) | (refine List.mem_cons_of_mem _ ?_; k_extra "m_hc")
  k_with "m_hv" => exact forall12 (by k_extra "m_hv1") (by k_extra "m_hv1") (by k_extra "m_hv1") (by k_extra "m_hv1") (by k_extra "m_hv1") (by k_extra "m_hv1") (by k_extra "m_hv1") (by k_extra "m_hv1") (by k_extra "m_hv1") (by k_extra "m_hv1") (by k_extra "m_hv1") (by k_extra "m_hv1")
  k_with "m_hv1" => exact ⟨_, _, _, _, _, rfl, by k_extra "m_mem", by decide +kernel, ne_lt (by k_extra "m_lt") (UpdF.mem hU)⟩
  k_with "m_inW" => (w_top off; dsimp only [CW]; k_fill; intros; rename_i hU hO lo hcm hcd hi hlen hn0 hk0 hk1 hret; refine wpAny_call ?_; k_dflt cell_enter)
  k_with "m_lt" => first | with_reducible assumption | exact ktn_ltOf (by k_extra "m_al")
  k_with "m_mem" => first | exact List.mem_cons_self | (refine List.mem_cons_of_mem _ ?_; k_extra "m_mem")
  k_with "m_nend" => (refine ⟨?_⟩; refine names_end hU1 hO9 (by k_asm) (by k_asm) (by k_extra "m_subG") (by k_extra "m_subO") (by with_unfolding_all rfl) (by with_unfolding_all rfl) (by intro z q1 q2 q3 q4; simp only [List.contains_cons, List.contains_nil, Bool.or_false, Bool.or_eq_false_iff, beq_eq_false_iff_ne, ne_eq] at q4; simp only [q1, q2, q3, q4, if_false, List.contains_cons, List.contains_nil, Bool.or_false, Bool.or_self, beq_iff_eq, Bool.false_eq_true, beq_eq_false_iff_ne.mpr q4.1, beq_eq_false_iff_ne.mpr q4.2.1, beq_eq_false_iff_ne.mpr q4.2.2]) (by first | exact nm_amp p1 hab9 (by with_reducible assumption) | exact nm_oth p1 hab9 hy9 (by with_reducible assumption)) (len2 p2 (by omega)) (by first | exact len2 p3 (by omega) | exact len2z p3 (by omega)) (by omega))
  k_with "m_sub" => first | exact sub0 | (refine sub1 ?_; k_extra "m_sub")
  k_with "m_subG" => first | exact subA | exact sub1 (by k_extra "m_subG")
  k_with "m_subO" => first | exact subB | exact sub1 (by k_extra "m_subO")
  k_with "m_subT" => first | exact hsub _ | exact sub1 (by k_extra "m_subT")
  k_with "m_texts" => first | with_reducible assumption | exact StrsAre.nil | exact StrsAre.cons _ _ (by k_extra "m_texts")
  k_with "m_upd" => first | exact hU2 | exact UpdF.again hU2 _ | exact UpdF.tail hDd9 (by k_extra "m_upd") | exact UpdF.tail (ne_lt (by k_extra "m_lt") (List.mem_append_left _ (UpdF.mem' hU1 _))) (by k_extra "m_upd")
  k_with "m_upd0" => first | exact hU | exact UpdF.again hU _ | exact UpdF.tail (ne_lt (by k_extra "m_lt") (UpdF.mem hU)) (by k_extra "m_upd0")
  k_with "pyIter ref" => (k_here; refine stop_of ?_)
  k_with "call ref" => (k_here; refine CH.use (c_haul _ _ _ _ _ _ _ (by decide) (by decide)) (by k_asm) (by k_asm) (by k_asm) (by k_asm) (by k_asm) (by first | exact rfl | assumption) (by exact room_le (by with_reducible assumption) (by with_unfolding_all rfl) (by decide)) (by exact units_le (by with_reducible assumption) (by with_unfolding_all rfl) (by decide)) (by k_extra "m_upd") (by with_reducible assumption) lo (by k_extra "m_hc") hcd hi hlen (by omega) hk0 hk1 ?_; intro v9 t9 h9 tk9 o9 hv0 hv1 F9 N9 hO9; (try dsimp only at F9 N9); (try k_fold))
  k_with "subscriptTail" => (k_here; (with_reducible show wpAny _ _ (subscriptTail _ _ (Value.ref _) (Value.int v9 _)) _ _ _); k_dflt (first | (refine pick_pair (d := d) (by k_asm) (List.mem_append_left _ (hl _)) hv0 (by exact hv1) (hv_app (hv _)) ?_; intro D9 a9 b9 ta9 tb9 hab9 N9 hDd9; (have hla9 := nm_len hab9)) | (refine pick_str (by k_asm) (by k_extra "m_mem") (by k_extra "m_texts") hv0 (by with_unfolding_all exact hv1) (by decide +kernel) ?_; intro y9 u9 hy9; (have hl9 := sign_len hy9))))
  k_with "binaryOp Add str str" => (k_here; (with_reducible show wpAny _ _ (binaryOp Operator.Add (Value.str _ _) (Value.str _ _)) _ _ _); refine PyProof.Rows.add_str ?_ (by first | exact szA p2 hpl (by omega) | exact szA p3 hpl (by omega) | exact szB p2 hpl (by omega) (by omega) | exact szB p3 hpl (by omega) (by first | omega | decide)); intro _ _)
  k_with "InvEndN" => refine stop_of ?_
  k_with "call ref" => (k_here; (refine' (c_put _ _ _ _ _ _ _ nmF (by with_reducible assumption)).use ?k1 ?k2 ?k3 ?k4 ?k5 ?kK ?kd ?ku ?kp ?_); (case k1 => k_asm); (case k2 => k_asm); (case k3 => k_asm); (case k4 => k_asm); (case k5 => k_asm); (case kK => first | exact rfl | assumption); (case kd => exact room_le (by with_reducible assumption) (by with_unfolding_all rfl) (by decide)); (case ku => exact units_le (by with_reducible assumption) (by with_unfolding_all rfl) (by decide)); (case kp => exact ⟨_, _, by k_mem, by k_asm, by k_asm, tab_nm _ _⟩); intro t9 h9 tk9 F9 N9; (try dsimp only); (try k_fold))
  k_extra "m_inW"
  k_steps
  rename ∀ (p : Addr × Obj), p ∈ _ → p.fst < _ => l0
  have hd0 := lt_nat (l0 _ (UpdF.mem hU))
  have hc0 := lt_nat (l0 _ hcm)
  dsimp only at hd0 hc0
  refine CH.use (c_haul _ _ _ _ _ _ _ (by decide) (by decide)) (by k_asm) (by k_asm) (by k_asm) (by k_asm) (by k_asm) (by first | exact rfl | assumption) (by exact room_le (by with_reducible assumption) (by with_unfolding_all rfl) (by decide)) (by exact units_le (by with_reducible assumption) (by with_unfolding_all rfl) (by decide)) (by k_extra "m_upd0") hO lo (by k_extra "m_hc") hcd hi hlen hn0 hk0 hk1 ?_
  intro v1 t1 h1 tk1 o1 hv0 hv1 F1 N1 hO1
  dsimp only at F1 N1
  have hU0 := upd_news N1 (by k_extra "m_upd0")
  obtain ⟨GT, vs12, hU1, NT, hsub, hl, hv⟩ := hide hU hU0 rfl N1 (fun o' => by k_extra "m_sub") (fun o' => by k_extra "m_mem") (fun o' => by k_extra "m_hv")
  clear hU0 N1
  k_steps
  refine ⟨?_⟩
  rename IsRange _ _ _ _ _ _ _ _ => rgX
  refine names_loop [Str.ofString "told", Str.ofString "meant", Str.ofString "sign"] hU1 rfl hO1 hv0 hv1 rfl rgX (by k_asm) (kst_newsOf (by k_asm) (by k_extra "m_sub")) (by with_unfolding_all rfl) (by with_unfolding_all rfl) ?_ ?_
  · intro cr crt ce cet co cn pre i t u h tk own hil hpl hoff hO2 p1 p2 p3 p4 F2 N2 hU2
    dsimp only [kstB, nmPs] at F2
    try dsimp only at N2 hU2
    k_steps
    all_goals k_extra "m_nend"
  · intro cr crt ce cet co cn j u h tk hO2 hj p1 p2 p3 p4 F2 N2 hU2
    dsimp only [kstB, nmPs] at F2
    try dsimp only at N2 hU2
    have hx : cr.length ≤ 2 ^ 16 := by omega
    have hlaw := names_law p1 hj
    k_steps
    rw [hlaw, beq_self_eq_true]
    exact hret _ _ co cn (by omega) (by k_asm) (cb_drop (by assumption) (by k_extra "m_subT")) hO2
end
section
open PySem PySem.W PyProof PyProof.Rows PySem.Calls
set_option Elab.async false
set_option maxRecDepth 100000
set_option maxHeartbeats 8000000
set_option pp.deepTerms false
set_option pp.maxSteps 30000
set_option linter.unusedSimpArgs false
set_option linter.unusedVariables false
/-- a comprehension whose element draws from the sled -/
theorem sled_turns {prog : Program} {w : World} {A : Around} {h₀ : Heap} {L : Addr} {m : Str → Option Value} {env : Env} {elt : Expr} {x : Str} {scope : Scope} {cl : List (Str × Addr)} {s₁ : Shared} {S : List (Addr × Obj) → Prop} {P : Nat → Value → Prop} {Fin : List Value → List (Addr × Obj) → Prop} {N : Nat}
    {d cc : Addr} {o1 : Obj} {led : List (Addr × Obj)} {G : Obj → List (Addr × Obj)} {n1 k : Int} (R : Nat → List Str → Prop)
    (hU1 : UpdF d o1 led G) (hled : led = G o1) (hO1 : SledO w cc n1 k o1) (hR : R 0 []) (hS : ∀ o', S (G o'))
    (turn : ∀ i v I oI C oC D m₂ ys ss h tk o' (n' : Int) (E' : Value → Shared → Prop), i < N → P i v → R i ss → StrsAre ys ss → LCg.NsObj oC m₂ → m₂ x = some v → Fr h₀ L h m → News h₀ L h ((I, oI) :: (C, oC) :: (D, LCg.lst ys) :: G o') →
      UpdF d o' ((I, oI) :: (C, oC) :: (D, LCg.lst ys) :: G o') (fun o'' => (I, oI) :: (C, oC) :: (D, LCg.lst ys) :: G o'') → (∀ o'', LCg.Off3 I C D (G o'')) → SledO w cc n' k o' → n1 ≤ n' → n' ≤ n1 + 2 * (i : Int) →
      wpAny (model prog w) A (eval elt (compEnvC scope cl C env)) (LCg.CompEnd h₀ L m { s₁ with heap := h, toks := tk } I oI C oC D (LCg.lst ys) S (fun y news' => ∃ o'' n'' z t, news' = G o'' ∧ SledO w cc n'' k o'' ∧ n1 ≤ n'' ∧ n'' ≤ n1 + 2 * ((i : Int) + 1) ∧ y = .str z t ∧ R (i + 1) (ss ++ [z]))) E' { s₁ with heap := h, toks := tk })
    (fin : ∀ ys ss o' (n' : Int), R N ss → StrsAre ys ss → SledO w cc n' k o' → n1 ≤ n' → n' ≤ n1 + 2 * (N : Int) → UpdF d o' (G o') G → Fin ys (G o')) :
    LCg.CompRest prog w A h₀ L m env elt x scope cl s₁ S P Fin N 0 [] led := by
  subst hled
  have off3 : ∀ {I C D : Addr} {o' o'' : Obj}, LCg.Off3 I C D (G o') → LCg.Off3 I C D (G o'') := by
    intro I C D o' o'' h
    refine LCg.Off3.of fun p hp => ?_
    have : p.1 ∈ (G o'').map (·.1) := List.mem_map.mpr ⟨p, hp, rfl⟩
    rw [UpdF.adr hU1 o'' o'] at this
    obtain ⟨q, hq, e⟩ := List.mem_map.mp this
    have := h.mem q hq
    rw [e] at this
    exact this
  have key : ∀ (j i : Nat) (ys : List Value) (ss : List Str) (o' : Obj) (n' : Int), i + j = N → R i ss → StrsAre ys ss → SledO w cc n' k o' → n1 ≤ n' → n' ≤ n1 + 2 * (i : Int) → LCg.CompRest prog w A h₀ L m env elt x scope cl s₁ S P Fin j i ys (G o') := by
    intro j
    induction j with
    | zero =>
      intro i ys ss o' n' hi hr hy hO' b1 b2
      have hi : i = N := by omega
      subst hi
      exact LCg.CompRest.zero (fin ys ss o' n' hr hy hO' b1 b2 (UpdF.again hU1 o'))
    | succ j ih =>
      intro i ys ss o' n' hi hr hy hO' b1 b2
      refine LCg.CompRest.succ ?_
      intro v I oI C oC D m₂ h tk E' hv hC hx F N' off ne
      have hd := LCg.Off3.mem off _ (UpdF.mem' hU1 o')
      refine wpAny_mono (turn i v I oI C oC D m₂ ys ss h tk o' n' E' (by omega) hv hr hy hC hx F N' (UpdF.tail (Ne.symm hd.1) (UpdF.tail (Ne.symm hd.2.1) (UpdF.tail (Ne.symm hd.2.2) (UpdF.again hU1 o')))) (fun o'' => off3 off) hO' b1 b2) (fun v s₂ hq => ?_) fun _ _ e => e
      obtain ⟨h', tk', nw, e, F', N', off', hS', o'', n'', z, t', hn, hO'', c1, c2, hy', hr'⟩ := hq
      subst hn
      refine ⟨h', tk', G o'', e, F', N', off', hS', ?_⟩
      rw [hy']
      exact ih (i + 1) _ _ o'' n'' (by omega) hr' (kct_snoc hy) hO'' c1 (by push_cast; omega)
  exact key N 0 [] [] o1 n1 (by omega) hR .nil hO1 (Int.le_refl _) (by simp)
theorem c2mem {α : Type} {a : α} {l r : List α} (h : a ∈ l) : a ∈ l ++ r := List.mem_append_left _ h
theorem lt_up {X : List (Addr × Obj)} {l k : Nat} (h : ∀ p ∈ X, p.1 < l) : ∀ p ∈ X, p.1 < l + k := fun p hp => Nat.lt_of_lt_of_le (h p hp) (Nat.le_add_right _ _)
theorem all_ne {X : List (Addr × Obj)} {L : Nat} {o : Obj} (l1 : ∀ p ∈ X, p.1 < L) : ∀ p ∈ (L + 1, o) :: X, p.1 ≠ L + 1 + 1 := fun p hp => by
  rcases List.mem_cons.mp hp with rfl | hp
  · exact Nat.ne_of_lt (Nat.lt_succ_self _)
  · exact Nat.ne_of_lt (Nat.lt_of_lt_of_le (l1 p hp) (by omega))
theorem ne_gt2 {p : Addr × Obj} {b : Addr} {P : Prop} (h : b < p.1 ∧ P) : p.1 ≠ b := Nat.ne_of_gt h.1
def argT : List Str := [Str.ofString "1", Str.ofString "(1,2)", Str.ofString "'a,b'", Str.ofString "\"x';\"", Str.ofString "A B", Str.ofString "((2),(3))", Str.ofString "", Str.ofString "\"(\""]
theorem off1_mem {D : Addr} : ∀ {l : List (Addr × Obj)}, LCg.Off1 D l → ∀ p ∈ l, p.1 ≠ D
  | [], _, _, h => nomatch h
  | q :: r, h, p, hp => by
    rcases List.mem_cons.mp hp with rfl | hp
    · exact h.1
    · exact off1_mem h.2 p hp
inductive Pads : List Str → List Str → Prop
  | nil : Pads [] []
  | snoc {a b p y q} : Pads a b → p ∈ [Str.ofString "", Str.ofString " "] → q ∈ [Str.ofString "", Str.ofString "\t "] → Pads (a ++ [y]) (b ++ [p ++ y ++ q])
theorem szC {a b : Str} (ha : a.length ≤ 50) (hb : b.length ≤ 50) : a.length + b.length ≤ sizeLine := by rw [PySem.sizeLine_eq]; omega
theorem szD {a b c : Str} (ha : a.length ≤ 50) (hb : b.length ≤ 50) (hc : c.length ≤ 50) : (a ++ b).length + c.length ≤ sizeLine := by rw [PySem.sizeLine_eq, str_len]; omega
theorem szE {a b : Str} (ha : a.length ≤ 2000) (hb : b.length ≤ 50) : a.length + b.length ≤ sizeLine := by rw [PySem.sizeLine_eq]; omega
theorem pads_take {ss zs : List Str} {i : Nat} {y p q : Str} (h : Pads (ss.take i) zs) (hy : ss[i]? = some y) (hp : p ∈ [Str.ofString "", Str.ofString " "]) (hq : q ∈ [Str.ofString "", Str.ofString "\t "]) : Pads (ss.take (i + 1)) (zs ++ [p ++ y ++ q]) := by
  rw [List.take_add_one, hy]
  exact Pads.snoc h hp hq
theorem pads_len {ss zs : List Str} (h : Pads ss zs) (hs : ∀ y ∈ ss, y.length ≤ 50) : zs.length = ss.length ∧ (zs.map (·.length)).sum ≤ 60 * ss.length := by
  induction h with
  | nil => exact ⟨rfl, Nat.le_refl _⟩
  | snoc h hp hq ih =>
    rename_i a b p y q
    obtain ⟨h1, h2⟩ := ih fun z hz => hs z (List.mem_append_left _ hz)
    have hy := hs y (List.mem_append_right _ (.head _))
    have lp : p.length ≤ 2 := of_decide_eq_true (List.all_eq_true.mp (show ([Str.ofString "", Str.ofString " "].all fun z => decide (z.length ≤ 2)) = true by decide +kernel) p hp)
    have lq : q.length ≤ 2 := of_decide_eq_true (List.all_eq_true.mp (show ([Str.ofString "", Str.ofString "\t "].all fun z => decide (z.length ≤ 2)) = true by decide +kernel) q hq)
    refine ⟨by simp [h1], ?_⟩
    rw [List.map_append, List.sum_append, List.length_append]
    simp only [List.map_cons, List.map_nil, List.sum_cons, List.sum_nil, List.length_cons, List.length_nil, str_len]
    omega
theorem join_len {zs : List Str} (h1 : zs.length ≤ 4) (h2 : (zs.map (·.length)).sum ≤ 240) : (Txt.join (Str.ofString ",") zs).length ≤ 2000 := by
  show (Builtin.Str.glued _ _).length ≤ 2000
  rw [size_glued]
  have : (Str.ofString ",").length = 1 := by decide
  rw [this]; omega
def outS (ss : List Str) : List Str := if ss = [] then [Str.ofString ""] else ss
def qsL (c : Nat) (q : List Nat) : List Nat := if q ≠ [] then (if [c] = q then [] else q) else if c = 59 then q else if c = 39 ∨ c = 34 then [c] else q
def dsL (c : Nat) (q : List Nat) (dep : Int) : Int := if q ≠ [] then dep else if c = 59 then dep else if c = 39 ∨ c = 34 then dep else if c = 40 then dep + 1 else if c = 41 then dep - 1 else dep
def splL : Nat → List Nat → List Nat → Int → List Nat → List Str
  | 0, _, here, _, _ => [Txt.strip ⟨here.toArray⟩]
  | _ + 1, [], here, _, _ => [Txt.strip ⟨here.toArray⟩]
  | n + 1, c :: r, here, dep, q =>
    if q = [] ∧ 0 < atomL (c :: r) then splL n ((c :: r).drop (atomL (c :: r))) (here ++ (c :: r).take (atomL (c :: r))) dep q
    else if q = [] ∧ c = 59 then [Txt.strip ⟨here.toArray⟩]
    else if c = 44 ∧ dsL c q dep = 0 ∧ qsL c q = [] then Txt.strip ⟨here.toArray⟩ :: splL n r [] (dsL c q dep) (qsL c q)
    else splL n r (here ++ [c]) (dsL c q dep) (qsL c q)
theorem o_semi : Str.ofString ";" = ⟨[59].toArray⟩ := by decide +kernel
theorem o_lp : Str.ofString "(" = ⟨[40].toArray⟩ := by decide +kernel
theorem o_rp : Str.ofString ")" = ⟨[41].toArray⟩ := by decide +kernel
theorem o_com : Str.ofString "," = ⟨[44].toArray⟩ := by decide +kernel
theorem quo (c : Nat) : ([Str.ofString "'", Str.ofString "\""].any fun y => y == (⟨[c].toArray⟩ : Str)) = decide (c = 39 ∨ c = 34) := by
  simp only [o_sq, o_dq, List.any_cons, List.any_nil, Bool.or_false, str_beq]
  have c1 : ([39] = [c]) = (c = 39) := by simp [eq_comm]
  have c2 : ([34] = [c]) = (c = 34) := by simp [eq_comm]
  simp only [c1, c2, Bool.decide_or]
theorem qs_eq (c : Nat) (q : List Nat) : qStep ⟨[c].toArray⟩ ⟨q.toArray⟩ = ⟨(qsL c q).toArray⟩ := by
  unfold qStep qsL
  rw [quo]
  have c1 : ([c] = [59]) = (c = 59) := by simp
  simp only [o_nil, o_semi, bne, str_beq, c1, Bool.not_eq_true', decide_eq_false_iff_not, decide_eq_true_eq, ne_eq]
  split
  · split <;> rfl
  · split
    · rfl
    · split <;> rfl
theorem ds_eq (c : Nat) (q : List Nat) (dep : Int) : dStep ⟨[c].toArray⟩ ⟨q.toArray⟩ dep = dsL c q dep := by
  unfold dStep dsL
  rw [quo]
  have c1 : ([c] = [59]) = (c = 59) := by simp
  have c2 : ([c] = [40]) = (c = 40) := by simp
  have c3 : ([c] = [41]) = (c = 41) := by simp
  simp only [o_nil, o_semi, o_lp, o_rp, bne, str_beq, c1, c2, c3, Bool.not_eq_true', decide_eq_false_iff_not, decide_eq_true_eq, ne_eq]
theorem splF_eq {x : Str} : ∀ (n : Nat) (i : Int) (here : List Nat) (dep : Int) (q : List Nat), 0 ≤ i → (∀ c ∈ x.cps.toList.drop i.toNat, c ≠ 36 ∧ c ≠ 37) →
    splF n x i ⟨here.toArray⟩ dep ⟨q.toArray⟩ = splL n (x.cps.toList.drop i.toNat) here dep q := by
  intro n
  induction n with
  | zero => intro i here dep q _ _; rfl
  | succ n ih =>
    intro i here dep q h0 hc
    rcases Int.lt_or_le i (x.length : Int) with hi | hi
    · obtain ⟨c, hit, hd⟩ := drop_item h0 hi
      have hcc := hc c (by rw [hd]; exact .head _)
      have ha := atomI_eq h0 hd hcc.1 hcc.2
      rw [hd, splF, if_pos hi, splL, hit, one_arr, qs_eq, ds_eq, ← hd, o_nil, o_semi, o_com, str_beq, str_beq, str_beq, str_beq]
      have c1 : ([c] = [59]) = (c = 59) := by simp
      have c2 : ([c] = [44]) = (c = 44) := by simp
      simp only [decide_eq_true_eq, c1, c2]
      have iff : (q = [] ∧ i < atomI x i) ↔ (q = [] ∧ 0 < atomL (x.cps.toList.drop i.toNat)) := by
        rw [hd, ha]
        constructor
        · rintro ⟨a, b⟩; exact ⟨a, by omega⟩
        · rintro ⟨a, b⟩; exact ⟨a, by omega⟩
      by_cases hq : q = [] ∧ 0 < atomL (x.cps.toList.drop i.toNat)
      · rw [if_pos (iff.mpr hq), if_pos hq]
        have hs : Txt.slice x (some i) (some (atomI x i)) = ⟨((x.cps.toList.drop i.toNat).take (atomL (x.cps.toList.drop i.toNat))).toArray⟩ := by
          rw [ha, slice_at h0 (by omega), hd]; congr 3; omega
        have hd2 : x.cps.toList.drop (atomI x i).toNat = (x.cps.toList.drop i.toNat).drop (atomL (x.cps.toList.drop i.toNat)) := by
          have := drop_at h0 rfl (x := x) (atomL (x.cps.toList.drop i.toNat))
          rw [← this, ha, hd]
        rw [hs, mk_app, ih (atomI x i) _ dep q (by rw [ha]; omega) (fun c' h' => hc c' (by rw [hd2] at h'; exact List.mem_of_mem_drop h')), hd2]
      · rw [if_neg (fun h => hq (iff.mp h)), if_neg hq]
        have hc2 : ∀ c' ∈ x.cps.toList.drop (i + 1).toNat, c' ≠ 36 ∧ c' ≠ 37 := fun c' h' => hc c' (by rw [hd]; exact .tail _ h')
        split
        · rfl
        · split
          · rw [ih (i + 1) _ _ _ (by omega) hc2]
          · rw [mk_app, ih (i + 1) _ _ _ (by omega) hc2]
    · have hn := drop_none hi
      rw [hn, splF, if_neg (by omega), splL]
def argTL : List (List Nat) := [[49], [40, 49, 44, 50, 41], [39, 97, 44, 98, 39], [34, 120, 39, 59, 34], [65, 32, 66], [40, 40, 50, 41, 44, 40, 51, 41, 41], [], [34, 40, 34]]
theorem argT_eq : argT = argTL.map fun p => ⟨p.toArray⟩ := by decide +kernel
theorem chunk {one : List Nat} (h : one ∈ argTL) {p q : List Nat} (hp : p = [] ∨ p = [32]) (hq : q = [] ∨ q = [9, 32]) {rest r : List Nat} (hr : rest = [] ∨ rest = 44 :: r ∨ rest = 59 :: r ∨ rest = 32 :: r) (m : Nat) :
    splL (m + (p ++ one ++ q).length) (p ++ one ++ q ++ rest) [] 0 [] = splL m rest (p ++ one ++ q) 0 [] := by
  simp only [argTL, List.mem_cons, List.not_mem_nil, or_false] at h
  rcases hr with rfl | rfl | rfl | rfl <;> rcases hp with rfl | rfl <;> rcases hq with rfl | rfl <;> rcases h with rfl | rfl | rfl | rfl | rfl | rfl | rfl | rfl
  all_goals rfl
inductive PadsC : List Str → List Str → Prop
  | nil : PadsC [] []
  | cons {a b p y q} : p ∈ [Str.ofString "", Str.ofString " "] → q ∈ [Str.ofString "", Str.ofString "\t "] → PadsC a b → PadsC (y :: a) ((p ++ y ++ q) :: b)
theorem padsC_snoc {a b : List Str} {p y q : Str} (h : PadsC a b) (hp : p ∈ [Str.ofString "", Str.ofString " "]) (hq : q ∈ [Str.ofString "", Str.ofString "\t "]) : PadsC (a ++ [y]) (b ++ [p ++ y ++ q]) := by
  induction h with
  | nil => exact .cons hp hq .nil
  | cons h1 h2 _ ih => exact .cons h1 h2 ih
theorem pads_c {a b : List Str} (h : Pads a b) : PadsC a b := by
  induction h with
  | nil => exact .nil
  | snoc _ hp hq ih => exact padsC_snoc ih hp hq
theorem strips : (argTL.all fun one => [[], [32]].all fun p => [[], [9, 32]].all fun q => decide (Txt.strip ⟨(p ++ one ++ q).toArray⟩ = ⟨one.toArray⟩) && decide (Txt.strip ⟨(p ++ one ++ q ++ [32]).toArray⟩ = ⟨one.toArray⟩) && (p ++ one ++ q).all fun c => decide (c ≠ 36 ∧ c ≠ 37)) = true := by decide +kernel
theorem pad_item {p y q : Str} (hp : p ∈ [Str.ofString "", Str.ofString " "]) (hq : q ∈ [Str.ofString "", Str.ofString "\t "]) (hy : y ∈ argT) : ∃ pl one ql : List Nat, one ∈ argTL ∧ (pl = [] ∨ pl = [32]) ∧ (ql = [] ∨ ql = [9, 32]) ∧ p ++ y ++ q = ⟨(pl ++ one ++ ql).toArray⟩ ∧
    Txt.strip ⟨(pl ++ one ++ ql).toArray⟩ = y ∧ Txt.strip ⟨(pl ++ one ++ ql ++ [32]).toArray⟩ = y ∧ ∀ c ∈ pl ++ one ++ ql, c ≠ 36 ∧ c ≠ 37 := by
  rw [argT_eq] at hy
  obtain ⟨one, ho, rfl⟩ := List.mem_map.mp hy
  have h1 : ∃ pl, p = ⟨pl.toArray⟩ ∧ (pl = [] ∨ pl = [32]) := by
    rcases List.mem_cons.mp hp with rfl | hp
    · exact ⟨[], o_nil, .inl rfl⟩
    · rw [List.mem_singleton.mp hp]; exact ⟨[32], by decide +kernel, .inr rfl⟩
  have h2 : ∃ ql, q = ⟨ql.toArray⟩ ∧ (ql = [] ∨ ql = [9, 32]) := by
    rcases List.mem_cons.mp hq with rfl | hq
    · exact ⟨[], o_nil, .inl rfl⟩
    · rw [List.mem_singleton.mp hq]; exact ⟨[9, 32], by decide +kernel, .inr rfl⟩
  obtain ⟨pl, rfl, hpl⟩ := h1
  obtain ⟨ql, rfl, hql⟩ := h2
  have hs := List.all_eq_true.mp (List.all_eq_true.mp (List.all_eq_true.mp strips one ho) pl (by rcases hpl with rfl | rfl <;> simp)) ql (by rcases hql with rfl | rfl <;> simp)
  simp only [Bool.and_eq_true, decide_eq_true_eq, List.all_eq_true] at hs
  exact ⟨pl, one, ql, ho, hpl, hql, by rw [mk_app, mk_app], hs.1.1, hs.1.2, hs.2⟩
def tailsL : List (List Nat) := [[], [59], [32, 59, 32, 115, 111, 44, 32, 39, 105, 116]]
theorem tails_eq : [Str.ofString "", Str.ofString ";", Str.ofString " ; so, 'it"] = tailsL.map fun l => ⟨l.toArray⟩ := by decide +kernel
theorem join_cons (z z2 : Str) (b : List Str) : (Str.join (Str.ofString ",") (z :: z2 :: b)).cps.toList = z.cps.toList ++ 44 :: (Str.join (Str.ofString ",") (z2 :: b)).cps.toList := by
  show (z ++ Str.ofString "," ++ Str.join (Str.ofString ",") (z2 :: b)).cps.toList = _
  rw [app_list, app_list, o_com, str_list]; simp
theorem run_args {ss zs : List Str} (h : PadsC ss zs) (ha : ∀ y ∈ ss, y ∈ argT) (hz : zs ≠ []) {tl : List Nat} (ht : tl ∈ tailsL) : (∀ c ∈ (Str.join (Str.ofString ",") zs).cps.toList, c ≠ 36 ∧ c ≠ 37) ∧ ∀ fuel, (Str.join (Str.ofString ",") zs).cps.toList.length + tl.length ≤ fuel → splL fuel ((Str.join (Str.ofString ",") zs).cps.toList ++ tl) [] 0 [] = ss := by
  induction h with
  | nil => exact absurd rfl hz
  | cons hp hq hr ih =>
    rename_i a b p y q
    obtain ⟨pl, one, ql, ho, hpl, hql, e, s1, s2, hc⟩ := pad_item hp hq (ha y (.head _))
    rw [e]
    cases hr with
    | nil =>
      show (∀ c ∈ (Str.mk (pl ++ one ++ ql).toArray).cps.toList, c ≠ 36 ∧ c ≠ 37) ∧ ∀ fuel, (Str.mk (pl ++ one ++ ql).toArray).cps.toList.length + tl.length ≤ fuel → splL fuel ((Str.mk (pl ++ one ++ ql).toArray).cps.toList ++ tl) [] 0 [] = [y]
      rw [str_list]
      refine ⟨hc, fun fuel hf => ?_⟩
      obtain ⟨m, rfl⟩ : ∃ m, fuel = m + (pl ++ one ++ ql).length := ⟨fuel - (pl ++ one ++ ql).length, by omega⟩
      simp only [tailsL, List.mem_cons, List.not_mem_nil, or_false] at ht
      rcases ht with rfl | rfl | rfl
      · rw [chunk ho hpl hql (rest := []) (r := []) (.inl rfl) m]
        have z : splL m [] (pl ++ one ++ ql) 0 [] = [Txt.strip ⟨(pl ++ one ++ ql).toArray⟩] := by cases m <;> rfl
        rw [z, s1]
      · rw [chunk ho hpl hql (rest := [59]) (r := []) (.inr (.inr (.inl rfl))) m]
        obtain ⟨k, rfl⟩ : ∃ k, m = k + 1 := ⟨m - 1, by simp only [List.length_cons, List.length_nil] at hf; omega⟩
        have z : splL (k + 1) [59] (pl ++ one ++ ql) 0 [] = [Txt.strip ⟨(pl ++ one ++ ql).toArray⟩] := rfl
        rw [z, s1]
      · rw [chunk ho hpl hql (rest := [32, 59, 32, 115, 111, 44, 32, 39, 105, 116]) (r := [59, 32, 115, 111, 44, 32, 39, 105, 116]) (.inr (.inr (.inr rfl))) m]
        obtain ⟨k, rfl⟩ : ∃ k, m = k + 2 := ⟨m - 2, by simp only [List.length_cons, List.length_nil] at hf; omega⟩
        have z : splL (k + 2) [32, 59, 32, 115, 111, 44, 32, 39, 105, 116] (pl ++ one ++ ql) 0 [] = [Txt.strip ⟨(pl ++ one ++ ql ++ [32]).toArray⟩] := rfl
        rw [z, s2]
    | cons hp2 hq2 hr2 =>
      rename_i a2 b2 p2 y2 q2
      obtain ⟨c1, e1⟩ := ih (fun y hy => ha y (.tail _ hy)) (by simp)
      rw [join_cons, str_list]
      constructor
      · intro c h
        rcases List.mem_append.mp h with h | h
        · exact hc c h
        · rcases List.mem_cons.mp h with rfl | h
          · omega
          · exact c1 c h
      · intro fuel hf
        rw [List.length_append, List.length_cons] at hf
        obtain ⟨m, rfl⟩ : ∃ m, fuel = m + 1 + (pl ++ one ++ ql).length := ⟨fuel - 1 - (pl ++ one ++ ql).length, by omega⟩
        rw [show pl ++ one ++ ql ++ 44 :: (Str.join (Str.ofString ",") ((p2 ++ y2 ++ q2) :: b2)).cps.toList ++ tl = pl ++ one ++ ql ++ (44 :: ((Str.join (Str.ofString ",") ((p2 ++ y2 ++ q2) :: b2)).cps.toList ++ tl)) by simp, chunk ho hpl hql (rest := 44 :: ((Str.join (Str.ofString ",") ((p2 ++ y2 ++ q2) :: b2)).cps.toList ++ tl)) (r := (Str.join (Str.ofString ",") ((p2 ++ y2 ++ q2) :: b2)).cps.toList ++ tl) (.inr (.inl rfl)) (m + 1)]
        have z : ∀ X, splL (m + 1) (44 :: X) (pl ++ one ++ ql) 0 [] = Txt.strip ⟨(pl ++ one ++ ql).toArray⟩ :: splL m X [] 0 [] := fun _ => rfl
        rw [z, s1, e1 m (by omega)]
theorem no_args : (tailsL.all fun l => decide (splF (Str.mk l.toArray).length (Str.mk l.toArray) 0 (Str.ofString "") 0 (Str.ofString "") = [Str.ofString ""])) = true := by decide +kernel
theorem args_law {ss zs : List Str} {tl : Str} (h : Pads ss zs) (hs : ss.length ≤ 4) (ha : ∀ y ∈ ss, y ∈ argT) (ht : tl ∈ [Str.ofString "", Str.ofString ";", Str.ofString " ; so, 'it"]) :
    splF (Txt.join (Str.ofString ",") zs ++ tl).length (Txt.join (Str.ofString ",") zs ++ tl) 0 (Str.ofString "") 0 (Str.ofString "") = outS ss := by
  rw [tails_eq] at ht
  obtain ⟨tll, ht2, rfl⟩ := List.mem_map.mp ht
  have hj : Txt.join (Str.ofString ",") zs = Str.join (Str.ofString ",") zs := StrLaws.glued_eq_join _ _
  rw [hj]
  have hC := pads_c h
  cases hC with
  | nil =>
    have e : Str.join (Str.ofString ",") [] ++ (Str.mk tll.toArray) = Str.mk tll.toArray := e_app _
    rw [e]
    exact of_decide_eq_true (List.all_eq_true.mp no_args tll ht2)
  | cons hp hq hr =>
    rename_i a b p y q
    obtain ⟨hc, hrun⟩ := run_args (PadsC.cons hp hq hr) ha (by simp) ht2
    generalize hX : Str.join (Str.ofString ",") ((p ++ y ++ q) :: b) = J at hc hrun ⊢
    have hl : (J ++ Str.mk tll.toArray).cps.toList = J.cps.toList ++ tll := by rw [app_list, str_list]
    have hc' : ∀ c ∈ (J ++ Str.mk tll.toArray).cps.toList.drop (0 : Int).toNat, c ≠ 36 ∧ c ≠ 37 := by
      intro c h
      rw [hl] at h
      rcases List.mem_append.mp h with h | h
      · exact hc c h
      · exact of_decide_eq_true (List.all_eq_true.mp (List.all_eq_true.mp (show (tailsL.all fun l => l.all fun c => decide (c ≠ 36 ∧ c ≠ 37)) = true by decide) tll ht2) c h)
    have h1 := splF_eq (x := J ++ Str.mk tll.toArray) (J ++ Str.mk tll.toArray).length 0 [] 0 [] (by omega) hc'
    rw [o_nil, h1]
    show splL _ (J ++ Str.mk tll.toArray).cps.toList [] 0 [] = _
    rw [hl, hrun _ (by rw [str_len]; show J.cps.toList.length + tll.length ≤ J.length + tll.length; rw [len_cps]; exact Nat.le_refl _)]
    unfold outS
    rw [if_neg (by simp)]
theorem split_out {x : Str} {ss : List Str} (h : splF x.length x 0 (Str.ofString "") 0 (Str.ofString "") = outS ss) : splitS x = if ss = [Str.ofString ""] then [] else ss := by
  unfold splitS; rw [h]; unfold outS
  by_cases h0 : ss = []
  · subst h0; simp
  · rw [if_neg h0]
theorem ok_arg {ss : List Str} (ha : ∀ y ∈ ss, y ∈ argT) : ∀ y ∈ ss, PyData.strOk y = true := fun y h => List.all_eq_true.mp (show (argT.all fun z => PyData.strOk z) = true by decide +kernel) y (ha y h)
theorem ok_out {ss : List Str} (ha : ∀ y ∈ ss, PyData.strOk y = true) : ∀ y ∈ outS ss, PyData.strOk y = true := by
  unfold outS
  split
  · decide +kernel
  · exact ha
theorem ok_if {ss : List Str} (ha : ∀ y ∈ ss, PyData.strOk y = true) : ∀ y ∈ (if ss = [Str.ofString ""] then [] else ss), PyData.strOk y = true := by
  split
  · exact fun y h => nomatch h
  · exact ha
theorem txt_len {x y : Str} (h : x.length ≤ 2000) (h2 : y.length ≤ 50) : (x ++ y).length ≤ 2 ^ 16 := by rw [str_len]; omega
theorem c_args (w mean mg mb) (d : Addr) : CW w mean mg mb 15 200 101 d := by
  k_with_none
  k_with "m_al" => first | with_reducible assumption | exact And.right (by first | with_reducible assumption | exact And.right (by first | with_reducible assumption | exact And.right (by first | with_reducible assumption | exact And.right (by first | with_reducible assumption | exact And.right (by first | with_reducible assumption | exact And.right (by first | with_reducible assumption | exact And.right (by first | with_reducible assumption | exact And.right (by first | with_reducible assumption | exact And.right (by with_reducible assumption)))))))))
  k_with "m_hc" => first | exact hcm | exact UpdF.keep hU hcm hcd _ | (refine List.mem_cons_of_mem _ ?_; k_extra "m_hc")
  k_with "m_inWC" => (w_top off; dsimp only [CW]; k_fill; intros; rename_i hU hO lo hcm hcd hi hlen hn0 hk0 hk1 hret; refine wpAny_call ?_; k_dflt (refine' code_defC ?k1 ?k2 ?k3 ?k4 ?k5 ?kA ?kF ?kK ?k6 ?k7 ?k8 ?k9 ?kB ?kD ?_ ?c2 ?c3 ?c4); (case kA => exact rfl); (case kF => exact rfl); (case kK => assumption); (case k1 => k_asm); (case k2 => k_asm); (case k3 => k_asm); (case k4 => k_asm); (case k5 => k_asm); (case k6 => k_is); (case k7 => k_is); (case k8 => ktr_room); (case k9 => exact BindsTo.of_eq rfl); (case kB => exact rfl); (case kD => decide +kernel); (case c2 => exact rfl); (case c3 => exact rfl); (case c4 => exact rfl); k_whole; intro g' L' h' tk' cells' FG' F' N' Y' B' X' T' l1; (try k_lt l1); k_cells Y'; (try simp only [List.cons_append, List.nil_append] at N'); (try dsimp only); (try k_lift B'); (try k_fold))
  k_with "m_lt" => first | with_reducible assumption | exact ktn_ltOf (by k_extra "m_al")
  k_with "m_mem" => first | exact List.mem_cons_self | (refine List.mem_cons_of_mem _ ?_; k_extra "m_mem")
  k_with "m_sub" => first | exact sub0 | (refine sub1 ?_; k_extra "m_sub")
  k_with "m_texts" => first | with_reducible assumption | exact StrsAre.nil | exact StrsAre.cons _ _ (by k_extra "m_texts")
  k_with "m_txt" => first | exact tx_one | exact hS8 | exact hy | exact StrsAre.nil
  k_with "m_upd0" => first | exact hU | exact UpdF.again hU _ | exact UpdF.tail (ne_lt (by first | k_extra "m_lt" | exact lt_up (by with_reducible assumption) | exact lt_up (lt_up (by with_reducible assumption))) (UpdF.mem hU)) (by k_extra "m_upd0")
  k_with "m_upd1" => first | exact hU2 | exact UpdF.again hU2 _ | exact UpdF.tail (ne_lt (by k_extra "m_lt") (UpdF.mem' hU _)) (by k_extra "m_upd1")
  k_with "call ref" => (k_here; refine CH.use (c_haul _ _ _ _ _ _ _ (by decide) (by decide)) (by k_asm) (by k_asm) (by k_asm) (by k_asm) (by k_asm) (by first | exact rfl | assumption) (by exact room_le (by with_reducible assumption) (by with_unfolding_all rfl) (by decide)) (by exact units_le (by with_reducible assumption) (by with_unfolding_all rfl) (by decide)) (by first | exact hU2 | exact UpdF.again hU2 _ | k_extra "m_upd0") (by with_reducible assumption) lo (by k_extra "m_hc") hcd hi hlen (by omega) hk0 hk1 ?_; intro v9 t9 h9 tk9 o9 hv0 hv1 F9 N9 hO9; (try dsimp only at F9 N9); (try k_fold))
  k_with "subscriptTail" => (k_here; (with_reducible show wpAny _ _ (subscriptTail _ _ (Value.ref _) (Value.int v9 _)) _ _ _); k_dflt (refine pick_str (by k_asm) (by k_extra "m_mem") (by k_extra "m_texts") hv0 (by with_unfolding_all exact hv1) (by decide +kernel) ?_); intro y9 u9 hy9)
  k_with "CompSrc" => refine stop_of ?_
  k_with "storeName" => (k_here; k_dflt (refine' storeX_C ?F ?N ?c ?U ?d ?_ ?a ?b; (case a => rfl); (case b => rfl); (case F => k_asm); (case N => k_asm); (case c => rfl); (case U => exact UpdF.tail (ne_gt2 (by with_reducible assumption)) (UpdF.head (all_ne l1))); (case d => k_asm); k_whole; intro h' o' F' N' d'; (try dsimp only at N'); (try k_sweep)))
  k_with "binaryOp Add str str" => (k_here; (with_reducible show wpAny _ _ (binaryOp Operator.Add (Value.str _ _) (Value.str _ _)) _ _ _); refine PyProof.Rows.add_str ?_ (by first | exact szC (by with_reducible assumption) (by with_reducible assumption) | exact szD (by with_reducible assumption) (by with_reducible assumption) (by with_reducible assumption) | exact szE (by with_reducible assumption) (by with_reducible assumption)); intro _ _)
  k_with "call ref" => (k_here; refine CH.use (c_haul _ _ _ _ _ _ _ (by decide) (by decide)) (by k_asm) (by k_asm) (by k_asm) (by k_asm) (by k_asm) (by first | exact rfl | assumption) (by exact room_le (by with_reducible assumption) (by with_unfolding_all rfl) (by decide)) (by exact units_le (by with_reducible assumption) (by with_unfolding_all rfl) (by decide)) (by first | k_extra "m_upd1" | k_extra "m_upd0") (by with_reducible assumption) lo (by k_extra "m_hc") hcd hi hlen (by omega) hk0 hk1 ?_; intro v9 t9 h9 tk9 o9 hv0 hv1 F9 N9 hO9; (try dsimp only at F9 N9); (try k_fold))
  k_with "subscriptTail" => (k_here; (with_reducible show wpAny _ _ (subscriptTail _ _ (Value.ref _) (Value.int v9 _)) _ _ _); k_dflt (refine pick_str (by k_asm) (by k_extra "m_mem") (by k_extra "m_texts") hv0 (by with_unfolding_all exact hv1) (by decide +kernel) ?_); intro y9 u9 hy9; (have hl9 := pick_len hy9 (by decide +kernel)))
  k_with "call ref" => (k_here; refine CL.use (c_split _ _ _ _ _ _ (txt_len hjl hl9) (by rw [hlaw _ hy9]; exact ok_out hokD)) (by k_asm) (by k_asm) (by k_asm) (by k_asm) (by k_asm) (by first | exact rfl | assumption) (by exact room_le (by with_reducible assumption) (by with_unfolding_all rfl) (by decide)) (by exact units_le (by with_reducible assumption) (by with_unfolding_all rfl) (by decide)) ?_; intro l8 ys8 k8 h8 tk8 hS8 F8 N8 lt8; (try dsimp only at F8 N8); rw [split_out (hlaw _ hy9)] at hS8; (try k_fold))
  k_with "call builtin:str.join" => (k_here; refine join_listC (ys := zs) ⟨_, (N' _ List.mem_cons_self).1, rfl, _, rfl⟩ (by simpa using hw) (by decide) hsum ?_; intro _ _)
  k_with "compareOp Eq ref ref" => (k_here; (with_reducible show wpAny _ _ (compareOp CmpOp.Eq (Value.ref _) (Value.ref _)) _ _ _); k_dflt (refine eq_texts (by k_asm) (by k_extra "m_mem") (by k_extra "m_mem") (by k_extra "m_txt") (by k_extra "m_txt") (by first | exact hokD | exact ok_if hokD) (by first | exact hokD | decide +kernel) (by ktr_units) ?_))
  k_extra "m_inWC"
  k_steps
  refine ⟨?_⟩
  refine LCg.CompSrc.range rfl (by k_asm) (by k_asm) (by assumption) (small_one (by omega) (by omega) (by omega) (by omega)) (rangeSize_nat _ _) (by rw [PySem.sizeLine_eq]; omega) (fun g9 => ?_)
  rename News _ _ _ _ => nN
  have hU1 := upd_news nN (by k_extra "m_upd0")
  refine sled_turns (fun i ss => ss.length = i ∧ ∀ y ∈ ss, y ∈ argT) hU1 rfl hO9 ⟨rfl, fun _ h => nomatch h⟩ (fun _ => trivial) ?_ ?_
  · intro i v I oI C oC D m₂ ys ss h tk o' n' E' hi2 hv hR hy hC' hx' F' N' hU2 off' hO' b1 b2
    try dsimp only at N' hU2
    k_steps
    refine LCg.CompEnd.intro F9 N9 _ sub0 (off' _) trivial ⟨o9, n' + 1, y9, u9, rfl, hO9, by omega, by omega, rfl, by rw [List.length_append, hR.1]; rfl, fun y h => ?_⟩
    rcases List.mem_append.mp h with h | h
    · exact hR.2 y h
    · rw [List.mem_singleton.mp h]; exact hy9
  · intro ys ss o' n' hR hy hO' b1 b2 hU2 D h tk F' N' off'
    have hnD := Ne.symm (off1_mem off' _ (UpdF.mem hU2))
    have hyl : ys.length = ss.length := StrsAre.length hy
    have hsl : ss.length ≤ 4 := by omega
    try dsimp only at N' hU2
    k_steps
    refine ⟨?_⟩
    have hU3 := UpdF.tail (p := (D, LCg.lst ys)) hnD hU2
    refine LCg.CompSrc.ledger (its := ys.toArray) (k := ys.length) rfl (by k_asm) (by k_asm) List.mem_cons_self (by rw [List.size_toArray, PySem.sizeLine_eq]; omega) (fun g8 => ?_)
    refine sled_turns (fun i zs => Pads (ss.take i) zs) hU3 rfl hO' Pads.nil (fun _ => .inr ⟨_, List.mem_cons_self, rfl, _, rfl⟩) ?_ ?_
    · intro i v I oI C oC D2 m₂ ws zs h tk o' n' E' hi2 hv hR2 hw hC' hx' F' N' hU2 off' hO' c1 c2
      rw [List.size_toArray] at hi2
      have hone : ss[i]? = some ss[i] := List.getElem?_eq_getElem (by omega)
      obtain ⟨t6, ht6⟩ := hy.at hone
      have hv6 : v = .str ss[i] t6 := by
        have hv' : ys[i]? = some v := by simpa using hv
        rw [ht6] at hv'; exact (Option.some.inj hv').symm
      subst hv6
      have hl6 : (ss[i]).length ≤ 50 := pick_len (hR.2 _ (List.getElem_mem _)) (by decide +kernel)
      generalize ss[i] = one at hone hx' hl6 hR2
      try dsimp only at N' hU2
      k_steps
      exact LCg.CompEnd.intro (by k_asm) N9 _ (by k_extra "m_sub") (off' _) (.inr ⟨_, List.mem_cons_self, rfl, _, rfl⟩) ⟨o9, n' + 1 + 1, _, _, rfl, hO9, by omega, by omega, rfl, pads_take hR2 hone (by assumption) (by assumption)⟩
    · intro ws zs o' n' hR2 hw hO' c1 c2 hU2 D2 h tk F' N' off2
      rw [List.size_toArray, hyl, List.take_length] at hR2
      rw [List.size_toArray, hyl] at c2
      try dsimp only at N' hU2
      have hnD2 := Ne.symm (off1_mem off2 _ (UpdF.mem hU2))
      have hU2 := UpdF.tail (p := (D2, LCg.lst ws)) hnD2 hU2
      have hokD := ok_arg hR.2
      obtain ⟨hzl, hzs⟩ := pads_len hR2 (fun y hy => pick_len (hR.2 y hy) (by decide +kernel))
      have hjl := join_len (zs := zs) (by omega) (by omega)
      have hsum : (zs.map (·.length)).sum + zs.length * 64 ≤ 16777216 := by omega
      have hlaw := fun tl ht => args_law (tl := tl) hR2 hsl hR.2 ht
      k_steps
      · rw [if_pos (by with_reducible assumption), decide_eq_true rfl]
        exact hret _ _ o9 _ (by omega) (by k_asm) (cb_drop (by assumption) (by k_extra "m_sub")) hO9
      · rw [if_neg (by with_reducible assumption), decide_eq_true rfl]
        exact hret _ _ o9 _ (by omega) (by k_asm) (cb_drop (by assumption) (by k_extra "m_sub")) hO9
end
section
open PySem PySem.W PyProof PyProof.Rows PySem.Calls
set_option Elab.async false
set_option maxRecDepth 100000
set_option maxHeartbeats 8000000
set_option pp.deepTerms false
set_option pp.maxSteps 30000
set_option linter.unusedSimpArgs false
set_option linter.unusedVariables false
theorem txt3_len {x y z : Str} (h : x.length ≤ 50) (h2 : y.length ≤ 50) (h3 : z.length ≤ 50) : (x ++ y ++ z).length ≤ 2 ^ 16 := by rw [str_len, str_len]; omega
def tlA : List Str := [Str.ofString "", Str.ofString "L1: ", Str.ofString "MACX ", Str.ofString "_MAC MAC2: ", Str.ofString "\t"]
def tlW : List Str := [Str.ofString "MAC", Str.ofString "mac", Str.ofString "Mac", Str.ofString "MACS"]
def tlB : List Str := [Str.ofString " 1,MAC", Str.ofString "", Str.ofString ",mac", Str.ofString " ; MAC", Str.ofString " MAC+1"]
def dueT (w b : Str) : Str := if (w != Str.ofString "MACS") = true then b else if (b == Str.ofString " MAC+1") = true then Str.ofString "+1" else Str.ofString ""
def tailX (x : Str) : Str := tailF x (capS x) (Str.ofString "MAC") x.length 0
def tailOk (a : Str) : Bool := tlW.all fun w => tlB.all fun b => tailX (a ++ w ++ b) == dueT w b
theorem tail_0 : tailOk (Str.ofString "") = true := by decide +kernel
theorem tail_1 : tailOk (Str.ofString "L1: ") = true := by decide +kernel
theorem tail_2 : tailOk (Str.ofString "MACX ") = true := by decide +kernel
theorem tail_3 : tailOk (Str.ofString "_MAC MAC2: ") = true := by decide +kernel
theorem tail_4 : tailOk (Str.ofString "\t") = true := by decide +kernel
theorem tail_all : tlA.all tailOk = true := by
  simp only [tlA, List.all_cons, List.all_nil, tail_0, tail_1, tail_2, tail_3, tail_4, Bool.and_self]
theorem tail_law {a w b : Str} (ha : a ∈ tlA) (hw : w ∈ tlW) (hb : b ∈ tlB) : tailF (a ++ w ++ b) (capS (a ++ w ++ b)) (Str.ofString "MAC") (a ++ w ++ b).length 0 = dueT w b := by
  have h0 : tailOk a = true := List.all_eq_true.mp tail_all a ha
  have h := List.all_eq_true.mp (List.all_eq_true.mp h0 w hw) b hb
  exact beq_iff_eq.mp h
theorem due1 {w b : Str} (h : (w != Str.ofString "MACS") = true) : dueT w b = b := by unfold dueT; rw [if_pos h]
theorem due2 {w b : Str} (h : (w != Str.ofString "MACS") = false) (h2 : (b == Str.ofString " MAC+1") = true) : dueT w b = Str.ofString "+1" := by unfold dueT; rw [h, h2]; rfl
theorem due3 {w b : Str} (h : (w != Str.ofString "MACS") = false) (h2 : (b == Str.ofString " MAC+1") = false) : dueT w b = Str.ofString "" := by unfold dueT; rw [h, h2]; rfl
theorem c_tailR (w mean mg mb) (d : Addr) : CW w mean mg mb 15 200 108 d := by
  k_with_none
  k_with "m_al" => first | with_reducible assumption | exact And.right (by first | with_reducible assumption | exact And.right (by first | with_reducible assumption | exact And.right (by first | with_reducible assumption | exact And.right (by first | with_reducible assumption | exact And.right (by first | with_reducible assumption | exact And.right (by with_reducible assumption))))))
  k_with "m_hc" => first | exact hcm | exact UpdF.keep hU hcm hcd _ | (refine List.mem_cons_of_mem _ ?_; k_extra "m_hc")
  k_with "m_inW" => (w_top off; dsimp only [CW]; k_fill; intros; rename_i hU hO lo hcm hcd hi hlen hn0 hk0 hk1 hret; refine wpAny_call ?_; k_dflt cell_enter)
  k_with "m_lt" => first | with_reducible assumption | exact ktn_ltOf (by k_extra "m_al")
  k_with "m_mem" => first | exact List.mem_cons_self | (refine List.mem_cons_of_mem _ ?_; k_extra "m_mem")
  k_with "m_sub" => first | exact sub0 | (refine sub1 ?_; k_extra "m_sub")
  k_with "m_texts" => first | with_reducible assumption | exact StrsAre.nil | exact StrsAre.cons _ _ (by k_extra "m_texts")
  k_with "m_upd" => first | exact hU | exact UpdF.again hU _ | exact UpdF.tail (by first | exact ne_lt (by k_extra "m_lt") (UpdF.mem hU) | exact ne_lt (by k_extra "m_lt") (UpdF.mem' hU _)) (by k_extra "m_upd")
  k_with "call ref" => (k_here; refine CH.use (c_haul _ _ _ _ _ _ _ (by decide) (by decide)) (by k_asm) (by k_asm) (by k_asm) (by k_asm) (by k_asm) (by first | exact rfl | assumption) (by exact room_le (by with_reducible assumption) (by with_unfolding_all rfl) (by decide)) (by exact units_le (by with_reducible assumption) (by with_unfolding_all rfl) (by decide)) (by k_extra "m_upd") (by with_reducible assumption) lo (by k_extra "m_hc") hcd hi hlen (by omega) hk0 hk1 ?_; intro v9 t9 h9 tk9 o9 hv0 hv1 F9 N9 hO9; (try dsimp only at F9 N9); (try k_fold))
  k_with "call ref" => (k_here; (refine' (c_tail _ _ _ _ _ _ _ _ (txt3_len (by with_reducible assumption) (by with_reducible assumption) (by with_reducible assumption)) (cap_len _)).use ?k1 ?k2 ?k3 ?k4 ?k5 ?kK ?kd ?ku ?_); (case k1 => k_asm); (case k2 => k_asm); (case k3 => k_asm); (case k4 => k_asm); (case k5 => k_asm); (case kK => first | exact rfl | assumption); (case kd => exact room_le (by with_reducible assumption) (by with_unfolding_all rfl) (by decide)); (case ku => exact units_le (by with_reducible assumption) (by with_unfolding_all rfl) (by decide)); intro t9 h9 tk9 F9 N9; (try dsimp only); (try k_fold))
  k_with "subscriptTail" => (k_here; (with_reducible show wpAny _ _ (subscriptTail _ _ (Value.ref _) (Value.int v9 _)) _ _ _); k_dflt (refine pick_str (by k_asm) (by k_extra "m_mem") (by k_extra "m_texts") hv0 (by with_unfolding_all exact hv1) (by decide +kernel) ?_); intro y9 u9 hy9; (have hl9 := pick_len hy9 (by decide +kernel)))
  k_with "binaryOp Add str str" => (k_here; (with_reducible show wpAny _ _ (binaryOp Operator.Add (Value.str _ _) (Value.str _ _)) _ _ _); refine PyProof.Rows.add_str ?_ (by first | exact szC (by with_reducible assumption) (by with_reducible assumption) | exact szD (by with_reducible assumption) (by with_reducible assumption) (by with_reducible assumption) | exact szE (by with_reducible assumption) (by with_reducible assumption)); intro _ _)
  k_extra "m_inW"
  k_steps
  all_goals (rw [tail_law (by assumption) (by assumption) (by assumption)]; first | rw [due1 (by assumption)] | rw [due2 (by assumption) (by assumption)] | rw [due3 (by assumption) (by assumption)])
  all_goals rw [beq_self_eq_true]
  all_goals exact hret _ _ o9 _ (by omega) (by k_asm) (cb_drop (by assumption) (by k_extra "m_sub")) hO9
end
section
open PySem PySem.W PyProof PyProof.Rows PySem.Calls
set_option Elab.async false
set_option maxRecDepth 100000
set_option maxHeartbeats 8000000
set_option pp.deepTerms false
set_option pp.maxSteps 30000
set_option linter.unusedSimpArgs false
set_option linter.unusedVariables false
theorem CW.use {w : World} {mean : ExcName → Option Value} {mg mb : Str → Option Value} {D U : Nat} {f : Addr} {d : Addr} (C : CW w mean mg mb D U f d)
    {dp un : Nat} {gd : Option (List Code)} {cn : Str} {cs : Scope} {a : Addr} {ccd : Value} {cl : List (Str × Addr)} {outer : List Env} {A₀ : Around} {base h₀ : Heap} {L : Addr} {m : Str → Option Value} {news : List (Addr × Obj)} {s : Shared} {Q E : Value → Shared → Prop}
    {o : Obj} {g : Obj → List (Addr × Obj)} {c : Addr} {n k : Int} {vs : List Value} {ns : List Int} {kk : Nat}
    (B : Below A₀ base outer h₀) (F : Fr h₀ L s.heap m) (X : (hd.heap_39 w.params).In h₀) (N : News h₀ L s.heap news) (T : Top hd.view_39 (looseW hd.view_39 []) mean mg mb h₀) (hk : cs.kind = .function)
    (hd : dp + D < recursionLimit) (hu : un + U < cLine)
    (hU : UpdF d o news g) (hO : SledO w c n k o) (lo : (d == sysModules) = false) (hc : (c, listOf vs.toArray kk) ∈ news) (hcd : c ≠ d) (hi : IntsAre vs ns) (hl : ns.length ≤ 63) (hn0 : 0 ≤ n) (hk0 : 0 ≤ k) (hk1 : k ≤ 40)
    (h : ∀ (h' : Heap) (tk' : Nat) (o' : Obj) (n' : Int), n ≤ n' → Fr h₀ L h' m → News h₀ L h' (g o') → SledO w c n' k o' → Q (.bool true) { s with heap := h', toks := tk' }) :
    wpAny (model Challenge.rw_pq1449_01.row.prog w) (ktrTop dp un gd cn cs L a ccd cl outer) (call (.ref f) [.ref d]) Q E s := C _ _ _ _ _ _ _ _ _ _ _ _ _ _ _ _ _ _ _ _ _ _ _ _ _ _ B F X N T hk hd hu hU hO lo hc hcd hi hl hn0 hk0 hk1 h
def n7F (k : Str) : Option Str := if k = Str.ofString "N" then some (Str.ofString "7") else none
theorem tab_n7 (t : Tok) : TabOf [(Str.ofString "N", .str (Str.ofString "7") t)] n7F := by
  intro k
  by_cases h1 : k = Str.ofString "N"
  · subst h1; exact .inl ⟨_, _, rfl, rfl, by decide⟩
  · have h1' : ¬ Str.ofString "N" = k := fun e => h1 e.symm
    exact .inr ⟨by simp [valueAt, h1'], by simp [n7F, h1]⟩
theorem put7 : putF n7F (Str.ofString "N&N 'N&N' N").length (Str.ofString "N&N 'N&N' N") 0 (Str.ofString "") = Str.ofString "77 'N&N' 7" := by decide +kernel
theorem spl1 : splitS (Str.ofString " ") = [] := by decide +kernel
theorem spl2 : splitS (Str.ofString ",") = [Str.ofString "", Str.ofString ""] := by decide +kernel
theorem ok1 : ∀ y ∈ splF (Str.ofString " ").length (Str.ofString " ") 0 (Str.ofString "") 0 (Str.ofString ""), PyData.strOk y = true := by decide +kernel
theorem ok2 : ∀ y ∈ splF (Str.ofString ",").length (Str.ofString ",") 0 (Str.ofString "") 0 (Str.ofString ""), PyData.strOk y = true := by decide +kernel
theorem tx_nil : StrsAre (#[] : Array Value).toList [] := .nil
theorem tx_two {y z : Str} {t u : Tok} : StrsAre (#[.str y t, .str z u] : Array Value).toList [y, z] := .cons _ _ (.cons _ _ .nil)
theorem tx_arr {ys : List Value} {ss : List Str} (h : StrsAre ys ss) : StrsAre ys.toArray.toList ss := h
theorem ne_same {prog : Program} {w : World} {A : Around} {E : Value → Shared → Prop} {s : Shared} {a b : Addr} {xs ys : Array Value} {j k : Nat} {ns : List Str} {Q : Value → Shared → Prop} {h₀ : Heap} {L : Addr} {news : List (Addr × Obj)} (N : News h₀ L s.heap news) (ha : (a, listOf xs j) ∈ news) (hb : (b, listOf ys k) ∈ news) (hi : StrsAre xs.toList ns) (hj : StrsAre ys.toList ns) (oi : ∀ y ∈ ns, PyData.strOk y = true) (hu : A.units + 64 < cLine) (h : Q (.bool false) s) :
    wpAny (model prog w) A (compareOp .NotEq (.ref a) (.ref b)) Q E s := ne_texts N ha hb hi hj oi oi hu (by rw [decide_eq_true rfl]; exact h)
theorem sled_of {w : World} {c : Addr} {k : Int} {o : Obj} {t0 t1 t2 t3 t4 : Tok} (h : o.IsDictOf (strKind Challenge.rw_pq1449_01.row.prog w) (strPairs [(.str (Str.ofString "cells") t0, .ref c), (.str (Str.ofString "count") t1, .int 0 t2), (.str (Str.ofString "more") t3, .int k t4)])) : SledO w c 0 k o := ⟨_, _, h⟩
theorem the_law : PySem.Challenge.rw_pq1449_01.Holds := hd (by
  k_with_none
  k_with "m_mem" => first | exact List.mem_cons_self | (refine List.mem_cons_of_mem _ ?_; k_extra "m_mem")
  k_with "m_txt" => first | exact tx_nil | exact tx_two | exact tx_arr hS8
  k_with "compareOp NotEq ref ref" => (k_here; (with_reducible show wpAny _ _ (compareOp CmpOp.NotEq (Value.ref _) (Value.ref _)) _ _ _); k_dflt (refine ne_same (by k_asm) (by k_extra "m_mem") (by k_extra "m_mem") (by k_extra "m_txt") (by k_extra "m_txt") (by decide +kernel) (by first | ktr_units | ke_room) ?_))
  k_with "call ref" => refine stop_of ?_
  k_go0
  k_steps
  refine ⟨?_⟩
  (refine' (c_put _ _ _ _ _ _ _ n7F (by decide)).use ?k1 ?k2 ?k3 ?k4 ?k5 ?kK ?kd ?ku ?kp ?_); (case k1 => k_asm); (case k2 => k_asm); (case k3 => k_asm); (case k4 => k_asm); (case k5 => k_asm); (case kK => first | exact rfl | assumption); (case kd => first | exact room_le (by with_reducible assumption) (by with_unfolding_all rfl) (by decide) | ktr_room); (case ku => first | exact units_le (by with_reducible assumption) (by with_unfolding_all rfl) (by decide) | ktr_units); (case kp => exact ⟨_, _, by k_mem, by k_asm, by k_asm, tab_n7 _⟩)
  rw [put7]
  intro t9 h9 tk9 F9 N9; (try dsimp only); (try k_fold)
  k_steps
  refine ⟨?_⟩
  refine CL.use (c_split _ _ _ _ _ _ (by decide) ok1) (by k_asm) (by k_asm) (by k_asm) (by k_asm) (by k_asm) (by first | exact rfl | assumption) (by first | exact room_le (by with_reducible assumption) (by with_unfolding_all rfl) (by decide) | ktr_room) (by first | exact units_le (by with_reducible assumption) (by with_unfolding_all rfl) (by decide) | ktr_units) ?_
  intro l8 ys8 k8 h8 tk8 hS8 F8 N8 lt8
  (try k_lt lt8)
  rw [spl1] at hS8
  (try dsimp only); (try k_fold)
  k_steps
  refine ⟨?_⟩
  refine CL.use (c_split _ _ _ _ _ _ (by decide) ok2) (by k_asm) (by k_asm) (by k_asm) (by k_asm) (by k_asm) (by first | exact rfl | assumption) (by first | exact room_le (by with_reducible assumption) (by with_unfolding_all rfl) (by decide) | ktr_room) (by first | exact units_le (by with_reducible assumption) (by with_unfolding_all rfl) (by decide) | ktr_units) ?_
  intro l8 ys8 k8 h8 tk8 hS8 F8 N8 lt8
  (try k_lt lt8)
  rw [spl2] at hS8
  (try dsimp only); (try k_fold)
  k_steps
  refine ⟨?_⟩
  refine CW.use (c_names _ _ _ _ _) (by k_asm) (by k_asm) (by k_asm) (by k_asm) (by k_asm) (by first | exact rfl | assumption) (by first | exact room_le (by with_reducible assumption) (by with_unfolding_all rfl) (by decide) | ktr_room) (by first | exact units_le (by with_reducible assumption) (by with_unfolding_all rfl) (by decide) | ktr_units) (by k_updF) (sled_of (by assumption)) (by assumption) (by k_extra "m_mem") (by k_ne) (by assumption) (by rw [List.length_take]; omega) (by omega) (Int.fmod_nonneg_of_pos _ (by decide)) (Int.le_of_lt_add_one (Int.fmod_lt_of_pos _ (by decide))) ?_
  intro h5 tk5 o5 n5 ha5 F5 N5 hO5
  (try dsimp only at N5); (try dsimp only); (try k_fold)
  k_steps
  refine ⟨?_⟩
  refine CW.use (c_args _ _ _ _ _) (by k_asm) (by k_asm) (by k_asm) (by k_asm) (by k_asm) (by first | exact rfl | assumption) (by first | exact room_le (by with_reducible assumption) (by with_unfolding_all rfl) (by decide) | ktr_room) (by first | exact units_le (by with_reducible assumption) (by with_unfolding_all rfl) (by decide) | ktr_units) (by k_updF) hO5 (by assumption) (by k_extra "m_mem") (by k_ne) (by assumption) (by rw [List.length_take]; omega) (by omega) (Int.fmod_nonneg_of_pos _ (by decide)) (Int.le_of_lt_add_one (Int.fmod_lt_of_pos _ (by decide))) ?_
  intro h6 tk6 o6 n6 ha6 F6 N6 hO6
  (try dsimp only at N6); (try dsimp only); (try k_fold)
  k_steps
  refine ⟨?_⟩
  refine CW.use (c_tailR _ _ _ _ _) (by k_asm) (by k_asm) (by k_asm) (by k_asm) (by k_asm) (by first | exact rfl | assumption) (by first | exact room_le (by with_reducible assumption) (by with_unfolding_all rfl) (by decide) | ktr_room) (by first | exact units_le (by with_reducible assumption) (by with_unfolding_all rfl) (by decide) | ktr_units) (by k_updF) hO6 (by assumption) (by k_extra "m_mem") (by k_ne) (by assumption) (by rw [List.length_take]; omega) (by omega) (Int.fmod_nonneg_of_pos _ (by decide)) (Int.le_of_lt_add_one (Int.fmod_lt_of_pos _ (by decide))) ?_
  intro h7 tk7 o7 n7 ha7 F7 N7 hO7
  (try dsimp only at N7); (try dsimp only); (try k_fold)
  k_steps)
end
end Mine
theorem PySem.Challenge.cw_pq1449_01_holds : PySem.Challenge.rw_pq1449_01.Holds :=
  Mine.the_law
