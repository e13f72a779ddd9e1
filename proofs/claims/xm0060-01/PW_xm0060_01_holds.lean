import PyProof.Rows.All
import Wide.All
import OpenK.AllK
import Wide.FinOn
import Lean
import PySem.Challenge.RW_xm0060_01
open PySem PySem.W PyProof.Rows PySem.Calls PySem.Spec
set_option Elab.async false
namespace Mine
set_option maxRecDepth 100000 in
set_option maxHeartbeats 8000000 in
open_top hd for PySem.Challenge.rw_xm0060_01
section
open PyProof

theorem cl_len (x : Str) : x.cps.toList.length = x.length := by simp [Str.length]
theorem cl_ext {x y : Str} : x = y ↔ x.cps.toList = y.cps.toList := by
  constructor
  · intro h; rw [h]
  · intro h; exact Str.ext' (Array.toList_inj.mp h)
theorem slice_eq (x : Str) (l u : Option Int) : Txt.slice x l u = StrLaws.sliceText x l u := rfl
theorem ini_cl {x : Str} (h : 0 < x.length) : (Txt.slice x none (some (-1))).cps.toList = x.cps.toList.dropLast := by
  have e : Txt.slice x none (some (-1)) = StrLaws.sliceText x (some ((0 : Nat) : Int)) (some ((x.length - 1 : Nat) : Int)) := by
    have e1 : Builtin.Str.strSliceIndices none (some (-1)) 1 x.length = Builtin.Str.strSliceIndices (some ((0 : Nat) : Int)) (some ((x.length - 1 : Nat) : Int)) 1 x.length := by
      have a : ¬ (((x.length - 1 : Nat) : Int) < 0) := by omega
      have b : (-1 : Int) + (x.length : Int) = ((x.length - 1 : Nat) : Int) := by omega
      have c : max (0 : Int) (min 0 (x.length : Int)) = 0 := by rw [Int.min_eq_left (Int.natCast_nonneg _), Int.max_self]
      have d : max (0 : Int) (-1 + (x.length : Int)) = max 0 ((x.length - 1 : Nat) : Int) := by omega
      simp only [Builtin.Str.strSliceIndices, show ((1 : Int) > 0) = True from by simp, if_true, show ((-1 : Int) < 0) = True from by simp, a, if_false, b, Int.natCast_zero, Int.lt_irrefl, c]
    unfold Txt.slice StrLaws.sliceText
    rw [e1]
  rw [e, StrLaws.sliceText_nat x (Nat.zero_le _) (Nat.sub_le _ _)]
  simp only [List.drop_zero, Nat.sub_zero]
  rw [List.dropLast_eq_take, cl_len]
theorem ini_len {x : Str} (h : 0 < x.length) : (Txt.slice x none (some (-1))).length + 1 = x.length := by
  rw [← cl_len, ini_cl h, List.length_dropLast, cl_len]; omega
theorem at_cl {x : Str} {i : Int} (h1 : 1 ≤ i) (h2 : i ≤ (x.length : Int)) : (Txt.slice x (some (i - 1)) (some (i - 1 + 1))).cps.toList = [x.cps.toList.getD (i - 1).toNat 0] := by
  rw [slice_eq, StrLaws.sliceText_plain ⟨by omega, by omega, by rw [cl_len]; omega⟩]
  have e : (i - 1 + 1 - (i - 1)).toNat = 1 := by omega
  rw [e]
  have hl : (i - 1).toNat < x.cps.toList.length := by rw [cl_len]; omega
  show ((List.drop (i - 1).toNat x.cps.toList).take 1) = _
  rw [List.drop_eq_getElem_cons hl, List.take_succ_cons, List.take_zero, List.getD_eq_getElem?_getD, List.getElem?_eq_getElem hl]
  rfl
theorem to_cl {x : Str} {i : Int} (h1 : 0 ≤ i) (h2 : i ≤ (x.length : Int)) : (Txt.slice x none (some i)).cps.toList = x.cps.toList.take i.toNat := by
  rw [slice_eq, StrLaws.sliceText_to ⟨h1, by rw [cl_len]; exact h2⟩]
  simp
theorem from_cl {x : Str} {j : Int} (h1 : 1 ≤ j) (h2 : j ≤ (x.length : Int) + 1) (h3 : x.length ≤ 255) : (Txt.slice x (some (j - 1)) (some (j - 1 + 255))).cps.toList = x.cps.toList.drop (j - 1).toNat := by
  have e : Txt.slice x (some (j - 1)) (some (j - 1 + 255)) = StrLaws.sliceText x (some (j - 1)) (some (x.length : Int)) := by
    have e1 : Builtin.Str.strSliceIndices (some (j - 1)) (some (j - 1 + 255)) 1 x.length = Builtin.Str.strSliceIndices (some (j - 1)) (some (x.length : Int)) 1 x.length := by
      have a : ¬ (j - 1 + 255 < 0) := by omega
      have b : ¬ ((x.length : Int) < 0) := by omega
      have c : max (0 : Int) (min (j - 1 + 255) (x.length : Int)) = max (0 : Int) (min (x.length : Int) (x.length : Int)) := by rw [Int.min_eq_right (by omega), Int.min_self]
      simp only [Builtin.Str.strSliceIndices, show ((1 : Int) > 0) = True from by simp, if_true, a, b, if_false, c]
    unfold Txt.slice StrLaws.sliceText
    rw [e1]
  rw [e, StrLaws.sliceText_plain ⟨by omega, by omega, by rw [cl_len]; omega⟩]
  show List.take _ _ = _
  apply List.take_of_length_le
  rw [List.length_drop, cl_len]; omega
theorem beq_cl {x y : Str} : (x == y) = decide (x.cps.toList = y.cps.toList) := by
  rw [Bool.eq_iff_iff, beq_iff_eq, decide_eq_true_eq, cl_ext]
theorem same_cl {x y : Str} {i j : Int} (h1 : 1 ≤ i) (h2 : i ≤ (x.length : Int)) (h3 : 1 ≤ j) (h4 : j ≤ (y.length : Int)) :
    (Txt.slice x (some (i - 1)) (some (i - 1 + 1)) == Txt.slice y (some (j - 1)) (some (j - 1 + 1))) = decide (x.cps.toList.getD (i - 1).toNat 0 = y.cps.toList.getD (j - 1).toNat 0) := by
  rw [beq_cl, at_cl h1 h2, at_cl h3 h4, Bool.eq_iff_iff]
  simp
theorem last_cl {x : Str} (h : 0 < x.length) : (Txt.item x (-1)).cps.toList = [x.cps.toList.getD (x.length - 1) 0] := by
  have e : Txt.charAt x (-1) = x.cps[x.length - 1]? := by
    unfold Txt.charAt
    rw [StrLaws.seqIndex_neg (by omega) (by omega)]
    have : (-1 + (x.length : Int)).toNat = x.length - 1 := by omega
    rw [this]; rfl
  unfold Txt.item
  rw [e, List.getD_eq_getElem?_getD, Array.getElem?_toList]
theorem rev_cl {x : Str} (h : 0 < x.length) : x.cps.toList.reverse = x.cps.toList.getD (x.length - 1) 0 :: (Txt.slice x none (some (-1))).cps.toList.reverse := by
  have hl : x.cps.toList.length = x.length := cl_len x
  have hne : x.cps.toList ≠ [] := by intro e; rw [e] at hl; simp at hl; omega
  rw [ini_cl h]
  have e := List.dropLast_concat_getLast hne
  have g : x.cps.toList.getLast hne = x.cps.toList.getD (x.length - 1) 0 := by
    rw [List.getLast_eq_getElem, List.getD_eq_getElem?_getD, List.getElem?_eq_getElem (by omega)]
    simp [hl]
  conv => lhs; rw [← e]
  rw [List.reverse_append, List.reverse_singleton, g]; rfl

noncomputable def farRow (x : Nat) (f : List Nat → Nat) : List Nat → Nat
  | [] => f [] + 1
  | y :: b => if x = y then f b else 1 + min (f (y :: b)) (min (farRow x f b) (f b))
noncomputable def far : List Nat → List Nat → Nat
  | [] => List.length
  | x :: a => farRow x (far a)
theorem far_nl (b : List Nat) : far [] b = b.length := rfl
theorem far_cc (x y : Nat) (a b : List Nat) : far (x :: a) (y :: b) = if x = y then far a b else 1 + min (far a (y :: b)) (min (far (x :: a) b) (far a b)) := rfl
noncomputable def farS (x y : Str) : Nat := far x.cps.toList.reverse y.cps.toList.reverse
theorem far_nil : ∀ a : List Nat, far a [] = a.length
  | [] => rfl
  | _ :: a => congrArg (· + 1) (far_nil a)
theorem len_zero {x : Str} (h : x.length = 0) : x.cps.toList = [] := by
  rw [← List.length_eq_zero_iff, cl_len, h]
theorem farS_nil {x y : Str} (h : x.length = 0 ∨ y.length = 0) : farS x y = x.length + y.length := by
  unfold farS
  rcases h with h | h
  · rw [len_zero h]; simp only [List.reverse_nil, far_nl, List.length_reverse, cl_len, h]; omega
  · rw [len_zero h]; simp only [List.reverse_nil, far_nil, List.length_reverse, cl_len, h]; omega
theorem farS_eq {x y : Str} (hx : 0 < x.length) (hy : 0 < y.length) (h : (Txt.item x (-1) == Txt.item y (-1)) = true) :
    farS x y = farS (Txt.slice x none (some (-1))) (Txt.slice y none (some (-1))) := by
  rw [beq_cl, last_cl hx, last_cl hy, decide_eq_true_eq] at h
  unfold farS
  rw [rev_cl hx, rev_cl hy, far_cc, if_pos (by simpa using h)]
theorem farS_ne {x y : Str} (hx : 0 < x.length) (hy : 0 < y.length) (h : (Txt.item x (-1) == Txt.item y (-1)) = false) :
    farS x y = 1 + min (farS (Txt.slice x none (some (-1))) y) (min (farS x (Txt.slice y none (some (-1)))) (farS (Txt.slice x none (some (-1))) (Txt.slice y none (some (-1))))) := by
  rw [beq_cl, last_cl hx, last_cl hy, decide_eq_false_iff_not] at h
  unfold farS
  conv => lhs; rw [rev_cl hx, rev_cl hy, far_cc, if_neg (by simpa using h)]
  rw [← rev_cl hx, ← rev_cl hy]
end
abbrev Ret (h₀ : Heap) (L : Addr) (m : Str → Option Value) (news : List (Addr × Obj)) (s : Shared) (Q : Value → Shared → Prop) (R : Tok → Value) : Prop :=
  ∀ (t : Tok) (h' : Heap) (tk' : Nat), Fr h₀ L h' m → News h₀ L h' news → Q (R t) { s with heap := h', toks := tk' }

abbrev Claim (w : World) (f : Addr) (d : Nat) (news : List (Addr × Obj)) (vs : List Value) (R : Tok → Value) : Prop :=
  ∀ (loose : List Str) (mean : ExcName → Option Value) (mg mb : Str → Option Value)
    (dp un : Nat) (gd : Option (List Code)) (cn : Str) (cs : Scope) (a : Addr) (ccd : Value) (cl : List (Str × Addr)) (outer : List Env) (A₀ : Around) (base h₀ : Heap) (L : Addr) (m : Str → Option Value) (s : Shared) (Q E : Value → Shared → Prop),
    Below A₀ base outer h₀ → Fr h₀ L s.heap m → (hd.heap_39 w.params).In h₀ → News h₀ L s.heap news → Top hd.view_39 loose mean mg mb h₀ → cs.kind = .function →
    dp + d < recursionLimit → un + 8 * d < cLine → Ret h₀ L m news s Q R →
      wpAny (model PySem.Challenge.rw_xm0060_01.row.prog w) (ktrTop dp un gd cn cs L a ccd cl outer) (call (.ref f) vs) Q E s

theorem use {w : World} {f : Addr} {d : Nat} {news : List (Addr × Obj)} {vs : List Value} {R : Tok → Value} {loose : List Str} {mean : ExcName → Option Value} {mg mb : Str → Option Value}
    {dp un : Nat} {gd : Option (List Code)} {cn : Str} {cs : Scope} {a : Addr} {ccd : Value} {cl : List (Str × Addr)} {outer : List Env} {A₀ : Around} {base h₀ : Heap} {L : Addr} {m : Str → Option Value} {s : Shared} {Q E : Value → Shared → Prop}
    (C : Claim w f d news vs R) (B : Below A₀ base outer h₀) (F : Fr h₀ L s.heap m) (X : (hd.heap_39 w.params).In h₀) (N : News h₀ L s.heap news) (T : Top hd.view_39 loose mean mg mb h₀) (hk : cs.kind = .function)
    (hdp : dp + d < recursionLimit) (hun : un + 8 * d < cLine) (ret : Ret h₀ L m news s Q R) :
    wpAny (model PySem.Challenge.rw_xm0060_01.row.prog w) (ktrTop dp un gd cn cs L a ccd cl outer) (call (.ref f) vs) Q E s :=
  C loose mean mg mb dp un gd cn cs a ccd cl outer A₀ base h₀ L m s Q E B F X N T hk hdp hun ret

theorem at_ (f : Addr) {prog : Program} {w : World} {A : Around} {vs : List Value} {s : Shared} {Q E : Value → Shared → Prop} (h : wpAny (model prog w) A (call (.ref f) vs) Q E s) : wpAny (model prog w) A (call (.ref f) vs) Q E s := h
theorem subAt {prog : Program} {w : World} {A : Around} {value slice : Expr} {l : Addr} {k : Int} {u : Tok} {s : Shared} {Q E : Value → Shared → Prop} (h : wpAny (model prog w) A (subscriptTail value slice (.ref l) (.int k u)) Q E s) : wpAny (model prog w) A (subscriptTail value slice (.ref l) (.int k u)) Q E s := h
theorem lastAt {prog : Program} {w : World} {A : Around} {value slice : Expr} {l : Addr} {u : Tok} {s : Shared} {Q E : Value → Shared → Prop} (h : wpAny (model prog w) A (subscriptTail value slice (.ref l) (.int (-1) u)) Q E s) : wpAny (model prog w) A (subscriptTail value slice (.ref l) (.int (-1) u)) Q E s := h
theorem lenAt {prog : Program} {w : World} {A : Around} {l : Addr} {s : Shared} {Q E : Value → Shared → Prop} (h : wpAny (model prog w) A (call (.builtin "len") [.ref l]) Q E s) : wpAny (model prog w) A (call (.builtin "len") [.ref l]) Q E s := h
theorem getN {prog : Program} {w : World} {A : Around} {E : Value → Shared → Prop} {s : Shared} {value slice : Expr} {l : Addr} {vs : List Value} {k : Int} {u : Tok} {v : Value} {Q : Value → Shared → Prop} {h₀ : Heap} {L : Addr} {news : List (Addr × Obj)} {n : Nat}
    (N : News h₀ L s.heap news) (hm : (l, listOf (List.toArray vs) n) ∈ news) (h0 : 0 ≤ k) (hhi : k < 2 ^ 63) (hx : vs[k.toNat]? = some v) (h : Q v s)
    (hs : subscripted slice false (.ref l) (.int k u) = operate [.ref l, .int k u] (getItem (.ref l) (.int k u)) := by with_unfolding_all rfl) :
    wpAny (model prog w) A (subscriptTail value slice (.ref l) (.int k u)) Q E s :=
  have hl : s.heap.IsList l (List.toArray vs) := ⟨_, (N _ hm).1, rfl, n, rfl⟩
  tail_any hl.typeIs slot_list_getitem.lookup (wpAny_getItem_list hl h0 hhi (by simpa using hx) h) hs
theorem lenN {prog : Program} {w : World} {A : Around} {E : Value → Shared → Prop} {s : Shared} {l : Addr} {vs : List Value} {Q : Value → Shared → Prop} {h₀ : Heap} {L : Addr} {news : List (Addr × Obj)} {n : Nat}
    (N : News h₀ L s.heap news) (hm : (l, listOf (List.toArray vs) n) ∈ news) (hf : (vs.length : Int) < 2 ^ 63) (h : Q (.int (vs.length : Int) (s.toks + 1)) { s with toks := s.toks + 1 + 1 }) :
    wpAny (model prog w) A (call (.builtin "len") [.ref l]) Q E s := by
  have hl : s.heap.IsList l (List.toArray vs) := ⟨_, (N _ hm).1, rfl, n, rfl⟩
  exact len_list hl (by simpa using hf) (by simpa using h)
local macro_rules | `(tactic| walk_at "mB") => `(tactic| first | assumption | exact List.Mem.head _ | exact List.mem_cons_of_mem _ (by assumption) | exact List.mem_cons_of_mem _ (List.Mem.head _) | exact List.mem_cons_of_mem _ (List.mem_cons_of_mem _ (by assumption)) | exact List.mem_cons_of_mem _ (List.mem_cons_of_mem _ (List.Mem.head _)) | exact List.mem_cons_of_mem _ (List.mem_cons_of_mem _ (List.mem_cons_of_mem _ (by assumption))))
local macro_rules | `(tactic| walk_at "sB") => `(tactic| (intro p hp; simp only [List.mem_cons, hp, or_true]))
local macro_rules | `(tactic| walk_at "ao") => `(tactic| first | assumption | decide | omega)
local macro_rules | `(tactic| walk_at "kk") => `(tactic| ((case B => k_asm); (case F => k_asm); (case X => k_asm); (case T => k_asm); (case hk => first | exact rfl | assumption)))
local macro_rules | `(tactic| walk_at "kr") => `(tactic| ((case hdp => ktr_room); (case hun => ktr_units)))
local macro_rules | `(tactic| walk_at "u0") => `(tactic| (apply use; walk_at "kk"; (case N => k_asm); (case' ret => skip); (case' C => skip)))
local macro_rules | `(tactic| walk_at "uz") => `(tactic| (walk_at "kr"; (intro t9 h9 tk9 F9 N9; (try dsimp only); (try k_fold))))
local macro_rules | `(tactic| walk_at "g0") => `(tactic| (refine' getN ?N ?m ?a ?b ?c ?h; (case N => k_asm); (case m => walk_at "mB"); (case a => omega); (case b => omega); (case' h => skip); (case' c => skip)))
local macro_rules | `(tactic| walk_at "s0") => `(tactic| (refine' ksa_sub ?N ?m ?i ?a ?b ?c ?h; (case N => k_asm); (case m => walk_at "mB"); (case i => with_reducible assumption); (case a => omega); (case b => omega); (case c => omega); k_whole; intro t'))
local macro_rules | `(tactic| walk_at "l0") => `(tactic| (refine' lenN ?N ?m ?a ?h; (case N => k_asm); (case m => walk_at "mB"); (case' h => skip); (case' a => skip)))
section
set_option maxRecDepth 100000
set_option maxHeartbeats 8000000
local macro_rules | `(tactic| k_room) => `(tactic| ((try simp only [depth_under_make, depth_under_kw, depth_in1, depth_deeper, depth_caller]); (try dsimp only [ktrTop]); omega))
local macro_rules | `(tactic| walk_at "unused0") => `(tactic| skip)

theorem size_ok (w : World) (news : List (Addr × Obj)) (n : Int) (t1 : Tok) (h1 : 0 ≤ n) (h2 : n ≤ 255) :
  Claim w 121 2 news [.int n t1] (fun t => .int n t) := by
  unfold Claim
  w_top off
  k_fill
  intro loose mean mg mb dp un gd cn cs a ccd cl outer A₀ base h₀ L m s Q E B F X N T hk hd hu hret
  refine wpAny_call ?_
  k_dflt cell_enter
  k_steps
  all_goals (first | exact hret _ _ _ (by assumption) (by assumption) | exact hret _ _ _ (by assumption) (cb_drop (by assumption) fun _ hp => by simp only [List.mem_cons, hp, or_true]) | exact hret 0 _ _ (by assumption) (cb_drop (by assumption) fun _ hp => by simp only [List.mem_cons, hp, or_true]) | (exfalso; omega))
local macro_rules | `(tactic| walk_at "call ref") => `(tactic| (k_here; (with_reducible refine at_ 121 ?_); k_dflt (walk_at "u0"; refine' size_ok _ _ _ _ ?_ ?_; omega; omega; walk_at "uz")))

theorem place_ok (w : World) (news : List (Addr × Obj)) (n : Int) (t1 : Tok) (h1 : 1 ≤ n) (h2 : n ≤ 255) :
  Claim w 128 4 news [.int n t1] (fun t => .int n t) := by
  unfold Claim
  w_top off
  k_fill
  intro loose mean mg mb dp un gd cn cs a ccd cl outer A₀ base h₀ L m s Q E B F X N T hk hd hu hret
  refine wpAny_call ?_
  k_dflt cell_enter
  k_steps
  all_goals (first | exact hret _ _ _ (by assumption) (by assumption) | exact hret _ _ _ (by assumption) (cb_drop (by assumption) fun _ hp => by simp only [List.mem_cons, hp, or_true]) | exact hret 0 _ _ (by assumption) (cb_drop (by assumption) fun _ hp => by simp only [List.mem_cons, hp, or_true]) | (exfalso; omega))
local macro_rules | `(tactic| walk_at "call ref") => `(tactic| (k_here; (with_reducible refine at_ 128 ?_); k_dflt (walk_at "u0"; refine' place_ok _ _ _ _ ?_ ?_; omega; omega; walk_at "uz")))
local macro_rules | `(tactic| walk_at "subscriptTail") => `(tactic| (k_here; (with_reducible refine subAt ?_); k_dflt (walk_at "g0"; rfl; k_whole)))
local macro_rules | `(tactic| walk_at "call builtin:len") => `(tactic| (k_here; (with_reducible refine lenAt ?_); k_dflt (walk_at "l0"; (simp only [List.length_cons, List.length_nil]; decide); k_whole); (try simp only [List.length_cons, List.length_nil])))

theorem mid3_ok (w : World) (news : List (Addr × Obj)) (l : Addr) (x : Str) (b k : Int) (t1 t2 t3 : Tok) (nn : Nat) (hm : (l, listOf #[.str x t1, .int b t2, .int k t3] nn) ∈ news) (h1 : 1 ≤ b) (h2 : b ≤ 255) (h3 : 0 ≤ k) (h4 : k ≤ 255) (h5 : x.length ≤ 255) :
  Claim w 142 6 news [.none, .ref l] (fun t => .str (Txt.slice x (some (b - 1)) (some (b - 1 + k))) t) := by
  unfold Claim
  w_top off
  k_fill
  intro loose mean mg mb dp un gd cn cs a ccd cl outer A₀ base h₀ L m s Q E B F X N T hk hd hu hret
  refine wpAny_call ?_
  k_dflt cell_enter
  k_steps
  all_goals (first | exact hret _ _ _ (by assumption) (by assumption) | exact hret _ _ _ (by assumption) (cb_drop (by assumption) fun _ hp => by simp only [List.mem_cons, hp, or_true]) | exact hret 0 _ _ (by assumption) (cb_drop (by assumption) fun _ hp => by simp only [List.mem_cons, hp, or_true]) | (exfalso; omega))

theorem mid2_ok (w : World) (news : List (Addr × Obj)) (l : Addr) (x : Str) (b : Int) (t1 t2 : Tok) (nn : Nat) (hm : (l, listOf #[.str x t1, .int b t2] nn) ∈ news) (h1 : 1 ≤ b) (h2 : b ≤ 255) (h5 : x.length ≤ 255) :
  Claim w 142 6 news [.none, .ref l] (fun t => .str (Txt.slice x (some (b - 1)) (some (b - 1 + 255))) t) := by
  unfold Claim
  w_top off
  k_fill
  intro loose mean mg mb dp un gd cn cs a ccd cl outer A₀ base h₀ L m s Q E B F X N T hk hd hu hret
  refine wpAny_call ?_
  k_dflt cell_enter
  k_steps
  all_goals (first | exact hret _ _ _ (by assumption) (by assumption) | exact hret _ _ _ (by assumption) (cb_drop (by assumption) fun _ hp => by simp only [List.mem_cons, hp, or_true]) | exact hret 0 _ _ (by assumption) (cb_drop (by assumption) fun _ hp => by simp only [List.mem_cons, hp, or_true]) | (exfalso; omega))

theorem left_ok (w : World) (news : List (Addr × Obj)) (l : Addr) (x : Str) (b : Int) (t1 t2 : Tok) (nn : Nat) (hm : (l, listOf #[.str x t1, .int b t2] nn) ∈ news) (h1 : 0 ≤ b) (h2 : b ≤ 255) (h5 : x.length ≤ 255) :
  Claim w 135 6 news [.none, .ref l] (fun t => .str (Txt.slice x none (some b)) t) := by
  unfold Claim
  w_top off
  k_fill
  intro loose mean mg mb dp un gd cn cs a ccd cl outer A₀ base h₀ L m s Q E B F X N T hk hd hu hret
  refine wpAny_call ?_
  k_dflt cell_enter
  k_steps
  all_goals (first | exact hret _ _ _ (by assumption) (by assumption) | exact hret _ _ _ (by assumption) (cb_drop (by assumption) fun _ hp => by simp only [List.mem_cons, hp, or_true]) | exact hret 0 _ _ (by assumption) (cb_drop (by assumption) fun _ hp => by simp only [List.mem_cons, hp, or_true]) | (exfalso; omega))

theorem joined_ok (w : World) (news : List (Addr × Obj)) (x y : Str) (t1 t2 : Tok) (h1 : x.length + y.length ≤ 255) :
  Claim w 149 6 news [.str x t1, .str y t2] (fun t => .str (x ++ y) t) := by
  unfold Claim
  w_top off
  k_fill
  intro loose mean mg mb dp un gd cn cs a ccd cl outer A₀ base h₀ L m s Q E B F X N T hk hd hu hret
  refine wpAny_call ?_
  k_dflt cell_enter
  k_steps
  all_goals (first | exact hret _ _ _ (by assumption) (by assumption) | exact hret _ _ _ (by assumption) (cb_drop (by assumption) fun _ hp => by simp only [List.mem_cons, hp, or_true]) | exact hret 0 _ _ (by assumption) (cb_drop (by assumption) fun _ hp => by simp only [List.mem_cons, hp, or_true]) | (exfalso; omega))

theorem b2i_lt {x y : Int} : b2i (decide (x < y)) - b2i (decide (y < x)) < 0 ↔ y < x := by
  by_cases h1 : x < y <;> by_cases h2 : y < x <;> simp [b2i, h1, h2] <;> omega

theorem min_ok (w : World) (news : List (Addr × Obj)) (l : Addr) (x y : Int) (t1 t2 : Tok) (nn : Nat) (hm : (l, listOf #[.int x t1, .int y t2] nn) ∈ news) :
  Claim w 114 6 news [.none, .ref l] (fun t => .int (if y < x then y else x) t) := by
  unfold Claim
  w_top off
  k_fill
  intro loose mean mg mb dp un gd cn cs a ccd cl outer A₀ base h₀ L m s Q E B F X N T hk hd hu hret
  refine wpAny_call ?_
  k_dflt cell_enter
  k_steps
  all_goals first
    | ((have e : (if y < x then y else x) = y := if_pos (b2i_lt.mp (by assumption))); rw [e] at hret; exact hret _ _ _ (by assumption) (cb_drop (by assumption) fun _ hp => .tail _ hp))
    | ((have e : (if y < x then y else x) = x := if_neg (fun q => absurd (b2i_lt.mpr q) (by assumption))); rw [e] at hret; exact hret _ _ _ (by assumption) (cb_drop (by assumption) fun _ hp => .tail _ hp))
local macro_rules | `(tactic| walk_at "call ref") => `(tactic| (k_here; (with_reducible refine at_ 142 ?_); k_dflt (walk_at "u0"; refine' mid3_ok _ _ _ _ _ _ _ _ _ _ ?p0 ?_ ?_ ?_ ?_ ?_; (case p0 => walk_at "mB"); omega; omega; omega; omega; (first | assumption | omega); walk_at "uz")))

theorem same_ok (w : World) (news : List (Addr × Obj)) (x y : Str) (i j : Int) (t1 t2 t3 t4 : Tok) (h1 : 1 ≤ i) (h2 : i ≤ 255) (h3 : 1 ≤ j) (h4 : j ≤ 255) (h5 : x.length ≤ 255) (h6 : y.length ≤ 255) :
  Claim w 163 8 news [.str x t1, .int i t2, .str y t3, .int j t4] (fun _ => .bool (Txt.slice x (some (i - 1)) (some (i - 1 + 1)) == Txt.slice y (some (j - 1)) (some (j - 1 + 1)))) := by
  unfold Claim
  w_top off
  k_fill
  intro loose mean mg mb dp un gd cn cs a ccd cl outer A₀ base h₀ L m s Q E B F X N T hk hd hu hret
  refine wpAny_call ?_
  k_dflt cell_enter
  k_steps
  all_goals (first | exact hret _ _ _ (by assumption) (by assumption) | exact hret _ _ _ (by assumption) (cb_drop (by assumption) fun _ hp => by simp only [List.mem_cons, hp, or_true]) | exact hret 0 _ _ (by assumption) (cb_drop (by assumption) fun _ hp => by simp only [List.mem_cons, hp, or_true]) | (exfalso; omega))
local macro_rules | `(tactic| walk_at "call ref") => `(tactic| (k_here; (with_reducible refine at_ 142 ?_); k_dflt (walk_at "u0"; refine' mid2_ok _ _ _ _ _ _ _ _ ?p0 ?_ ?_ ?_; (case p0 => walk_at "mB"); omega; omega; (first | assumption | omega); walk_at "uz")))
local macro_rules | `(tactic| walk_at "call ref") => `(tactic| (k_here; (with_reducible refine at_ 135 ?_); k_dflt (walk_at "u0"; refine' left_ok _ _ _ _ _ _ _ _ ?p0 ?_ ?_ ?_; (case p0 => walk_at "mB"); omega; omega; (first | assumption | omega); walk_at "uz")))
local macro_rules | `(tactic| walk_at "call ref") => `(tactic| (k_here; (with_reducible refine at_ 149 ?_); k_dflt (walk_at "u0"; refine' joined_ok _ _ _ _ _ _ ?_; (first | assumption | omega); walk_at "uz")))

theorem put_ok (w : World) (news : List (Addr × Obj)) (x y : Str) (i j : Int) (t1 t2 t3 t4 : Tok) (h1 : 0 ≤ i) (h2 : i ≤ 255) (h3 : 1 ≤ j) (h4 : j ≤ 255) (h5 : x.length ≤ 255) (h6 : (Txt.slice x none (some i)).length + y.length ≤ 255) (h7 : (Txt.slice x none (some i) ++ y).length + (Txt.slice x (some (j - 1)) (some (j - 1 + 255))).length ≤ 255) :
  Claim w 184 10 news [.str x t1, .int i t2, .str y t3, .int j t4] (fun t => .str (Txt.slice x none (some i) ++ y ++ Txt.slice x (some (j - 1)) (some (j - 1 + 255))) t) := by
  unfold Claim
  w_top off
  k_fill
  intro loose mean mg mb dp un gd cn cs a ccd cl outer A₀ base h₀ L m s Q E B F X N T hk hd hu hret
  refine wpAny_call ?_
  k_dflt cell_enter
  k_steps
  all_goals (first | exact hret _ _ _ (by assumption) (by assumption) | exact hret _ _ _ (by assumption) (cb_drop (by assumption) fun _ hp => by simp only [List.mem_cons, hp, or_true]) | exact hret 0 _ _ (by assumption) (cb_drop (by assumption) fun _ hp => by simp only [List.mem_cons, hp, or_true]) | (exfalso; omega))
end
section
set_option maxRecDepth 100000
set_option maxHeartbeats 8000000
local macro_rules | `(tactic| k_room) => `(tactic| ((try simp only [depth_under_make, depth_under_kw, depth_in1, depth_deeper, depth_caller]); (try dsimp only [ktrTop]); omega))

def FarIH (w : World) (n : Nat) : Prop := ∀ (news : List (Addr × Obj)) (x y : Str) (t1 t2 : Tok), x.length + y.length < n → Claim w 177 (2 * (x.length + y.length) + 2) news [.str x t1, .str y t2] (fun t => .int (farS x y : Int) t)
theorem farIH_use {w : World} {n : Nat} (h : FarIH w n) (news : List (Addr × Obj)) (x y : Str) (t1 t2 : Tok) (hl : x.length + y.length < n) : Claim w 177 (2 * (x.length + y.length) + 2) news [.str x t1, .str y t2] (fun t => .int (farS x y : Int) t) := h news x y t1 t2 hl
theorem pos_of_ne {x : Str} (h : (x == Str.ofString "") = false) : 0 < x.length := len_pos_of_beq_false h (by first | rfl | decide)
theorem ne_of_pos {x : Str} (h : 0 < x.length) : (x == Str.ofString "") = false := by
  cases e : x == Str.ofString "" with
  | false => rfl
  | true => rw [eq_of_beq e] at h; exact absurd h (by decide)
theorem eq_of_zero {x : Str} (h : x.length = 0) : (x == Str.ofString "") = true := by
  rw [cl_ext.mpr ((len_zero h).trans (by decide : ([] : List Nat) = (Str.ofString "").cps.toList))]; exact beq_self_eq_true _
theorem item_last {prog : Program} {w : World} {A : Around} {E : Value → Shared → Prop} {s : Shared} {value slice : Expr} {x : Str} {t u : Tok} {Q : Value → Shared → Prop} (hx : 0 < x.length)
    (h : Q (.str (Txt.item x (-1)) s.toks) { s with toks := s.toks + 1 })
    (hs : subscripted slice false (.str x t) (.int (-1) u) = operate [.str x t, .int (-1) u] (getItem (.str x t) (.int (-1) u)) := by with_unfolding_all rfl)
    (ht : ∀ r, letTemporaryGo value (.str x t) r = pure () := by intro _; with_unfolding_all rfl) :
    wpAny (model prog w) A (subscriptTail value slice (.str x t) (.int (-1) u)) Q E s :=
  item_str (by decide) (by omega) (by omega) (fun _ => h) hs ht

theorem min3N {prog : Program} {w : World} {A : Around} {E : Value → Shared → Prop} {s : Shared} {h₀ : Heap} {L : Addr} {m : Str → Option Value} {news : List (Addr × Obj)} {a b c : Int} {t u x : Tok} {Q : Value → Shared → Prop} (hh : A.handled = none) (F : Fr h₀ L s.heap m) (N : News h₀ L s.heap news)
    (h : ∀ h' tk t', Fr h₀ L h' m → News h₀ L h' news → Q (.int (min a (min b c)) t') { s with heap := h', toks := tk }) :
    wpAny (model prog w) A (call (.builtin "min") [.int a t, .int b u, .int c x]) Q E s := by
  refine min_three_ints hh fun h' tk hk => ?_
  have key := fun tok => h h' tk tok (F.grownK hk) (N.grown hk)
  have e : ∀ r : Int, min a (min b c) = r → ∀ tok, Q (.int r tok) { s with heap := h', toks := tk } := fun r hr tok => hr ▸ key tok
  by_cases h1 : b < a <;> by_cases h2 : c < b <;> by_cases h3 : c < a <;> simp only [h1, h2, h3, if_true, if_false] <;> exact e _ (by omega) _

theorem far_zero (w : World) (news : List (Addr × Obj)) (x y : Str) (t1 t2 : Tok) (h1 : x.length + y.length ≤ 255) (h0 : x.length = 0 ∨ y.length = 0) :
  Claim w 177 (2 * (x.length + y.length) + 2) news [.str x t1, .str y t2] (fun t => .int (farS x y : Int) t) := by
  rw [farS_nil h0, Int.natCast_add]
  unfold Claim
  w_top off
  k_fill
  intro loose mean mg mb dp un gd cn cs a ccd cl outer A₀ base h₀ L m s Q E B F X N T hk hd hu hret
  have hb : (x == Str.ofString "") = true ∨ ((x == Str.ofString "") = false ∧ (y == Str.ofString "") = true) := by
    by_cases hx : x.length = 0
    · exact .inl (eq_of_zero hx)
    · exact .inr ⟨ne_of_pos (by omega), eq_of_zero (h0.resolve_left hx)⟩
  rcases hb with hb | ⟨hb, hc⟩
  all_goals refine wpAny_call ?_
  all_goals k_dflt cell_enter
  all_goals k_steps
  all_goals exact hret _ _ _ (by assumption) (by assumption)
local macro_rules | `(tactic| walk_at "subscriptTail Name UnaryOp str int") => `(tactic| (k_here; k_dflt (refine' item_last ?a ?_; (case a => assumption); k_whole)))
local macro_rules | `(tactic| walk_at "call builtin:min") => `(tactic| (k_here; k_dflt (refine' min3N ?a ?b ?c ?_; (case a => exact rfl); (case b => k_asm); (case c => k_asm); k_whole); intro h' tk' t' F' N'))
local macro_rules | `(tactic| walk_at "call ref") => `(tactic| (k_here; (with_reducible refine at_ 177 ?_); k_dflt (walk_at "u0"; refine' farIH_use ?ih _ _ _ _ _ ?_; (case ih => assumption); omega; walk_at "uz")))

theorem far_step (w : World) (n : Nat) (IH : FarIH w n) (news : List (Addr × Obj)) (x y : Str) (t1 t2 : Tok) (hn : x.length + y.length ≤ n) (h1 : x.length + y.length ≤ 255) (hx : 0 < x.length) (hy : 0 < y.length) :
  Claim w 177 (2 * (x.length + y.length) + 2) news [.str x t1, .str y t2] (fun t => .int (farS x y : Int) t) := by
  have hx1 := ne_of_pos hx
  have hy1 := ne_of_pos hy
  have hx2 := ini_len hx
  have hy2 := ini_len hy
  unfold Claim
  w_top off
  k_fill
  intro loose mean mg mb dp un gd cn cs a ccd cl outer A₀ base h₀ L m s Q E B F X N T hk hd hu hret
  refine wpAny_call ?_
  k_dflt cell_enter
  k_steps
  · (have e := farS_eq hx hy (by assumption)); rw [e] at hret; exact hret _ _ _ (by assumption) (by assumption)
  · (have e := farS_ne hx hy (by assumption)); rw [e] at hret
    refine cb_retI hret ?_ (by assumption) (by assumption)
    omega

theorem far_all (w : World) : ∀ n, n ≤ 256 → FarIH w n
  | 0, _ => fun _ _ _ _ _ h => absurd h (Nat.not_lt_zero _)
  | n + 1, hn => fun news x y t1 t2 h => by
    by_cases h0 : x.length = 0 ∨ y.length = 0
    · exact far_zero w news x y t1 t2 (by omega) h0
    · exact far_step w n (far_all w n (by omega)) news x y t1 t2 (by omega) (by omega) (by omega) (by omega)
theorem far_ok (w : World) (news : List (Addr × Obj)) (x y : Str) (t1 t2 : Tok) (h : x.length + y.length ≤ 255) :
  Claim w 177 (2 * (x.length + y.length) + 2) news [.str x t1, .str y t2] (fun t => .int (farS x y : Int) t) := far_all w 256 (Nat.le_refl _) news x y t1 t2 (by omega)
end
section
set_option maxRecDepth 100000
set_option maxHeartbeats 8000000
local macro_rules | `(tactic| k_room) => `(tactic| ((try simp only [depth_under_make, depth_under_kw, depth_in1, depth_deeper, depth_caller]); (try dsimp only [ktrTop]); omega))

abbrev ClaimG (w : World) (f : Addr) (d : Nat) (news : List (Addr × Obj)) (vs : List Value) (P : Value → List (Addr × Obj) → Prop) : Prop :=
  ∀ (loose : List Str) (mean : ExcName → Option Value) (mg mb : Str → Option Value)
    (dp un : Nat) (gd : Option (List Code)) (cn : Str) (cs : Scope) (a : Addr) (ccd : Value) (cl : List (Str × Addr)) (outer : List Env) (A₀ : Around) (base h₀ : Heap) (L : Addr) (m : Str → Option Value) (s : Shared) (Q E : Value → Shared → Prop),
    Below A₀ base outer h₀ → Fr h₀ L s.heap m → (hd.heap_39 w.params).In h₀ → News h₀ L s.heap news → Top hd.view_39 loose mean mg mb h₀ → cs.kind = .function →
    dp + d < recursionLimit → un + 8 * d < cLine → (∀ (r : Value) (news' : List (Addr × Obj)) (h' : Heap) (tk' : Nat), P r news' → Fr h₀ L h' m → News h₀ L h' news' → Q r { s with heap := h', toks := tk' }) →
      wpAny (model PySem.Challenge.rw_xm0060_01.row.prog w) (ktrTop dp un gd cn cs L a ccd cl outer) (call (.ref f) vs) Q E s
theorem useG {w : World} {f : Addr} {d : Nat} {news : List (Addr × Obj)} {vs : List Value} {P : Value → List (Addr × Obj) → Prop} {loose : List Str} {mean : ExcName → Option Value} {mg mb : Str → Option Value}
    {dp un : Nat} {gd : Option (List Code)} {cn : Str} {cs : Scope} {a : Addr} {ccd : Value} {cl : List (Str × Addr)} {outer : List Env} {A₀ : Around} {base h₀ : Heap} {L : Addr} {m : Str → Option Value} {s : Shared} {Q E : Value → Shared → Prop}
    (C : ClaimG w f d news vs P) (B : Below A₀ base outer h₀) (F : Fr h₀ L s.heap m) (X : (hd.heap_39 w.params).In h₀) (N : News h₀ L s.heap news) (T : Top hd.view_39 loose mean mg mb h₀) (hk : cs.kind = .function)
    (hdp : dp + d < recursionLimit) (hun : un + 8 * d < cLine) (ret : ∀ (r : Value) (news' : List (Addr × Obj)) (h' : Heap) (tk' : Nat), P r news' → Fr h₀ L h' m → News h₀ L h' news' → Q r { s with heap := h', toks := tk' }) :
    wpAny (model PySem.Challenge.rw_xm0060_01.row.prog w) (ktrTop dp un gd cn cs L a ccd cl outer) (call (.ref f) vs) Q E s :=
  C loose mean mg mb dp un gd cn cs a ccd cl outer A₀ base h₀ L m s Q E B F X N T hk hdp hun ret
theorem setN {prog : Program} {w : World} {A : Around} {E : Value → Shared → Prop} {s : Shared} {h₀ : Heap} {L D : Addr} {m : Str → Option Value} {rest : List (Addr × Obj)} {vs : List Value} {n : Nat} {k : Int} {t : Tok} {v : Value} {Q : Unit → Shared → Prop}
    (F : Fr h₀ L s.heap m) (N : News h₀ L s.heap ((D, listOf (List.toArray vs) n) :: rest)) (hr : ∀ p ∈ rest, p.1 ≠ D) (h0 : 0 ≤ k) (h1 : k < vs.length) (hfit : k < 2 ^ 63)
    (h : ∀ h', Fr h₀ L h' m → News h₀ L h' ((D, listOf (List.toArray (vs.set k.toNat v)) n) :: rest) → Q () { s with heap := h' }) :
    wpAny (model prog w) A (setItem (.ref D) (.int k t) v) Q E s := by
  have z := N (D, listOf (List.toArray vs) n) (.head _)
  refine ki_setAt z.1 h0 hfit (by simpa using h1) (h _ (F.change (Heap.SameBut.update ..) z.2.1 z.2.2) (ki_turn (pre := []) _ N (fun _ hp => nomatch hp) hr ?_ ?_))
  · show (List.toArray vs).setIfInBounds k.toNat v = List.toArray (vs.set k.toNat v)
    apply Array.toList_inj.mp
    simp
  · simp

def DrawP (bag l : Addr) (spot : Int) (n : Nat) (below : Int) (rest : List (Addr × Obj)) (r : Value) (news' : List (Addr × Obj)) : Prop :=
  ∃ (v : Int) (t t2 : Tok), 0 ≤ v ∧ v < below ∧ r = .int v t ∧ news' = (bag, listOf #[.ref l, .int (spot + 1) t2] n) :: rest
local macro_rules | `(tactic| walk_at "setItem ref int") => `(tactic| (k_here; k_dflt (refine' setN ?a ?b ?c ?d ?e ?f ?_; (case a => k_asm); (case b => k_asm); (case c => assumption); (case d => omega); (case e => (simp only [List.length_cons, List.length_nil]; omega)); (case f => omega); k_whole); intro h' F' N'; (try k_sweep)))
local macro_rules | `(tactic| walk_at "subscriptTail") => `(tactic| (k_here; (with_reducible refine subAt ?_); k_dflt (walk_at "g0"; rfl; k_whole)))
local macro_rules | `(tactic| walk_at "call builtin:len") => `(tactic| (k_here; (with_reducible refine lenAt ?_); k_dflt (walk_at "l0"; (simp only [List.length_cons, List.length_nil]; decide); k_whole); (try simp only [List.length_cons, List.length_nil])))

theorem lenI {prog : Program} {w : World} {A : Around} {E : Value → Shared → Prop} {s : Shared} {l : Addr} {vs : List Value} {ns : List Int} {Q : Value → Shared → Prop} {h₀ : Heap} {L : Addr} {news : List (Addr × Obj)} {n : Nat}
    (N : News h₀ L s.heap news) (hm : (l, listOf (List.toArray vs) n) ∈ news) (hi : IntsAre vs ns) (hf : ns.length ≤ 1000) (h : Q (.int (ns.length : Int) (s.toks + 1)) { s with toks := s.toks + 1 + 1 }) :
    wpAny (model prog w) A (call (.builtin "len") [.ref l]) Q E s := by
  have e := hi.length
  exact lenN N hm (by omega) (by rw [e]; exact h)
local macro_rules | `(tactic| walk_at "call builtin:len") => `(tactic| (k_here; (with_reducible refine lenAt ?_); k_dflt (refine' lenI ?N ?m ?i ?a ?_; (case N => k_asm); (case m => walk_at "mB"); (case i => with_reducible assumption); (case a => omega); k_whole)))
local macro_rules | `(tactic| walk_at "subscriptTail") => `(tactic| (k_here; (with_reducible refine subAt ?_); k_dflt (walk_at "s0")))
theorem draw_ok (w : World) (rest : List (Addr × Obj)) (bag l : Addr) (spot below : Int) (t1 t2 : Tok) (n n2 : Nat) (vs : List Value) (ns : List Int) (hi : IntsAre vs ns) (hlen : ns.length ≤ 12) (hs0 : 0 ≤ spot) (hs1 : spot ≤ 1000) (hb : 0 < below) (hb2 : below ≤ 3)
  (hm : (l, listOf (List.toArray vs) n2) ∈ rest) (hr : ∀ p ∈ rest, p.1 ≠ bag) :
  ClaimG w 156 4 ((bag, listOf #[.ref l, .int spot t1] n) :: rest) [.ref bag, .int below t2] (DrawP bag l spot n below rest) := by
  unfold ClaimG
  w_top off
  k_fill
  intro loose mean mg mb dp un gd cn cs a ccd cl outer A₀ base h₀ L m s Q E B F X N T hk hd hu hret
  refine wpAny_call ?_
  k_dflt cell_enter
  k_steps
  all_goals
    refine hret _ _ _ _ ?_ (by assumption) (by assumption)
    exact ⟨_, _, _, Int.fmod_nonneg_of_pos _ hb, Int.fmod_lt_of_pos _ hb, rfl, rfl⟩
end
section
set_option maxRecDepth 100000
set_option maxHeartbeats 8000000
local macro_rules | `(tactic| k_room) => `(tactic| ((try simp only [depth_under_make, depth_under_kw, depth_in1, depth_deeper, depth_caller]); (try dsimp only [ktrTop]); omega))
local macro_rules | `(tactic| walk_at "unused0") => `(tactic| skip)

def Hold (p : Prop) : Prop := p
theorem Hold.out {p : Prop} (h : Hold p) : p := h
def Same (x : Str) (stored : List Str) (m₀ : Str → Option Value) (m : Str → Option Value) : Prop := ∀ z, z ≠ x → stored.contains z = false → m z = m₀ z
theorem same_fr {h₀ : Heap} {L : Addr} {h : Heap} {x : Str} {stored : List Str} {m₀ m₁ : Str → Option Value} {v : Option Value} (hs : Same x stored m₀ m₁) (F : Fr h₀ L h (fun y => if y = x then v else m₁ y)) :
    Fr h₀ L h (fun y => if y = x then v else if stored.contains y then m₁ y else m₀ y) := by
  have em : (fun y => if y = x then v else if stored.contains y then m₁ y else m₀ y) = fun y => if y = x then v else m₁ y := by
    funext y
    by_cases hy : y = x
    · rw [if_pos hy, if_pos hy]
    · rw [if_neg hy, if_neg hy]
      cases h3 : stored.contains y with
      | true => simp
      | false => simp only [Bool.false_eq_true, if_false]; exact (hs y hy h3).symm
  rw [em]; exact F
theorem same_out {h₀ : Heap} {L : Addr} {h : Heap} {x : Str} {stored : List Str} {m₀ m₁ : Str → Option Value} (hs : Same x stored m₀ m₁) (F : Fr h₀ L h m₁) :
    Fr h₀ L h (fun y => if y = x then m₁ y else if stored.contains y then m₁ y else m₀ y) := by
  have em : (fun y => if y = x then m₁ y else if stored.contains y then m₁ y else m₀ y) = m₁ := by
    funext y
    by_cases hy : y = x
    · rw [if_pos hy]
    · rw [if_neg hy]
      cases h3 : stored.contains y with
      | true => simp
      | false => simp only [Bool.false_eq_true, if_false]; exact (hs y hy h3).symm
  rw [em]; exact F
theorem same_self {x : Str} {stored : List Str} {m₀ : Str → Option Value} : Same x stored m₀ m₀ := fun _ _ _ => rfl

section
variable {prog : Program} {w : World} {A : Around} {E : Value → Shared → Prop} {s : Shared} {env : Env} {h₀ : Heap} {x : Str} {body : List Stmt} {Q : Flow → Shared → Prop}
theorem range_loop {r : Addr} {a₀ b₀ : Int} {t₀ u₀ v₀ : Tok} {n : Nat} {m₀ : Str → Option Value} {led₀ : List (Addr × Obj)} (J : Nat → List (Addr × Obj) → Prop) (stored : List Str)
    (hh : A.handled = none) (hr : IsRange s.heap r a₀ b₀ 1 t₀ u₀ v₀) (hsmall : Builtin.Range.small a₀ b₀ 1 = true) (hn : Builtin.Range.rangeSize a₀ b₀ 1 = (n : Int)) (F : Fr h₀ env.locals s.heap m₀) (N : News h₀ env.locals s.heap led₀) (hj : J 0 led₀)
    (turn : ∀ (i : Nat) t (u : Str → Option Value) nx h tk own, i < n → TbOff own nx → J i nx → Fr h₀ env.locals h (fun y => if y = x then some (.int (a₀ + (i : Int)) t) else if stored.contains y then u y else m₀ y) → News h₀ env.locals h (nx ++ own) →
      wpAny (model prog w) A (execs body env) (TbPost h₀ env.locals (fun m nx => Same x stored m₀ m ∧ J (i + 1) nx) own { s with heap := h, toks := tk } Q) E { s with heap := h, toks := tk })
    (done : ∀ (u : Str → Option Value) nx h tk, J n nx → Fr h₀ env.locals h (fun y => if y = x then u y else if stored.contains y then u y else m₀ y) → News h₀ env.locals h nx → Q .next { s with heap := h, toks := tk }) :
    wpAny (model prog w) A (pyIter (.ref r)) (fun it s₂ => LoopAtV prog w A h₀ env x body Q E it s₂) E s := by
  refine tbr_invG (fun i m nx => Same x stored m₀ m ∧ J i nx) hh hr hsmall hn F N ⟨same_self, hj⟩ ?_ ?_
  · rintro i k t m₁ nx h tk own hk hoff ⟨hs, hJ⟩ F₁ N₁
    have hi : i < n := by
      have := (List.getElem?_eq_some_iff.mp hk).1
      rwa [rangeKs_length] at this
    have e : k = a₀ + (i : Int) := by
      have := hk; simp [rangeKs, hi] at this; exact this.symm
    subst e
    exact turn i t m₁ nx h tk own hi hoff hJ (same_fr hs F₁) N₁
  · rintro m₁ nx h tk ⟨hs, hJ⟩ F₁ N₁
    exact done m₁ nx h tk hJ (same_out hs F₁) N₁
end
theorem tbEnd {h₀ : Heap} {L : Addr} {J : (Str → Option Value) → List (Addr × Obj) → Prop} {own news' : List (Addr × Obj)} {s₁ : Shared} {h' : Heap} {tk : Nat} {m' : Str → Option Value} (nx : List (Addr × Obj))
    (F : Fr h₀ L h' m') (N : News h₀ L h' news') (hn : ∀ p ∈ nx, p ∈ news') (ho : ∀ p ∈ own, p ∈ news') (hoff : TbOff own nx) (hj : J m' nx) : TbEnd h₀ L J own s₁ { s₁ with heap := h', toks := tk } := ⟨h', tk, m', news', nx, rfl, F, N, hn, ho, hoff, hj⟩
theorem ints_push {vs : List Value} {ns : List Int} {v n : Int} {t : Tok} (h : IntsAre vs ns) (e : v = n) : IntsAre (vs ++ [.int v t]) (ns ++ [n]) := by
  subst e
  induction h with
  | nil => exact .cons _ _ .nil
  | cons i t _ ih => exact .cons i t ih
theorem ne_stored {z k : Str} {l : List Str} (h : l.contains z = false) (hk : l.contains k = true) : z ≠ k := fun e => by rw [e, hk] at h; cases h
theorem range_size {a b : Int} {n : Nat} (h : b - a = (n : Int)) : Builtin.Range.rangeSize a b 1 = (n : Int) := by
  rw [rangeSize_nat]
  omega
local macro_rules | `(tactic| walk_at "pyIter ref") => `(tactic| (k_here; (with_reducible show wpAny _ _ (pyIter (Value.ref _)) (fun it s₂ => LoopAtV _ _ _ _ _ _ _ _ _ it s₂) _ _); refine Hold.out ?_))

def mn (x y : Int) : Int := if y < x then y else x
noncomputable def dtRow (f : Nat → Int) (x : Nat) (b : List Nat) : Nat → Int
  | 0 => f 0 + 1
  | j + 1 => mn (mn (f (j + 1) + 1) (dtRow f x b j + 1)) (f j + if x = b.getD j 0 then 0 else 1)
noncomputable def dt (a b : List Nat) : Nat → Nat → Int
  | 0 => fun j => (j : Int)
  | i + 1 => dtRow (dt a b i) (a.getD i 0) b
theorem dt_zl (a b : List Nat) (j : Nat) : dt a b 0 j = (j : Int) := rfl
theorem dt_zr (a b : List Nat) : ∀ i : Nat, dt a b i 0 = (i : Int)
  | 0 => rfl
  | i + 1 => congrArg (· + 1) (dt_zr a b i)
theorem dt_s (a b : List Nat) (i j : Nat) : dt a b (i + 1) (j + 1) = mn (mn (dt a b i (j + 1) + 1) (dt a b (i + 1) j + 1)) (dt a b i j + if a.getD i 0 = b.getD j 0 then 0 else 1) := rfl
noncomputable def rowTo (a b : List Nat) (i n : Nat) : List Int := (List.range n).map (dt a b i)
theorem rowTo_len (a b : List Nat) (i n : Nat) : (rowTo a b i n).length = n := by simp [rowTo]
theorem rowTo_get {a b : List Nat} {i n k : Nat} (h : k < n) : (rowTo a b i n).getD k 0 = dt a b i k := by
  simp [rowTo, h]
theorem rowTo_succ (a b : List Nat) (i n : Nat) : rowTo a b i (n + 1) = rowTo a b i n ++ [dt a b i n] := by
  simp [rowTo, List.range_succ]
theorem dt_eq {a b : List Nat} {i j : Nat} (h : a.getD i 0 = b.getD j 0) : dt a b (i + 1) (j + 1) = mn (mn (dt a b i (j + 1) + 1) (dt a b (i + 1) j + 1)) (dt a b i j + 0) := by rw [dt_s, if_pos h]
theorem dt_ne {a b : List Nat} {i j : Nat} (h : ¬ a.getD i 0 = b.getD j 0) : dt a b (i + 1) (j + 1) = mn (mn (dt a b i (j + 1) + 1) (dt a b (i + 1) j + 1)) (dt a b i j + 1) := by rw [dt_s, if_neg h]

def RowIn (led : List (Addr × Obj)) (v : Value) (ns : List Int) : Prop := ∃ (r : Addr) (vs : List Value) (n : Nat), v = .ref r ∧ (r, listOf (List.toArray vs) n) ∈ led ∧ IntsAre vs ns
def TabJ (news : List (Addr × Obj)) (R : Addr) (rows : Nat → List Int) (i : Nat) (nx : List (Addr × Obj)) : Prop :=
  ∃ (rvs : List Value) (nn : Nat) (ents : List (Addr × Obj)), nx = (R, listOf (List.toArray rvs) nn) :: (ents ++ news) ∧ rvs.length = i + 1 ∧ (∀ k, k < i + 1 → ∃ v, rvs[k]? = some v ∧ RowIn ents v (rows k)) ∧ (∀ p ∈ ents, p.1 ≠ R) ∧ (∀ q ∈ news, ∀ p ∈ ents, q.1 < p.1) ∧ (∀ q ∈ news, q.1 < R)
def AtGet (vs : List Value) (i : Int) (v : Value) : Prop := ∀ j : Int, j = i → vs[j.toNat]? = some v
theorem AtGet.use {vs : List Value} {i j : Int} {v : Value} (h : AtGet vs i v) (e : j = i) : vs[j.toNat]? = some v := h j e
local macro_rules | `(tactic| walk_at "subscriptTail") => `(tactic| (k_here; (with_reducible refine subAt ?_); k_dflt (walk_at "g0"; exact AtGet.use (by assumption) (by omega); k_whole)))
local macro_rules | `(tactic| walk_at "subscriptTail") => `(tactic| (k_here; (with_reducible refine subAt ?_); k_dflt (walk_at "s0")))
local macro_rules | `(tactic| k_all) => `(tactic| assumption)
local macro_rules | `(tactic| walk_at "call ref") => `(tactic| (k_here; (with_reducible refine at_ 114 ?_); k_dflt (walk_at "u0"; refine' min_ok _ _ _ _ _ _ _ _ ?p0; (case p0 => walk_at "mB"); walk_at "uz")))
local macro_rules | `(tactic| walk_at "call ref") => `(tactic| (k_here; (with_reducible refine at_ 163 ?_); k_dflt (walk_at "u0"; refine' same_ok _ _ _ _ _ _ _ _ _ _ ?_ ?_ ?_ ?_ ?_ ?_; omega; omega; omega; omega; omega; omega; walk_at "uz")))

theorem table_ok (w : World) (news : List (Addr × Obj)) (x y : Str) (t1 t2 : Tok) (hx : x.length ≤ 250) (hy : y.length ≤ 250) :
  ClaimG w 170 12 news [.str x t1, .str y t2] (fun r news' => ∃ R, r = .ref R ∧ TabJ news R (fun i => rowTo x.cps.toList y.cps.toList i (y.length + 1)) x.length news') := by
  unfold ClaimG
  w_top off
  k_fill
  intro loose mean mg mb dp un gd cn cs a ccd cl outer A₀ base h₀ L m s Q E B F X N T hk hd hu hret
  refine wpAny_call ?_
  k_dflt cell_enter
  k_steps
  rename_i D vs c hD tkD lD hI R hR lR hF F1 N1 h3 tk4 ta ua va rg F2 N2 kp
  unfold Hold
  refine range_loop (n := x.length) (TabJ news R (fun i => rowTo x.cps.toList y.cps.toList i (y.length + 1))) [Str.ofString "row", Str.ofString "above", Str.ofString "spot", Str.ofString "least"] (by rfl) rg ?small (range_size (by omega)) F2 N2 ?hj ?turn ?done
  case small => exact small_one (by l_bnd) (by l_bnd) (by l_bnd) (by l_bnd)
  case hj =>
    refine ⟨[.ref D], 0, [(D, listOf (List.toArray vs) c)], rfl, rfl, ?_, ?_, ?_, ?_⟩
    · intro k hk
      have e : k = 0 := by omega
      subst e
      refine ⟨_, rfl, D, vs, c, rfl, .head _, ?_⟩
      have e : rowTo x.cps.toList y.cps.toList 0 (y.length + 1) = rangeKs 0 ((y.length : Int) + 1 - 0).toNat := by
        unfold rowTo rangeKs
        have e1 : ((y.length : Int) + 1 - 0).toNat = y.length + 1 := by omega
        rw [e1]
        apply List.map_congr_left
        intro j _
        simp [dt_zl]
      show IntsAre vs (rowTo x.cps.toList y.cps.toList 0 (y.length + 1))
      rw [e]; exact hI
    · intro p hp
      rw [List.mem_singleton.mp hp]
      exact Nat.ne_of_lt lR.1
    · intro q hq p hp
      rw [List.mem_singleton.mp hp]
      exact lD q hq
    · intro q hq
      exact Nat.lt_trans (lD q hq) lR.1
  case done =>
    intro u nx h5 tk5 hJ F5 N5
    k_steps
    all_goals exact hret _ _ _ _ ⟨R, rfl, hJ⟩ (by assumption) (by assumption)
  case turn =>
    rintro i t u nx h5 tk5 own hi hoff ⟨rvs, nn, ents, rfl, hlen, hrow, hne, hord, hR0⟩ F5 N5
    obtain ⟨v, hv, ab, avs, an, rfl, hab, hai⟩ := hrow i (by omega)
    obtain ⟨rest, hrest⟩ : ∃ r, r = ents ++ news ++ own := ⟨_, rfl⟩
    have hsub : ∀ p ∈ ents, p ∈ rest := fun p hp => by rw [hrest]; simp [hp]
    have habr : (ab, listOf (List.toArray avs) an) ∈ rest := hsub _ hab
    have N6 := kst_newsOf (l' := (R, listOf (List.toArray rvs) nn) :: rest) N5 (fun p hp => by rw [hrest] at hp; simpa using hp)
    clear N5
    have hget : AtGet rvs (i : Int) (.ref ab) := fun j e => by rw [e]; simpa using hv
    show wpAny _ _ _ _ _ _
    k_fold
    k_steps
    rename_i rowA hq0 lrow tupA hq1 ltup hq2 Fq Nq hq3 hq4 Fq2 Nq2 hq5 tkq tq uq vq rgq F7 N7 kp7
    unfold Hold
    obtain ⟨rst, hrst⟩ : ∃ r, r = (R, listOf (List.toArray rvs) nn) :: rest := ⟨_, rfl⟩
    have N8 := kst_newsOf (l' := (rowA, listOf #[.int (1 + (i : Int)) t] 0) :: rst) N7 (fun p hp => by rw [hrst] at hp; exact .tail _ hp)
    have habs : (ab, listOf (List.toArray avs) an) ∈ rst := by rw [hrst]; exact .tail _ habr
    have hnes : ∀ p ∈ rst, p.1 ≠ rowA := fun p hp => by
      rw [hrst] at hp
      rcases List.mem_cons.mp hp with rfl | hp
      · exact Nat.ne_of_lt lrow.1
      · exact Nat.ne_of_lt (ktn_ltOf lrow.2 p hp)
    replace hai : IntsAre avs (rowTo x.cps.toList y.cps.toList i (y.length + 1)) := hai
    have hal := rowTo_len x.cps.toList y.cps.toList i (y.length + 1)
    clear N7 kp7
    refine range_loop (n := y.length) (fun j nx => ∃ vs n, nx = (rowA, listOf (List.toArray vs) n) :: rst ∧ IntsAre vs (rowTo x.cps.toList y.cps.toList (i + 1) (j + 1))) [Str.ofString "least"] (by rfl) rgq ?small2 (range_size (by omega)) F7 N8 ?hj2 ?turn2 ?done2
    case small2 => exact small_one (by l_bnd) (by l_bnd) (by l_bnd) (by l_bnd)
    case hj2 =>
      refine ⟨[.int (1 + (i : Int)) t], 0, rfl, ?_⟩
      have e : rowTo x.cps.toList y.cps.toList (i + 1) (0 + 1) = [1 + (i : Int)] := by
        simp [rowTo, dt_zr]; omega
      rw [e]
      exact .cons _ _ .nil
    case turn2 =>
      rintro j tj u2 nx h6 tk6 own2 hj hoff2 ⟨vs2, n2, rfl, hvi⟩ F8 N9
      obtain ⟨rst2, hrst2⟩ : ∃ r, r = rst ++ own2 := ⟨_, rfl⟩
      have N10 := kst_newsOf (l' := (rowA, listOf (List.toArray vs2) n2) :: rst2) N9 (fun p hp => by rw [hrst2] at hp; simpa using hp)
      have habt : (ab, listOf (List.toArray avs) an) ∈ rst2 := by rw [hrst2]; exact List.mem_append_left _ habs
      have hnet : ∀ p ∈ rst2, p.1 ≠ rowA := fun p hp => by
        rw [hrst2] at hp
        rcases List.mem_append.mp hp with hp | hp
        · exact hnes p hp
        · exact hoff2 p hp _ (.head _)
      have hvl := rowTo_len x.cps.toList y.cps.toList (i + 1) (j + 1)
      have hvl2 := hvi.length
      clear N9
      show wpAny _ _ _ _ _ _
      k_fold
      k_steps
      all_goals
        have hs := same_cl (x := x) (y := y) (i := 1 + (i : Int)) (j := 1 + (j : Int)) (by omega) (by omega) (by omega) (by omega)
        have ei : (1 + (i : Int) - 1).toNat = i := by omega
        have ej : (1 + (j : Int) - 1).toNat = j := by omega
        have ej1 : (1 + (j : Int)).toNat = j + 1 := by omega
        have g1 := rowTo_get (a := x.cps.toList) (b := y.cps.toList) (i := i + 1) (n := j + 1) (k := j) (by omega)
        have g2 := rowTo_get (a := x.cps.toList) (b := y.cps.toList) (i := i) (n := y.length + 1) (k := j + 1) (by omega)
        have g3 := rowTo_get (a := x.cps.toList) (b := y.cps.toList) (i := i) (n := y.length + 1) (k := j) (by omega)
        rw [ei, ej] at hs
        refine tbEnd ((rowA, listOf ((List.toArray vs2).push _) (n2 + 1)) :: rst) (by assumption) (by assumption) (List.forall_mem_cons.mpr ⟨.tail _ (.tail _ (.head _)), ?_⟩) ?_ ?_ ⟨?_, vs2 ++ [_], n2 + 1, by rw [List.push_toArray], ?_⟩
        · intro p hp; exact .tail _ (.tail _ (.tail _ (by rw [hrst2]; exact List.mem_append_left _ hp)))
        · intro p hp; exact .tail _ (.tail _ (.tail _ (by rw [hrst2]; exact List.mem_append_right _ hp)))
        · intro p hp q hq
          rcases List.mem_cons.mp hq with rfl | hq
          · exact hoff2 p hp (rowA, listOf (List.toArray vs2) n2) (.head _)
          · exact hoff2 p hp q (.tail _ hq)
        · intro z h1 h2
          have h3 := ne_stored h2 (k := Str.ofString "least") (by decide)
          simp only [h1, h3, h2, if_false, Bool.false_eq_true]
        · rw [rowTo_succ _ _ (i + 1) (j + 1)]
          refine ints_push hvi ?_
          simp only [ej, ej1, g1, g2, g3]
          first
            | exact (dt_eq (of_decide_eq_true (hs.symm.trans (by assumption)))).symm
            | exact (dt_ne (of_decide_eq_false (hs.symm.trans (by assumption)))).symm
    case done2 =>
      rintro u2 nx h6 tk6 ⟨vs2, n2, rfl, hvi⟩ F8 N9
      rw [hrst] at N9
      have N10 := kst_newsOf (l' := (R, listOf (List.toArray rvs) nn) :: (rowA, listOf (List.toArray vs2) n2) :: rest) N9 (fun p hp => by
        rcases List.mem_cons.mp hp with rfl | hp
        · exact .tail _ (.head _)
        · rcases List.mem_cons.mp hp with rfl | hp
          · exact .head _
          · exact .tail _ (.tail _ hp))
      clear N9
      have hrR : ∀ p ∈ (rowA, listOf (List.toArray vs2) n2) :: rest, p.1 ≠ R := fun p hp => by
        rcases List.mem_cons.mp hp with rfl | hp
        · exact (Nat.ne_of_lt lrow.1).symm
        · rw [hrest] at hp
          rcases List.mem_append.mp hp with hp | hp
          · rcases List.mem_append.mp hp with hp | hp
            · exact hne p hp
            · exact Nat.ne_of_lt (hR0 p hp)
          · exact hoff p hp _ (.head _)
      k_steps
      refine tbEnd ((R, listOf ((List.toArray rvs).push (.ref rowA)) (nn + 1)) :: (((rowA, listOf (List.toArray vs2) n2) :: ents) ++ news)) (by assumption) (by assumption) ?_ ?_ ?_ ⟨?_, rvs ++ [.ref rowA], nn + 1, (rowA, listOf (List.toArray vs2) n2) :: ents, by rw [List.push_toArray], ?_, ?_, ?_, ?_, hR0⟩
      · intro p hp
        rw [hrest]
        rcases List.mem_cons.mp hp with rfl | hp
        · exact .head _
        · rcases List.mem_cons.mp hp with rfl | hp
          · exact .tail _ (.head _)
          · exact .tail _ (.tail _ (List.mem_append_left _ hp))
      · intro p hp
        exact .tail _ (.tail _ (by rw [hrest]; exact List.mem_append_right _ hp))
      · intro p hp q hq
        rcases List.mem_cons.mp hq with rfl | hq
        · exact hoff p hp (R, listOf (List.toArray rvs) nn) (.head _)
        · rcases List.mem_cons.mp hq with rfl | hq
          · exact hnes p (by rw [hrst, hrest]; exact .tail _ (List.mem_append_right _ hp))
          · exact hoff p hp q (.tail _ hq)
      · intro z h1 h2
        have h3 := ne_stored h2 (k := Str.ofString "row") (by decide)
        have h4 := ne_stored h2 (k := Str.ofString "above") (by decide)
        have h5 := ne_stored h2 (k := Str.ofString "spot") (by decide)
        have h6 := ne_stored h2 (k := Str.ofString "least") (by decide)
        have h7 : [Str.ofString "least"].contains z = false := by
          simp only [List.contains_cons, List.contains_nil, Bool.or_false]; exact beq_false_of_ne h6
        simp only [h1, h2, h3, h4, h5, h6, h7, if_false, Bool.false_eq_true]
      · rw [List.length_append, hlen]; rfl
      · intro k hk
        by_cases e : k = i + 1
        · subst e
          refine ⟨.ref rowA, by rw [← hlen]; simp, rowA, vs2, n2, rfl, .head _, hvi⟩
        · obtain ⟨v, hv, r, vs, n, e1, e2, e3⟩ := hrow k (by omega)
          exact ⟨v, by rw [List.getElem?_append_left (by omega)]; exact hv, r, vs, n, e1, .tail _ e2, e3⟩
      · intro p hp
        rcases List.mem_cons.mp hp with rfl | hp
        · exact (Nat.ne_of_lt lrow.1).symm
        · exact hne p hp
      · intro q hq p hp
        rcases List.mem_cons.mp hp with rfl | hp
        · exact Nat.lt_trans (hR0 q hq) lrow.1
        · exact hord q hq p hp
end
section
set_option maxRecDepth 100000
set_option maxHeartbeats 8000000
local macro_rules | `(tactic| k_room) => `(tactic| ((try simp only [depth_under_make, depth_under_kw, depth_in1, depth_deeper, depth_caller]); (try dsimp only [ktrTop]); omega))

section
variable {prog : Program} {w : World} {A A₀ : Around} {E : Value → Shared → Prop} {s : Shared} {K : Frag} {L : Addr} {h₀ base : Heap} {m mg mb : Str → Option Value} {p : Program} {loose : List Str} {mean : ExcName → Option Value} {Q : Value → Shared → Prop}
theorem code_keep {env : Env} {outer : List Env} {R : Result → Shared → Prop} {name qual : Str} {params : Arguments} {body : List Stmt} {scope : Scope} {dV kV doc pm cdv ct oc : Value} {an od : Option Addr} {osl : Array (Option Value)} {f : Addr} {args : Args} {binds : List (Str × Value)}
    (B : Below A₀ base outer h₀) (F : Fr h₀ L s.heap m) (X₀ : K.In h₀) (T : Top p loose mean mg mb h₀) (hA : A.frames = some (env :: outer)) (hf : env.frame = some L) (hke : env.scope.kind = .function)
    (ho : K.lookup f = some ⟨oc, od, .func (fnOf name qual params body scope dV kV doc pm an cdv ct), osl⟩) (hcd : codeIn K cdv qual = true) (hroom : A.depth < recursionLimit)
    (hbind : BindsTo s (fnOf name qual params body scope dV kV doc pm an cdv ct) args binds) (hloc : ∀ y ∈ binds, scope.names.lookup y.1 = some .local)
    (h : ∀ L' h₁, Fr s.heap L' h₁ (fun y => binds.reverse.lookup y) → News s.heap L' h₁ [] → Below A base (env :: outer) s.heap → K.In s.heap → Top p loose mean mg mb s.heap →
      wpAny (model prog w) (A.deeper (envOf qual scope L' f cdv)) (execs body (envOf qual scope L' f cdv))
        (fun fl s' => LeaveK h₀ L m s.heap R (match fl with | .ret v => v | _ => .none) s')
        (fun e s' => wpAny (model prog w) (A.deeper (envOf qual scope L' f cdv)) (leaving (envOf qual scope L' f cdv) e) (fun _ s'' => R (.error e) s'') (fun e' s'' => R (.error e') s'') s')
        { s with heap := h₁, toks := s.toks + binds.length })
    (hco : scope.isCoroutine = false) (hgen : scope.isGenerator = false) (hk : scope.kind = .function)
    (hcell : ∀ x ∈ scope.names, x.2 ≠ .cell) : codeAny (model prog w) A (.call (.ref f) args) R s := by
  obtain ⟨FG, BG, st, lv⟩ := groundX (R := R) (news := []) B F News.nil hA hf hke
  refine codeAny_call_def (fd := fnOf name qual params body scope dV kV doc pm an cdv ct) (body := body) (binds := binds) hroom ((X₀.keeps F.keep) _ _ ho) rfl (T.nolimit.keeps F.keep) (codeRec_of (X₀.keeps F.keep) hcd) rfl hbind hcell hloc (fun h₁ hns hk₁ => ?_) hco hgen hk
  exact wpAny_mono (h s.heap.objs.size h₁ ⟨hns, hk₁, Nat.le_refl _⟩ News.nil BG (X₀.keeps F.keep) (T.keeps F.keep)) (fun fl s' hl => lv _ _ hl) fun _ _ y => y
end
theorem same_fr2 {h₀ : Heap} {L : Addr} {h : Heap} {xi xc : Str} {stored : List Str} {m₀ m₁ : Str → Option Value} {v0 v1 : Option Value} (hs : Same xi stored m₀ m₁) (_hc : stored.contains xc = true) (F : Fr h₀ L h (fun y => if y = xc then v1 else if y = xi then v0 else m₁ y)) :
    Fr h₀ L h (fun y => if y = xc then v1 else if y = xi then v0 else if stored.contains y then m₁ y else m₀ y) := by
  have em : (fun y => if y = xc then v1 else if y = xi then v0 else if stored.contains y then m₁ y else m₀ y) = fun y => if y = xc then v1 else if y = xi then v0 else m₁ y := by
    funext y
    by_cases h1 : y = xc
    · rw [if_pos h1, if_pos h1]
    · rw [if_neg h1, if_neg h1]
      by_cases hy : y = xi
      · rw [if_pos hy, if_pos hy]
      · rw [if_neg hy, if_neg hy]
        cases h3 : stored.contains y with
        | true => simp
        | false => simp only [Bool.false_eq_true, if_false]; exact (hs y hy h3).symm
  rw [em]; exact F
section
variable {prog : Program} {w : World} {A : Around} {E : Value → Shared → Prop} {s : Shared} {value slice : Expr} {l : Addr} {vs : List Value} {ns : List Int} {k : Int} {u : Tok} {v : Value} {Q : Value → Shared → Prop} {h₀ : Heap} {L : Addr} {m : Str → Option Value}
theorem getH (F : Fr h₀ L s.heap m) (hl : h₀.IsList l (List.toArray vs)) (h0 : 0 ≤ k) (hhi : k < 2 ^ 63) (hx : vs[k.toNat]? = some v) (h : Q v s)
    (hs : subscripted slice false (.ref l) (.int k u) = operate [.ref l, .int k u] (getItem (.ref l) (.int k u)) := by with_unfolding_all rfl) :
    wpAny (model prog w) A (subscriptTail value slice (.ref l) (.int k u)) Q E s :=
  tail_any (Fr.lst F hl).typeIs slot_list_getitem.lookup (wpAny_getItem_list (Fr.lst F hl) h0 hhi (by simpa using hx) h) hs
theorem subH (F : Fr h₀ L s.heap m) (hl : h₀.IsList l (List.toArray vs)) (hi : IntsAre vs ns) (h0 : 0 ≤ k) (h1 : k < ns.length) (hhi : k < 2 ^ 63) (h : ∀ t, Q (.int (ns.getD k.toNat 0) t) s)
    (hs : subscripted slice false (.ref l) (.int k u) = operate [.ref l, .int k u] (getItem (.ref l) (.int k u)) := by with_unfolding_all rfl) :
    wpAny (model prog w) A (subscriptTail value slice (.ref l) (.int k u)) Q E s := item_anyK (Fr.lst F hl) hi h0 h1 hhi h hs
end
def refKind : ItemKind Addr := ⟨fun a v => v = .ref a, fun v => match v with | .ref a => some a | _ => none, fun _ _ h => by rw [h]⟩
theorem refs_are (as : List Addr) : AreOf refKind (as.map Value.ref) as := by
  induction as with
  | nil => exact .nil
  | cons a r ih => exact .cons rfl ih

local macro_rules | `(tactic| walk_at "exec For Tuple Call") => `(tactic| ((rename Fr _ _ _ _ => F'); (with_reducible apply For_pair3F); (case _F => with_unfolding_all exact F'); (case hh => with_unfolding_all rfl); (case hxi => with_unfolding_all rfl); (case hxc => with_unfolding_all rfl); (case hp => with_unfolding_all rfl); (case hs => (intro _; with_unfolding_all rfl))))
local macro_rules | `(tactic| walk_at "call type:enumerate") => `(tactic| ((with_reducible show wpAny _ _ (call (Value.type _) [Value.ref _]) _ _ _); refine Hold.out ?_))
local macro_rules | `(tactic| walk_at "subscriptTail") => `(tactic| (k_here; (with_reducible refine subAt ?_); k_dflt (refine' subH ?N ?m ?i ?a ?b ?c ?_; (case N => k_asm); (case m => assumption); (case i => with_reducible assumption); (case a => omega); (case b => omega); (case c => omega); k_whole; intro t')))
local macro_rules | `(tactic| walk_at "subscriptTail") => `(tactic| (k_here; (with_reducible refine subAt ?_); k_dflt (refine' getH ?N ?m ?a ?b ?c ?_; (case N => k_asm); (case m => assumption); (case a => omega); (case b => omega); (case c => exact AtGet.use (by assumption) (by omega)); k_whole)))
local macro_rules | `(tactic| walk_at "LoopStep3") => `(tactic| refine Hold.out ?_)

theorem smooth_ok (w : World) (news : List (Addr × Obj)) (R : Addr) (as : List Addr) (nn : Nat) (rows : Nat → List Int) (nc : Nat) (hR : (R, listOf (List.toArray (as.map Value.ref)) nn) ∈ news)
    (hrow : ∀ i, i < as.length → RowIn news (.ref (as.getD i 0)) (rows i)) (hlen : ∀ i, (rows i).length = nc) (hnr : as.length ≤ 250) (hnc : nc ≤ 250)
    (hA : ∀ i j, 0 < i → i < as.length → j < nc → -1 ≤ (rows i).getD j 0 - (rows (i - 1)).getD j 0 ∧ (rows i).getD j 0 - (rows (i - 1)).getD j 0 ≤ 1)
    (hB : ∀ i j, i < as.length → 0 < j → j < nc → -1 ≤ (rows i).getD j 0 - (rows i).getD (j - 1) 0 ∧ (rows i).getD j 0 - (rows i).getD (j - 1) 0 ≤ 1) :
  Claim w 198 4 news [.ref R] (fun _ => .bool true) := by
  unfold Claim
  w_top off
  k_fill
  intro loose mean mg mb dp un gd cn cs a ccd cl outer A₀ base h₀ L m s Q E B F X N T hk hd hu hret
  refine wpAny_call ?_
  k_dflt (refine' code_keep ?k1 ?k2 ?k3 ?k5 ?kA ?kF ?kK ?k6 ?k7 ?k8 ?k9 ?kB ?_ ?c2 ?c3 ?c4 ?c5; (case kA => exact rfl); (case kF => exact rfl); (case kK => assumption); (case k1 => k_asm); (case k2 => k_asm); (case k3 => k_asm); (case k5 => k_asm); (case k6 => k_is); (case k7 => k_is); (case k8 => ktr_room); (case k9 => exact BindsTo.of_eq rfl); (case c5 => decide); (case kB => exact locs rfl); (case c2 => exact rfl); (case c3 => exact rfl); (case c4 => exact rfl); k_whole; intro L' h' F' N' B' X' T'; (try dsimp only); (try k_fold))
  k_steps
  have hlR : s.heap.IsList R (List.toArray (as.map Value.ref)) := ⟨_, (N _ hR).1, rfl, nn, rfl⟩
  have hrows : ∀ i, i < as.length → ∃ vs, s.heap.IsList (as.getD i 0) (List.toArray vs) ∧ IntsAre vs (rows i) := fun i hi => by
    obtain ⟨r, vs, n, e, hm, hv⟩ := hrow i hi
    have e' : as.getD i 0 = r := by injection e
    rw [e']
    exact ⟨vs, ⟨_, (N _ hm).1, rfl, n, rfl⟩, hv⟩
  unfold Hold
  refine call_enum_list (K := refKind) (as := as) (by rfl) hlR (refs_are as) (by assumption) (by assumption) ?_
  intro h2 e F2 N2 S
  show wpAny _ _ _ _ _ _
  refine S _ rfl _ _ _ _ (fun _ m nx => nx = [] ∧ Same (Str.ofString "at") [Str.ofString "row", Str.ofString "spot", Str.ofString "here"] _ m) ⟨rfl, same_self⟩ ?_ ?_
  · rintro i r t v m₁ nx s₁ own ⟨h3, tk3, rfl⟩ hi hv ⟨rfl, hs⟩ _ hoff F3 N3
    obtain rfl : v = .ref r := hv
    have hil := (List.getElem?_eq_some_iff.mp hi).1
    have hir : as.getD i 0 = r := by rw [List.getD_eq_getElem?_getD, hi]; rfl
    obtain ⟨vs, hl1, hv1⟩ := hrows i hil
    obtain ⟨vs', hl2, hv2⟩ := hrows (i - 1) (by omega)
    have hg2 : AtGet (as.map Value.ref) ((i - 1 : Nat) : Int) (.ref (as.getD (i - 1) 0)) := fun j e => by
      rw [e]
      have : i - 1 < as.length := by omega
      simp [this]
    rw [hir] at hl1
    have F4 := same_fr2 hs (by decide) F3
    clear F3
    show wpAny _ _ _ _ _ _
    k_fold
    k_steps
    unfold Hold
    refine call_enum_list (K := .int) (as := rows i) (by rfl) hl1 hv1.areOf (by assumption) (by assumption) ?_
    intro h5 e5 F5 N5 S5
    show wpAny _ _ _ _ _ _
    refine S5 _ rfl _ _ _ _ (fun _ m nx => nx = own ++ [] ∧ Same (Str.ofString "spot") [Str.ofString "here"] _ m) ⟨rfl, same_self⟩ ?_ ?_
    · rintro j av tj v m₂ nx s₁ own2 ⟨h6, tk6, rfl⟩ hj hv ⟨rfl, hs2⟩ _ hoff2 F6 N6
      obtain ⟨tv, rfl⟩ := hv
      have hjl := (List.getElem?_eq_some_iff.mp hj).1
      have hja : (rows i).getD j 0 = av := by rw [List.getD_eq_getElem?_getD, hj]; rfl
      have hn1 := hlen i
      have hn2 := hlen (i - 1)
      have hA1 : (0 : Int) < (i : Int) → -1 ≤ av - (rows (i - 1)).getD ((j : Int)).toNat 0 ∧ av - (rows (i - 1)).getD ((j : Int)).toNat 0 ≤ 1 := fun q => by
        have := hA i j (by omega) hil (by omega)
        rw [hja] at this
        simpa using this
      have hB1 : (0 : Int) < (j : Int) → -1 ≤ av - (rows i).getD ((j : Int) - 1).toNat 0 ∧ av - (rows i).getD ((j : Int) - 1).toNat 0 ≤ 1 := fun q => by
        have := hB i j hil (by omega) (by omega)
        rw [hja] at this
        have e : ((j : Int) - 1).toNat = j - 1 := by omega
        rw [e]
        exact this
      have F7 := same_fr2 hs2 (by decide) F6
      clear F6
      show wpAny _ _ _ _ _ _
      k_fold
      k_steps
      all_goals unfold Hold
      all_goals first
        | (refine LoopStep3.of2 (LoopStep2.intro (by assumption) (by assumption) (by rfl) ⟨rfl, ?_⟩)
           intro z h1 h2
           have h3 := ne_stored h2 (k := Str.ofString "here") (by decide)
           simp only [h1, h2, h3, if_false, Bool.false_eq_true])
        | (exfalso; omega)
    · rintro h8 tk8 m8 nx8 F8 N8 _ ⟨rfl, hs8⟩
      have F9 := same_out hs8 F8
      k_steps
      all_goals unfold Hold
      all_goals
        refine LoopStep3.of2 (LoopStep2.intro (by assumption) (by assumption) (by rfl) ⟨rfl, ?_⟩)
        intro z h1 h2
        have h3 := ne_stored h2 (k := Str.ofString "row") (by decide)
        have h4 := ne_stored h2 (k := Str.ofString "spot") (by decide)
        have h5 := ne_stored h2 (k := Str.ofString "here") (by decide)
        have h6 : [Str.ofString "here"].contains z = false := by
          simp only [List.contains_cons, List.contains_nil, Bool.or_false]; exact beq_false_of_ne h5
        simp only [h1, h2, h3, h4, h5, h6, if_false, Bool.false_eq_true]
  · rintro h8 tk8 m8 nx8 F8 N8 _ ⟨rfl, hs8⟩
    have F9 := same_out hs8 F8
    k_steps
    all_goals exact hret 0 _ _ (by assumption) (N.grown F8.keep)
end
section
set_option maxRecDepth 100000
set_option maxHeartbeats 8000000
local macro_rules | `(tactic| k_room) => `(tactic| ((try simp only [depth_under_make, depth_under_kw, depth_in1, depth_deeper, depth_caller]); (try dsimp only [ktrTop]); omega))

def Same2 (x y : Str) (stored : List Str) (m₀ : Str → Option Value) (m : Str → Option Value) : Prop := ∀ z, z ≠ x → z ≠ y → stored.contains z = false → m z = m₀ z
theorem same2_fr {h₀ : Heap} {L : Addr} {h : Heap} {x y : Str} {stored : List Str} {m₀ m₁ : Str → Option Value} {v u : Value} (hx : m₁ x = some v) (hy : m₁ y = some u) (hs : Same2 x y stored m₀ m₁) (F : Fr h₀ L h m₁) :
    Fr h₀ L h (fun z => if z = x then some v else if z = y then some u else if stored.contains z then m₁ z else m₀ z) := by
  have em : (fun z => if z = x then some v else if z = y then some u else if stored.contains z then m₁ z else m₀ z) = m₁ := by
    funext z
    by_cases h1 : z = x
    · rw [if_pos h1, h1, hx]
    · rw [if_neg h1]
      by_cases h2 : z = y
      · rw [if_pos h2, h2, hy]
      · rw [if_neg h2]
        cases h3 : stored.contains z with
        | true => simp
        | false => simp only [Bool.false_eq_true, if_false]; exact (hs z h1 h2 h3).symm
  rw [em]; exact F
def W2Post (h₀ : Heap) (L : Addr) (s : Shared) (x y : Str) (stored : List Str) (m₀ : Str → Option Value) (J : Nat → Nat → List (Addr × Obj) → Prop) (Q : Flow → Shared → Prop) (i j : Nat) (f : Flow) (s' : Shared) : Prop :=
  match f with
  | .next | .cont => ∃ (i' j' : Nat) (a b : Int) (t1 t2 : Tok) (h' : Heap) (tk' : Nat) (m' : Str → Option Value) (nx' : List (Addr × Obj)), s' = { s with heap := h', toks := tk' } ∧ Fr h₀ L h' m' ∧ News h₀ L h' nx' ∧ m' x = some (.int a t1) ∧ m' y = some (.int b t2) ∧ a = (i' : Int) ∧ b = (j' : Int) ∧
      Same2 x y stored m₀ m' ∧ J i' j' nx' ∧ i' + j' < i + j
  | .brk => Q .next s'
  | .ret v => Q (.ret v) s'
theorem w2End {h₀ : Heap} {L : Addr} {s : Shared} {x y : Str} {stored : List Str} {m₀ : Str → Option Value} {J : Nat → Nat → List (Addr × Obj) → Prop} {Q : Flow → Shared → Prop} {i j : Nat} {h' : Heap} {tk' : Nat} {m' : Str → Option Value} {news' : List (Addr × Obj)} {a b : Int} {t1 t2 : Tok}
    (i' j' : Nat) (nx' : List (Addr × Obj)) (F : Fr h₀ L h' m') (N : News h₀ L h' news') (hx : m' x = some (.int a t1)) (hy : m' y = some (.int b t2)) (ha : a = (i' : Int)) (hb : b = (j' : Int)) (hs : Same2 x y stored m₀ m') (hn : ∀ p ∈ nx', p ∈ news') (hJ : J i' j' nx') (hlt : i' + j' < i + j) :
    W2Post h₀ L s x y stored m₀ J Q i j .next { s with heap := h', toks := tk' } := ⟨i', j', a, b, t1, t2, h', tk', m', nx', rfl, F, fun p hp => N p (hn p hp), hx, hy, ha, hb, hs, hJ, hlt⟩
def W2J (x y : Str) (stored : List Str) (m₀ : Str → Option Value) (J : Nat → Nat → List (Addr × Obj) → Prop) (n : Nat) (m : Str → Option Value) (nx : List (Addr × Obj)) : Prop :=
  ∃ (i j : Nat) (t1 t2 : Tok), n = i + j ∧ m x = some (.int (i : Int) t1) ∧ m y = some (.int (j : Int) t2) ∧ Same2 x y stored m₀ m ∧ J i j nx
theorem w2conv {h₀ : Heap} {L : Addr} {s : Shared} {x y : Str} {stored : List Str} {m₀ : Str → Option Value} {J : Nat → Nat → List (Addr × Obj) → Prop} {Q : Flow → Shared → Prop} {i j : Nat} {s' : Shared} (q : W2Post h₀ L s x y stored m₀ J Q i j .next s') :
    WhileStep2 h₀ L s (W2J x y stored m₀ J) Q (i + j) .next s' := by
  obtain ⟨i', j', a, b, t1, t2, h', tk', m', nx', rfl, F', N', e1, e2, rfl, rfl, hs', hJ', hlt⟩ := q
  exact ⟨h', tk', m', nx', i' + j', rfl, F', N', hlt, i', j', t1, t2, rfl, e1, e2, hs', hJ'⟩
section
variable {prog : Program} {w : World} {A : Around} {E : Value → Shared → Prop} {Q : Flow → Shared → Prop} {s : Shared} {env : Env} {h₀ : Heap} {L : Addr}
theorem while2 {test : Expr} {body : List Stmt} {pos : Pos} {m₀ : Str → Option Value} {led₀ : List (Addr × Obj)} (J : Nat → Nat → List (Addr × Obj) → Prop) (x y : Str) (stored : List Str) (i₀ j₀ : Nat) {t₀ u₀ : Tok}
    (F : Fr h₀ L s.heap m₀) (N : News h₀ L s.heap led₀) (hx : m₀ x = some (.int i₀ t₀)) (hy : m₀ y = some (.int j₀ u₀)) (hJ : J i₀ j₀ led₀)
    (turn : ∀ (i j : Nat) (t1 t2 : Tok) (u : Str → Option Value) nx h tk, J i j nx → Fr h₀ L h (fun z => if z = x then some (.int (i : Int) t1) else if z = y then some (.int (j : Int) t2) else if stored.contains z then u z else m₀ z) → News h₀ L h nx →
      wpAny (model prog w) A (isTrue test env (eval test env)) (fun b s₂ =>
        if b = true then wpAny (model prog w) A (execs body env) (W2Post h₀ L s x y stored m₀ J Q i j) E s₂ else Q .next s₂) E { s with heap := h, toks := tk })
    (hE : PassesOwn (model prog w) A env E := by passes_own) :
    wpAny (model prog w) A (exec (.While test body [] pos) env) Q E s := by
  refine While_inv2 (W2J x y stored m₀ J) F N ⟨i₀, j₀, _, _, rfl, hx, hy, fun _ _ _ _ => rfl, hJ⟩ ?_ hE
  rintro n m₁ nx h tk F₁ N₁ ⟨i, j, t1, t2, rfl, h1, h2, hs, hJ'⟩
  refine wpAny_mono (turn i j t1 t2 m₁ nx h tk hJ' (same2_fr h1 h2 hs F₁) N₁) (fun b s₂ p => ?_) fun _ _ x => x
  cases b with
  | false => simpa using p
  | true =>
    simp only [if_true] at p ⊢
    refine wpAny_mono p (fun f s₃ q => ?_) fun _ _ x => x
    cases f with
    | ret v => exact q
    | brk => exact q
    | next => exact w2conv (Q := Q) q
    | cont => exact w2conv (Q := Q) q
end
section
variable {prog : Program} {w : World} {A : Around} {E : Value → Shared → Prop} {s : Shared} {value slice : Expr} {l : Addr} {vs : List Value} {k : Int} {u : Tok} {v : Value} {Q : Value → Shared → Prop} {h₀ : Heap} {L : Addr} {led news : List (Addr × Obj)} {n : Nat}
theorem getLastN (N : News h₀ L s.heap led) (hm : (l, listOf (List.toArray vs) n) ∈ led) (hx : vs.getLast? = some v) (h : Q v s)
    (hs : subscripted slice false (.ref l) (.int (-1) u) = operate [.ref l, .int (-1) u] (getItem (.ref l) (.int (-1) u)) := by with_unfolding_all rfl) :
    wpAny (model prog w) A (subscriptTail value slice (.ref l) (.int (-1) u)) Q E s := by
  have hl : s.heap.IsList l (List.toArray vs) := ⟨_, (N _ hm).1, rfl, n, rfl⟩
  have hne : 0 < vs.length := by
    cases vs with
    | nil => cases hx
    | cons _ _ => simp
  refine tail_any hl.typeIs slot_list_getitem.lookup (wpAny_getItem_list_neg hl (by decide) ?_ (by decide) ?_ h) hs
  · simp only [List.size_toArray]; omega
  · have e : (-1 + ((List.toArray vs).size : Int)).toNat = vs.length - 1 := by simp only [List.size_toArray]; omega
    rw [e, List.getElem?_toArray, ← List.getLast?_eq_getElem?]; exact hx
theorem mapref_get {as : List Addr} {j : Int} (h : j.toNat < as.length) : (as.map Value.ref)[j.toNat]? = some (.ref (as.getD j.toNat 0)) := by simp [h]
noncomputable def dI (a b : List Nat) (i j : Int) : Int := dt a b i.toNat j.toNat
theorem subRow {a b : List Nat} {as : List Addr} {nc : Nat} {e f : Int} (N : News h₀ L s.heap led) (hrow : ∀ k, k < as.length → RowIn news (.ref (as.getD k 0)) (rowTo a b k nc)) (hsub : ∀ p ∈ news, p ∈ led) (he : e.toNat < as.length) (hf0 : 0 ≤ f) (hf : f < (nc : Int)) (hn : nc ≤ 1000)
    (h : ∀ t, Q (.int (dI a b e f) t) s)
    (hs : subscripted slice false (.ref (as.getD e.toNat 0)) (.int f u) = operate [.ref (as.getD e.toNat 0), .int f u] (getItem (.ref (as.getD e.toNat 0)) (.int f u)) := by with_unfolding_all rfl) :
    wpAny (model prog w) A (subscriptTail value slice (.ref (as.getD e.toNat 0)) (.int f u)) Q E s := by
  obtain ⟨r, vs, n, e1, hm, hi⟩ := hrow e.toNat he
  have e2 : as.getD e.toNat 0 = r := by injection e1
  rw [e2] at hs ⊢
  refine ksa_sub N (hsub _ hm) hi hf0 (by rw [rowTo_len]; exact hf) (by omega) (fun t => ?_) hs
  rw [rowTo_get (by omega)]
  exact h t
end
theorem put2_ok (w : World) (news : List (Addr × Obj)) (x y : Str) (i j : Int) (t1 t2 t3 t4 : Tok) (h1 : 0 ≤ i) (h2 : i ≤ 255) (h3 : 1 ≤ j) (h4 : j ≤ 255) (h5 : x.length ≤ 100) (h6 : y.length ≤ 55) :
    Claim w 184 10 news [.str x t1, .int i t2, .str y t3, .int j t4] (fun t => .str (Txt.slice x none (some i) ++ y ++ Txt.slice x (some (j - 1)) (some (j - 1 + 255))) t) := by
  have e1 := Txt.slice_le x none (some i)
  have e2 := Txt.slice_le x (some (j - 1)) (some (j - 1 + 255))
  exact put_ok w news x y i j t1 t2 t3 t4 h1 h2 h3 h4 (by omega) (by omega) (by rw [Str.length_append]; omega)
theorem strs_push {vs : List Value} {ts : List Str} {x : Str} {t : Tok} (h : StrsAre vs ts) : StrsAre (vs ++ [.str x t]) (ts ++ [x]) := by
  induction h with
  | nil => exact .cons _ _ .nil
  | cons y t _ ih => exact .cons y t ih
theorem strs_last {vs : List Value} {ts : List Str} (h : StrsAre vs ts) {x : Str} (hx : ts.getLast? = some x) : ∃ t, vs.getLast? = some (.str x t) := by
  induction h with
  | nil => cases hx
  | cons y t h ih =>
    cases h with
    | nil => cases hx; exact ⟨t, rfl⟩
    | cons y' t' h' => rw [List.getLast?_cons_cons] at hx ⊢; exact ih hx
theorem strs_len {vs : List Value} {ts : List Str} (h : StrsAre vs ts) : vs.length = ts.length := by
  induction h with
  | nil => rfl
  | cons y t _ ih => simp [ih]
def TestEnd (h₀ : Heap) (L : Addr) (m : Str → Option Value) (led : List (Addr × Obj)) (s : Shared) (P : Prop) (b : Bool) (s' : Shared) : Prop := (b = true ↔ P) ∧ ∃ h tk, s' = { s with heap := h, toks := tk } ∧ Fr h₀ L h m ∧ News h₀ L h led
section
variable {prog : Program} {w : World} {A : Around} {E : Value → Shared → Prop} {s : Shared} {h₀ : Heap} {L : Addr} {m : Str → Option Value} {led : List (Addr × Obj)} {P : Prop} {test : Expr} {env : Env}
theorem testT {h : Heap} {tk : Nat} (F : Fr h₀ L h m) (N : News h₀ L h led) (p : P) : TestEnd h₀ L m led s P true { s with heap := h, toks := tk } := ⟨⟨fun _ => p, fun _ => rfl⟩, _, _, rfl, F, N⟩
theorem testF {h : Heap} {tk : Nat} (F : Fr h₀ L h m) (N : News h₀ L h led) (p : ¬P) : TestEnd h₀ L m led s P false { s with heap := h, toks := tk } := ⟨⟨fun q => (Bool.false_ne_true q).elim, fun q => absurd q p⟩, _, _, rfl, F, N⟩
theorem test_cut {R : Bool → Shared → Prop} (P : Prop) (_F : Fr h₀ L s.heap m) (_N : News h₀ L s.heap led) (ht : wpAny (model prog w) A (isTrue test env (eval test env)) (TestEnd h₀ L m led s P) E s)
    (thn : P → ∀ h tk, Fr h₀ L h m → News h₀ L h led → R true { s with heap := h, toks := tk }) (els : ¬P → ∀ h tk, Fr h₀ L h m → News h₀ L h led → R false { s with heap := h, toks := tk }) :
    wpAny (model prog w) A (isTrue test env (eval test env)) R E s :=
  wpAny_mono ht (fun b s₂ ⟨hb, h, tk, e, F, N⟩ => by
    subst e
    cases b with
    | true => exact thn (hb.mp rfl) h tk F N
    | false => exact els (fun q => Bool.false_ne_true (hb.mpr q)) h tk F N) fun _ _ x => x
theorem if_cut {body orelse : List Stmt} {pos : Pos} {Q : Flow → Shared → Prop} (P : Prop) (_F : Fr h₀ L s.heap m) (_N : News h₀ L s.heap led) (ht : wpAny (model prog w) A (isTrue test env (eval test env)) (TestEnd h₀ L m led s P) E s)
    (thn : P → ∀ h tk, Fr h₀ L h m → News h₀ L h led → wpAny (model prog w) A (execs body env) Q E { s with heap := h, toks := tk })
    (els : ¬P → ∀ h tk, Fr h₀ L h m → News h₀ L h led → wpAny (model prog w) A (execs orelse env) Q E { s with heap := h, toks := tk }) : wpAny (model prog w) A (exec (.If test body orelse pos) env) Q E s :=
  wpAny_If (test_cut P _F _N ht thn els)
end
def Step (x y : Str) (i j : Nat) (ts : List Str) (i' j' : Nat) (ts' : List Str) : Prop :=
  (i = i' + 1 ∧ j = j' + 1 ∧ x.cps.toList.getD i' 0 = y.cps.toList.getD j' 0 ∧ dt x.cps.toList y.cps.toList i j = dt x.cps.toList y.cps.toList i' j' ∧ ts' = ts) ∨
  (dt x.cps.toList y.cps.toList i j = dt x.cps.toList y.cps.toList i' j' + 1 ∧ ∃ text new, ts.getLast? = some text ∧ ts' = ts ++ [new] ∧
    ((i = i' + 1 ∧ j = j' ∧ new.cps.toList = text.cps.toList.take i' ++ text.cps.toList.drop (i' + 1)) ∨
     (i = i' ∧ j = j' + 1 ∧ new.cps.toList = text.cps.toList.take i ++ y.cps.toList.getD j' 0 :: text.cps.toList.drop i) ∨
     (i = i' + 1 ∧ j = j' + 1 ∧ ¬ x.cps.toList.getD i' 0 = y.cps.toList.getD j' 0 ∧ new.cps.toList = text.cps.toList.take i' ++ y.cps.toList.getD j' 0 :: text.cps.toList.drop (i' + 1))))
def Want0 (_x _y : Str) (i j : Nat) : Prop := 0 < (i : Int) ∨ 0 < (j : Int)
def Want1 (x y : Str) (i j : Nat) : Prop := 0 < (i : Int) ∧ 0 < (j : Int) ∧ (Txt.slice x (some ((i : Int) - 1)) (some ((i : Int) - 1 + 1)) == Txt.slice y (some ((j : Int) - 1)) (some ((j : Int) - 1 + 1))) = true ∧ dI x.cps.toList y.cps.toList i j = dI x.cps.toList y.cps.toList (i - 1) (j - 1)
def Want2 (x y : Str) (i j : Nat) : Prop := 0 < (i : Int) ∧ dI x.cps.toList y.cps.toList i j = dI x.cps.toList y.cps.toList (i - 1) j + 1
def Want3 (x y : Str) (i j : Nat) : Prop := 0 < (j : Int) ∧ dI x.cps.toList y.cps.toList i j = dI x.cps.toList y.cps.toList i (j - 1) + 1
def WantL (x y : Str) (i j : Nat) : Prop := 0 < (i : Int) ∧ 0 < (j : Int) ∧ dI x.cps.toList y.cps.toList i j = dI x.cps.toList y.cps.toList (i - 1) (j - 1) + 1 ∧ ¬ x.cps.toList.getD (i - 1) 0 = y.cps.toList.getD (j - 1) 0
theorem pn (i : Nat) : ((i : Int) - 1).toNat = i - 1 := by omega
theorem sn (i : Nat) : ((i : Int) + 1 - 1).toNat = i := by omega
theorem pp {i : Nat} (h : 0 < (i : Int)) : i = i - 1 + 1 := by omega
theorem dI_00 (a b : List Nat) (i j : Nat) : dI a b i j = dt a b i j := rfl
theorem dI_10 (a b : List Nat) (i j : Nat) : dI a b ((i : Int) - 1) j = dt a b (i - 1) j := by unfold dI; rw [pn]; rfl
theorem dI_01 (a b : List Nat) (i j : Nat) : dI a b i ((j : Int) - 1) = dt a b i (j - 1) := by unfold dI; rw [pn]; rfl
theorem dI_11 (a b : List Nat) (i j : Nat) : dI a b ((i : Int) - 1) ((j : Int) - 1) = dt a b (i - 1) (j - 1) := by unfold dI; rw [pn, pn]
theorem w2Push {h₀ : Heap} {L : Addr} {s : Shared} {stored : List Str} {m₀ : Str → Option Value} {Q : Flow → Shared → Prop} {i j : Nat} {h' : Heap} {tk' : Nat} {m' : Str → Option Value} {news news' : List (Addr × Obj)} {a b : Int} {t1 t2 tn : Tok} {Fd : Addr} {TJ : Nat → Nat → List Str → Prop} {ts : List Str} {fvs : List Value} {n : Nat} {X : Str}
    (i' j' : Nat) (F : Fr h₀ L h' m') (N : News h₀ L h' news') (hT : TJ i' j' (ts ++ [X])) (hst : StrsAre fvs ts) (hm : (Fd, listOf ((List.toArray fvs).push (.str X tn)) (n + 1)) ∈ news') (hsub : ∀ p ∈ news, p ∈ news')
    (hx : m' (Str.ofString "at") = some (.int a t1)) (hy : m' (Str.ofString "spot") = some (.int b t2)) (ha : a = (i' : Int)) (hb : b = (j' : Int)) (hs : Same2 (Str.ofString "at") (Str.ofString "spot") stored m₀ m') (hlt : i' + j' < i + j) :
    W2Post h₀ L s (Str.ofString "at") (Str.ofString "spot") stored m₀ (fun i j nx => ∃ ts fvs n, nx = (Fd, listOf (List.toArray fvs) n) :: news ∧ StrsAre fvs ts ∧ TJ i j ts) Q i j .next { s with heap := h', toks := tk' } :=
  w2End i' j' ((Fd, listOf ((List.toArray fvs).push (.str X tn)) (n + 1)) :: news) F N hx hy ha hb hs (List.forall_mem_cons.mpr ⟨hm, hsub⟩) ⟨_, _, _, by rw [List.push_toArray], strs_push hst, hT⟩ hlt
theorem cat_cl (x y : Str) : (x ++ y).cps.toList = x.cps.toList ++ y.cps.toList := by
  show (x.cps ++ y.cps).toList = _
  simp
theorem empty_cl : (Str.ofString "").cps.toList = [] := by decide +kernel
section
variable {x y text : Str} {i j : Nat} {ts : List Str}
theorem stepKeep (hi0 : 0 < (i : Int)) (hj0 : 0 < (j : Int)) (hi : i ≤ x.length) (hj : j ≤ y.length) (hs : (Txt.slice x (some ((i : Int) - 1)) (some ((i : Int) - 1 + 1)) == Txt.slice y (some ((j : Int) - 1)) (some ((j : Int) - 1 + 1))) = true)
    (hd : dI x.cps.toList y.cps.toList i j = dI x.cps.toList y.cps.toList (i - 1) (j - 1)) : Step x y i j ts (i - 1) (j - 1) ts := by
  rw [same_cl hi0 (Int.ofNat_le.mpr hi) hj0 (Int.ofNat_le.mpr hj), pn, pn, decide_eq_true_eq] at hs
  rw [dI_00, dI_11] at hd
  exact .inl ⟨pp hi0, pp hj0, hs, hd, rfl⟩
theorem cut_cl (hn : i ≤ text.length) (hm : text.length ≤ 40) : (Txt.slice text (some ((i : Int) + 1 - 1)) (some ((i : Int) + 1 - 1 + 255))).cps.toList = text.cps.toList.drop i := by
  rw [from_cl (by omega) (by omega) (by omega), sn]
theorem pre_cl (hi0 : 0 < (i : Int)) (hn : i ≤ text.length) : (Txt.slice text none (some ((i : Int) - 1))).cps.toList = text.cps.toList.take (i - 1) := by
  rw [to_cl (i := (i : Int) - 1) (Int.sub_nonneg.mpr hi0) (Int.le_trans (Int.sub_le_self _ (by decide)) (Int.ofNat_le.mpr hn)), pn]
theorem stepDel (hi0 : 0 < (i : Int)) (hl : ts.getLast? = some text) (hn : i ≤ text.length) (hm : text.length ≤ 40)
    (hd : dI x.cps.toList y.cps.toList i j = dI x.cps.toList y.cps.toList (i - 1) j + 1) :
    Step x y i j ts (i - 1) j (ts ++ [Txt.slice text none (some ((i : Int) - 1)) ++ Str.ofString "" ++ Txt.slice text (some ((i : Int) + 1 - 1)) (some ((i : Int) + 1 - 1 + 255))]) := by
  rw [dI_00, dI_10] at hd
  refine .inr ⟨hd, text, _, hl, rfl, .inl ⟨pp hi0, rfl, ?_⟩⟩
  rw [cat_cl, cat_cl, empty_cl, pre_cl hi0 hn, cut_cl hn hm, List.append_nil, ← pp hi0]
theorem stepIns (hj0 : 0 < (j : Int)) (hl : ts.getLast? = some text) (hn : i ≤ text.length) (hm : text.length ≤ 40) (hj1 : j ≤ y.length)
    (hd : dI x.cps.toList y.cps.toList i j = dI x.cps.toList y.cps.toList i (j - 1) + 1) :
    Step x y i j ts i (j - 1) (ts ++ [Txt.slice text none (some (i : Int)) ++ Txt.slice y (some ((j : Int) - 1)) (some ((j : Int) - 1 + 1)) ++ Txt.slice text (some ((i : Int) + 1 - 1)) (some ((i : Int) + 1 - 1 + 255))]) := by
  rw [dI_00, dI_01] at hd
  refine .inr ⟨hd, text, _, hl, rfl, .inr (.inl ⟨rfl, pp hj0, ?_⟩)⟩
  rw [cat_cl, cat_cl, at_cl hj0 (Int.ofNat_le.mpr hj1), to_cl (Int.natCast_nonneg _) (Int.ofNat_le.mpr hn), cut_cl hn hm, pn, Int.toNat_natCast, List.append_assoc]
  rfl
theorem stepSub (hi0 : 0 < (i : Int)) (hj0 : 0 < (j : Int)) (hl : ts.getLast? = some text) (hn : i ≤ text.length) (hm : text.length ≤ 40) (hj1 : j ≤ y.length)
    (hd : dI x.cps.toList y.cps.toList i j = dI x.cps.toList y.cps.toList (i - 1) (j - 1) + 1)
    (hne : ¬ x.cps.toList.getD (i - 1) 0 = y.cps.toList.getD (j - 1) 0) :
    Step x y i j ts (i - 1) (j - 1) (ts ++ [Txt.slice text none (some ((i : Int) - 1)) ++ Txt.slice y (some ((j : Int) - 1)) (some ((j : Int) - 1 + 1)) ++ Txt.slice text (some ((i : Int) + 1 - 1)) (some ((i : Int) + 1 - 1 + 255))]) := by
  rw [dI_00, dI_11] at hd
  refine .inr ⟨hd, text, _, hl, rfl, .inr (.inr ⟨pp hi0, pp hj0, hne, ?_⟩)⟩
  rw [cat_cl, cat_cl, at_cl hj0 (Int.ofNat_le.mpr hj1), pre_cl hi0 hn, cut_cl hn hm, pn, ← pp hi0, List.append_assoc]
  rfl
end

local macro_rules | `(tactic| walk_at "exec While BoolOp") => `(tactic| refine Hold.out ?_)
local macro_rules | `(tactic| walk_at "exec If") => `(tactic| refine Hold.out ?_)
local macro_rules | `(tactic| k_all) => `(tactic| assumption)
local macro_rules | `(tactic| walk_at "subscriptTail") => `(tactic| (k_here; (with_reducible refine subAt ?_); k_dflt (walk_at "g0"; exact mapref_get (by omega); k_whole)))

local macro_rules | `(tactic| walk_at "subscriptTail") => `(tactic| (k_here; (with_reducible refine subAt ?_); k_dflt (refine' subRow ?N ?m ?z ?a ?b ?c ?d ?_; (case N => k_asm); (case m => assumption); (case z => walk_at "sB"); (case a => omega); (case b => omega); (case c => omega); (case d => omega); k_whole; intro t')))
local macro_rules | `(tactic| walk_at "subscriptTail") => `(tactic| (k_here; (with_reducible refine lastAt ?_); k_dflt (refine' getLastN ?N ?m ?a ?_; (case N => k_asm); (case m => walk_at "mB"); (case a => assumption); k_whole)))
local macro_rules | `(tactic| walk_at "call ref") => `(tactic| (k_here; (with_reducible refine at_ 163 ?_); k_dflt (walk_at "u0"; refine' same_ok _ _ _ _ _ _ _ _ _ _ ?_ ?_ ?_ ?_ ?_ ?_; walk_at "ao"; walk_at "ao"; walk_at "ao"; walk_at "ao"; walk_at "ao"; walk_at "ao"; walk_at "uz")))
local macro_rules | `(tactic| walk_at "call ref") => `(tactic| (k_here; (with_reducible refine at_ 142 ?_); k_dflt (walk_at "u0"; refine' mid3_ok _ _ _ _ _ _ _ _ _ _ ?p0 ?_ ?_ ?_ ?_ ?_; (case p0 => walk_at "mB"); walk_at "ao"; walk_at "ao"; walk_at "ao"; walk_at "ao"; walk_at "ao"; walk_at "uz")))
local macro_rules | `(tactic| walk_at "call ref") => `(tactic| (k_here; (with_reducible refine at_ 184 ?_); k_dflt (walk_at "u0"; refine' put2_ok _ _ _ _ _ _ _ _ _ _ ?_ ?_ ?_ ?_ ?_ ?_; walk_at "ao"; walk_at "ao"; walk_at "ao"; walk_at "ao"; (first | assumption | omega | exact Nat.le_trans (Txt.slice_le _ _ _) (by omega) | decide); (first | assumption | omega | exact Nat.le_trans (Txt.slice_le _ _ _) (by omega) | decide); walk_at "uz")))

theorem texts_ok (w : World) (news : List (Addr × Obj)) (x y : Str) (t1 t2 : Tok) (R : Addr) (as : List Addr) (nn : Nat) (hx : x.length ≤ 20) (hy : y.length ≤ 20) (hR : (R, listOf (List.toArray (as.map Value.ref)) nn) ∈ news)
    (has : as.length = x.length + 1) (hrow : ∀ k, k < as.length → RowIn news (.ref (as.getD k 0)) (rowTo x.cps.toList y.cps.toList k (y.length + 1)))
    (TJ : Nat → Nat → List Str → Prop) (h0 : TJ x.length y.length [x]) (hl : ∀ i j ts, TJ i j ts → i ≤ x.length ∧ j ≤ y.length ∧ ts.length ≤ 100 ∧ ∃ text, ts.getLast? = some text ∧ i ≤ text.length ∧ text.length ≤ 40)
    (hstep : ∀ i j ts i' j' ts', TJ i j ts → Step x y i j ts i' j' ts' → TJ i' j' ts')
    (hlc : ∀ i j, i ≤ x.length → j ≤ y.length → Want0 x y i j → ¬Want1 x y i j → ¬Want2 x y i j → ¬Want3 x y i j → WantL x y i j) :
  ClaimG w 191 14 news [.str x t1, .str y t2, .ref R] (fun r news' => ∃ (Fd : Addr) (ts : List Str) (fvs : List Value) (n : Nat), r = .ref Fd ∧ news' = (Fd, listOf (List.toArray fvs) n) :: news ∧ (∀ p ∈ news, p.1 < Fd) ∧ StrsAre fvs ts ∧ TJ 0 0 ts) := by
  unfold ClaimG
  w_top off
  k_fill
  intro loose mean mg mb dp un gd cn cs a ccd cl outer A₀ base h₀ L m s Q E B F X N T hk hd hu hret
  refine wpAny_call ?_
  k_dflt cell_enter
  k_steps
  rename_i Fd q0 lF D q1 lD q2 q3 q4 q5 F2 N2
  unfold Hold
  have N3 := kst_newsOf (l' := (Fd, listOf (List.toArray [.str x t1]) 0) :: news) N2 (fun p hp => .tail _ hp)
  have hne : ∀ p ∈ news, p.1 ≠ Fd := fun p hp => Nat.ne_of_lt (lF p hp)
  refine while2 (fun i j nx => ∃ ts fvs n, nx = (Fd, listOf (List.toArray fvs) n) :: news ∧ StrsAre fvs ts ∧ TJ i j ts) (Str.ofString "at") (Str.ofString "spot") [Str.ofString "text", Str.ofString "here"] x.length y.length F2 N3 (by rfl) (by rfl) ⟨[x], [.str x t1], 0, rfl, .cons _ _ .nil, h0⟩ ?_
  rintro i j ta tb u nx h tk7 ⟨ts, fvs, n, rfl, hst, hT⟩ F4 N4
  obtain ⟨hi, hj, hn, text, hlast, hlen, hlen2⟩ := hl i j ts hT
  obtain ⟨tt, hfl⟩ := strs_last hst hlast
  have hfn := strs_len hst
  have hi255 : (i : Int) ≤ 255 := by omega
  have hj255 : (j : Int) ≤ 255 := by omega
  have hx255 : x.length ≤ 255 := by omega
  have hy255 : y.length ≤ 255 := by omega
  have hlen100 : text.length ≤ 100 := by omega
  clear N2 N3 F2
  refine test_cut (Want0 x y i j) F4 N4 ?w0 ?wt ?wf
  case w0 =>
    k_fold
    k_steps
    all_goals first
      | exact testT F4 N4 (.inl (by assumption))
      | exact testT F4 N4 (.inr (by assumption))
      | exact testF F4 N4 (fun q => q.elim (by assumption) (by assumption))
  case wf =>
    intro hp h8 tk8 F8 N8
    unfold Want0 at hp
    have e1 : i = 0 := by omega
    have e2 : j = 0 := by omega
    rw [e1, e2] at hT
    clear F4 N4
    show wpAny _ _ _ _ _ _
    (try k_fold)
    k_steps
    exact hret _ _ _ _ ⟨Fd, ts, fvs, n, rfl, rfl, lF, hst, hT⟩ (by assumption) (by assumption)
  case wt =>
  intro hp h8 tk8 F8 N8
  clear F4 N4
  show wpAny _ _ _ _ _ _
  k_fold
  k_steps
  unfold Hold
  refine if_cut (Want1 x y i j) (by assumption) (by assumption) ?a0 ?a1 ?af
  case a0 =>
    k_steps
    all_goals first
      | exact testT (by assumption) (by assumption) ⟨by assumption, by assumption, by assumption, by assumption⟩
      | exact testF (by assumption) (by assumption) (fun q => absurd q.1 (by assumption))
      | exact testF (by assumption) (by assumption) (fun q => absurd q.2.1 (by assumption))
      | exact testF (by assumption) (by assumption) (fun q => Bool.false_ne_true ((by assumption : _ = false).symm.trans q.2.2.1))
      | exact testF (by assumption) (by assumption) (fun q => absurd q.2.2.2 (by assumption))
  case a1 =>
    rintro ⟨hi0, hj0, hs, hd⟩ h9 tk9 F9 N9
    k_steps
    refine w2End (i - 1) (j - 1) ((Fd, listOf (List.toArray fvs) n) :: news) (by assumption) (by assumption) (by rfl) (by rfl) (by omega) (by omega) ?_ (List.forall_mem_cons.mpr ⟨(by first | exact .tail _ (.head _) | exact .tail _ (.tail _ (.head _)) | exact .tail _ (.tail _ (.tail _ (.head _))) | exact .tail _ (.tail _ (.tail _ (.tail _ (.head _))))), fun p hp => by simp only [List.mem_cons, hp, or_true]⟩) ⟨ts, fvs, n, rfl, hst, hstep _ _ _ _ _ _ hT (stepKeep hi0 hj0 hi hj hs hd)⟩ (by omega)
    intro z h1 h2 h3
    have h4 := ne_stored h3 (k := Str.ofString "text") (by decide)
    have h5 := ne_stored h3 (k := Str.ofString "here") (by decide)
    simp only [h1, h2, h3, h4, h5, if_false, Bool.false_eq_true]
  case af =>
  intro hp1 h9 tk9 F9 N9
  k_steps
  unfold Hold
  refine if_cut (Want2 x y i j) (by assumption) (by assumption) ?b0 ?bt ?bf
  case b0 =>
    k_steps
    all_goals first
      | exact testT (by assumption) (by assumption) ⟨by assumption, by assumption⟩
      | exact testF (by assumption) (by assumption) (fun q => absurd q.1 (by assumption))
      | exact testF (by assumption) (by assumption) (fun q => absurd q.2 (by assumption))
  case bt =>
    rintro ⟨hi0, hd⟩ h10 tk10 F10 N10
    k_steps
    refine w2Push (i - 1) j (by assumption) (by assumption) (hstep _ _ _ _ _ _ hT (stepDel hi0 hlast hlen hlen2 hd)) hst (by first | exact .tail _ (.head _) | exact .tail _ (.tail _ (.head _)) | exact .tail _ (.tail _ (.tail _ (.head _))) | exact .tail _ (.tail _ (.tail _ (.tail _ (.head _))))) (fun p hp => by simp only [List.mem_cons, hp, or_true]) (by rfl) (by rfl) (by omega) (by omega) ?_ (by omega)
    intro z h1 h2 h3
    have h4 := ne_stored h3 (k := Str.ofString "text") (by decide)
    have h5 := ne_stored h3 (k := Str.ofString "here") (by decide)
    simp only [h1, h2, h3, h4, h5, if_false, Bool.false_eq_true]
  case bf =>
  intro hp2 h10 tk10 F10 N10
  k_steps
  unfold Hold
  refine if_cut (Want3 x y i j) (by assumption) (by assumption) ?c0 ?ct ?cf
  case c0 =>
    k_steps
    all_goals first
      | exact testT (by assumption) (by assumption) ⟨by assumption, by assumption⟩
      | exact testF (by assumption) (by assumption) (fun q => absurd q.1 (by assumption))
      | exact testF (by assumption) (by assumption) (fun q => absurd q.2 (by assumption))
  case ct =>
    rintro ⟨hj0, hd⟩ h11 tk11 F11 N11
    k_steps
    refine w2Push i (j - 1) (by assumption) (by assumption) (hstep _ _ _ _ _ _ hT (stepIns hj0 hlast hlen hlen2 hj hd)) hst (by first | exact .tail _ (.head _) | exact .tail _ (.tail _ (.head _)) | exact .tail _ (.tail _ (.tail _ (.head _))) | exact .tail _ (.tail _ (.tail _ (.tail _ (.head _))))) (fun p hp => by simp only [List.mem_cons, hp, or_true]) (by rfl) (by rfl) (by omega) (by omega) ?_ (by omega)
    intro z h1 h2 h3
    have h4 := ne_stored h3 (k := Str.ofString "text") (by decide)
    have h5 := ne_stored h3 (k := Str.ofString "here") (by decide)
    simp only [h1, h2, h3, h4, h5, if_false, Bool.false_eq_true]
  case cf =>
    intro hp3 h11 tk11 F11 N11
    obtain ⟨hi0, hj0, hd, hxy⟩ := hlc i j hi hj hp hp1 hp2 hp3
    clear hp1 hp2 hp3
    k_steps
    refine w2Push (i - 1) (j - 1) (by assumption) (by assumption) (hstep _ _ _ _ _ _ hT (stepSub hi0 hj0 hlast hlen hlen2 hj hd hxy)) hst (by first | exact .tail _ (.head _) | exact .tail _ (.tail _ (.head _)) | exact .tail _ (.tail _ (.tail _ (.head _))) | exact .tail _ (.tail _ (.tail _ (.tail _ (.head _))))) (fun p hp => by simp only [List.mem_cons, hp, or_true]) (by rfl) (by rfl) (by omega) (by omega) ?_ (by omega)
    intro z h1 h2 h3
    have h4 := ne_stored h3 (k := Str.ofString "text") (by decide)
    have h5 := ne_stored h3 (k := Str.ofString "here") (by decide)
    simp only [h1, h2, h3, h4, h5, if_false, Bool.false_eq_true]
end
section
open PyProof

theorem mn_min (x y : Int) : mn x y = min x y := by
  unfold mn
  by_cases h : y < x
  · rw [if_pos h, Int.min_eq_right (Int.le_of_lt h)]
  · rw [if_neg h, Int.min_eq_left (Int.not_lt.mp h)]
theorem dt_succ (a b : List Nat) (i j : Nat) : dt a b (i + 1) (j + 1) = min (min (dt a b i (j + 1) + 1) (dt a b (i + 1) j + 1)) (dt a b i j + if a.getD i 0 = b.getD j 0 then 0 else 1) := by
  rw [dt_s, mn_min, mn_min]
theorem take_rev {a : List Nat} {i : Nat} (h : i < a.length) : (a.take (i + 1)).reverse = a.getD i 0 :: (a.take i).reverse := by
  rw [List.take_add_one, List.getElem?_eq_getElem h, List.getD_eq_getElem?_getD, List.getElem?_eq_getElem h]
  simp
theorem stepN {p q r v : Nat} (A : q ≤ r + 1 ∧ r ≤ q + 1) (B : p ≤ r + 1 ∧ r ≤ p + 1) (hv : v = r ∨ v = 1 + min p (min q r)) : (v ≤ p + 1 ∧ p ≤ v + 1) ∧ v ≤ q + 1 ∧ q ≤ v + 1 := by
  have h : r ≤ v ∧ v ≤ p + 1 ∧ v ≤ q + 1 := by
    rcases hv with hv | hv
    · rw [hv]; exact ⟨Nat.le_refl _, B.2, A.2⟩
    · rw [hv, Nat.add_comm]
      have h1 := Nat.min_le_left p (min q r)
      have h2 := Nat.le_trans (Nat.min_le_right p (min q r)) (Nat.min_le_left q r)
      have h3 : r - 1 ≤ min p (min q r) := Nat.le_min.mpr ⟨Nat.sub_le_of_le_add B.2, Nat.le_min.mpr ⟨Nat.sub_le_of_le_add A.2, Nat.sub_le _ _⟩⟩
      exact ⟨Nat.le_add_of_sub_le h3, Nat.succ_le_succ h1, Nat.succ_le_succ h2⟩
  exact ⟨⟨h.2.1, Nat.le_trans B.1 (Nat.succ_le_succ h.1)⟩, h.2.2, Nat.le_trans A.1 (Nat.succ_le_succ h.1)⟩
def FA (a b : List Nat) : Prop := (∀ c, far (c :: a) b ≤ far a b + 1 ∧ far a b ≤ far (c :: a) b + 1) ∧ ∀ d, far a (d :: b) ≤ far a b + 1 ∧ far a b ≤ far a (d :: b) + 1
theorem fa_step {a b : List Nat} (h : FA a b) (c d : Nat) : (far (c :: a) (d :: b) ≤ far a (d :: b) + 1 ∧ far a (d :: b) ≤ far (c :: a) (d :: b) + 1) ∧ far (c :: a) (d :: b) ≤ far (c :: a) b + 1 ∧ far (c :: a) b ≤ far (c :: a) (d :: b) + 1 :=
  stepN (h.1 c) (h.2 d) (by
    rw [far_cc]
    split
    · exact .inl rfl
    · exact .inr rfl)
theorem lenA (b : List Nat) (d : Nat) : (d :: b).length ≤ b.length + 1 ∧ b.length ≤ (d :: b).length + 1 := ⟨Nat.le_refl _, Nat.le_add_right b.length 2⟩
theorem fa_nl (b : List Nat) (d : Nat) : far [] (d :: b) ≤ far [] b + 1 ∧ far [] b ≤ far [] (d :: b) + 1 := by rw [far_nl, far_nl]; exact lenA b d
theorem fa_nr (a : List Nat) (c : Nat) : far (c :: a) [] ≤ far a [] + 1 ∧ far a [] ≤ far (c :: a) [] + 1 := by rw [far_nil, far_nil]; exact lenA a c
theorem far_adj (a : List Nat) : ∀ b, FA a b := by
  induction a with
  | nil =>
    intro b
    induction b with
    | nil => exact ⟨fa_nr [], fa_nl []⟩
    | cons d b ih => exact ⟨fun c => (fa_step ih c d).1, fa_nl _⟩
  | cons c a iha =>
    intro b
    induction b with
    | nil => exact ⟨fa_nr _, fun d => (fa_step (iha []) c d).2⟩
    | cons d b ih => exact ⟨fun e => (fa_step ih e d).1, fun e => (fa_step (iha (d :: b)) c e).2⟩
theorem ar_eq {p q r : Nat} (h1 : r ≤ p + 1) (h2 : r ≤ q + 1) : min (min ((p : Int) + 1) ((q : Int) + 1)) ((r : Int) + 0) = (r : Int) := by
  rw [Int.add_zero]; exact Int.min_eq_right (Int.le_min.mpr ⟨Int.ofNat_le.mpr h1, Int.ofNat_le.mpr h2⟩)
theorem cmin (p q : Nat) : ((min p q : Nat) : Int) = min (p : Int) q := by
  rcases Nat.le_total p q with h | h
  · rw [Nat.min_eq_left h, Int.min_eq_left (Int.ofNat_le.mpr h)]
  · rw [Nat.min_eq_right h, Int.min_eq_right (Int.ofNat_le.mpr h)]
theorem ar_ne (p q r : Nat) : min (min ((p : Int) + 1) ((q : Int) + 1)) ((r : Int) + 1) = ((1 + min p (min q r) : Nat) : Int) := by
  rw [Int.natCast_add, cmin, cmin, Int.min_add_right, Int.min_add_right, Int.min_assoc, Int.add_comm]; rfl
theorem dt_far (a b : List Nat) (i : Nat) : ∀ j, i ≤ a.length → j ≤ b.length → dt a b i j = (far (a.take i).reverse (b.take j).reverse : Int) := by
  induction i with
  | zero => intro j _ hj; rw [dt_zl, List.take_zero, List.reverse_nil, far_nl, List.length_reverse, List.length_take, Nat.min_eq_left hj]
  | succ i ihi =>
    intro j hi hj
    induction j with
    | zero => rw [dt_zr, List.take_zero, List.reverse_nil, far_nil, List.length_reverse, List.length_take, Nat.min_eq_left hi]
    | succ j ihj =>
      rw [dt_succ, ihi (j + 1) (Nat.le_of_succ_le hi) hj, ihj (Nat.le_of_succ_le hj), ihi j (Nat.le_of_succ_le hi) (Nat.le_of_succ_le hj), take_rev hi, take_rev hj, far_cc]
      have ad := far_adj (a.take i).reverse (b.take j).reverse
      by_cases e : a.getD i 0 = b.getD j 0
      · rw [if_pos e, if_pos e]; exact ar_eq (ad.2 _).2 (ad.1 _).2
      · rw [if_neg e, if_neg e]; exact ar_ne _ _ _
theorem dt_A {a b : List Nat} {i j : Nat} (hi : i < a.length) (hj : j ≤ b.length) : dt a b (i + 1) j ≤ dt a b i j + 1 ∧ dt a b i j ≤ dt a b (i + 1) j + 1 := by
  rw [dt_far a b (i + 1) j hi hj, dt_far a b i j (Nat.le_of_lt hi) hj, take_rev hi]
  have ad := (far_adj (a.take i).reverse (b.take j).reverse).1 (a.getD i 0)
  exact ⟨Int.ofNat_le.mpr ad.1, Int.ofNat_le.mpr ad.2⟩
theorem dt_B {a b : List Nat} {i j : Nat} (hi : i ≤ a.length) (hj : j < b.length) : dt a b i (j + 1) ≤ dt a b i j + 1 ∧ dt a b i j ≤ dt a b i (j + 1) + 1 := by
  rw [dt_far a b i (j + 1) hi hj, dt_far a b i j hi (Nat.le_of_lt hj), take_rev hj]
  have ad := (far_adj (a.take i).reverse (b.take j).reverse).2 (b.getD j 0)
  exact ⟨Int.ofNat_le.mpr ad.1, Int.ofNat_le.mpr ad.2⟩
inductive Al : List Nat → List Nat → Nat → Prop
  | nil : Al [] [] 0
  | keep {a b : List Nat} {n : Nat} (c : Nat) : Al a b n → Al (c :: a) (c :: b) n
  | sub {a b : List Nat} {n : Nat} (c d : Nat) : Al a b n → Al (c :: a) (d :: b) (n + 1)
  | del {a b : List Nat} {n : Nat} (c : Nat) : Al a b n → Al (c :: a) b (n + 1)
  | ins {a b : List Nat} {n : Nat} (d : Nat) : Al a b n → Al a (d :: b) (n + 1)
theorem al_nl : ∀ b : List Nat, Al [] b b.length
  | [] => .nil
  | d :: b => .ins d (al_nl b)
theorem al_all : ∀ a b : List Nat, Al a b (a.length + b.length)
  | [], b => by rw [List.length_nil, Nat.zero_add]; exact al_nl b
  | c :: a, b => by rw [List.length_cons, Nat.add_right_comm]; exact .del c (al_all a b)
theorem min3_cases (p q r : Nat) : 1 + min p (min q r) = p + 1 ∨ 1 + min p (min q r) = q + 1 ∨ 1 + min p (min q r) = r + 1 := by
  rw [Nat.add_comm]
  by_cases h1 : p ≤ min q r
  · rw [Nat.min_eq_left h1]; exact .inl rfl
  · rw [Nat.min_eq_right (Nat.le_of_not_le h1)]
    by_cases h2 : q ≤ r
    · rw [Nat.min_eq_left h2]; exact .inr (.inl rfl)
    · rw [Nat.min_eq_right (Nat.le_of_not_le h2)]; exact .inr (.inr rfl)
theorem al_far (a : List Nat) : ∀ b, Al a b (far a b) := by
  induction a with
  | nil => intro b; rw [far_nl]; exact al_nl b
  | cons c a iha =>
    intro b
    induction b with
    | nil => rw [far_nil]; exact al_all (c :: a) []
    | cons d b ihb =>
      rw [far_cc]
      by_cases e : c = d
      · rw [if_pos e, ← e]; exact .keep c (iha b)
      · rw [if_neg e]
        rcases min3_cases (far a (d :: b)) (far (c :: a) b) (far a b) with h | h | h <;> rw [h]
        · exact .del c (iha (d :: b))
        · exact .ins d ihb
        · exact .sub c d (iha b)
theorem far_diag (x d : Nat) (a c : List Nat) : far (x :: a) (d :: c) ≤ far a c + 1 := by
  rw [far_cc]
  split
  · exact Nat.le_succ _
  · rw [Nat.add_comm]; exact Nat.succ_le_succ (Nat.le_trans (Nat.min_le_right _ _) (Nat.min_le_right _ _))
theorem tri2 {v p q r n : Nat} (h1 : v ≤ n + (1 + p)) (h2 : v ≤ n + (1 + q)) (h3 : v ≤ n + (1 + r)) : v ≤ n + (1 + min p (min q r)) := by
  rcases min3_cases p q r with h | h | h <;> rw [h, Nat.add_comm _ 1] <;> assumption
theorem tri1 {v p a n : Nat} (h1 : v ≤ a + 1) (h2 : a ≤ n + p) : v ≤ n + (1 + p) := by omega
theorem al_tri {a b : List Nat} {n : Nat} (h : Al a b n) : ∀ c, far a c ≤ n + far b c := by
  induction h with
  | nil => intro c; rw [Nat.zero_add]; exact Nat.le_refl _
  | @del a b n x _ ih => intro c; rw [Nat.add_assoc]; exact tri1 ((far_adj a c).1 x).1 (ih c)
  | @ins a b n d _ ih => intro c; rw [Nat.add_assoc, Nat.add_comm 1]; exact Nat.le_trans (ih c) (Nat.add_le_add_left ((far_adj b c).1 d).2 n)
  | @keep a b n x _ ih =>
    intro c
    induction c with
    | nil => have h1 := ih []; rw [far_nil, far_nil] at h1; rw [far_nil, far_nil]; exact Nat.succ_le_succ h1
    | cons d c ihc =>
      have h1 := (far_adj (x :: a) c).2 d
      have h2 := (far_adj a (d :: c)).1 x
      have h3 := far_diag x d a c
      have h4 := ih c
      have h5 := ih (d :: c)
      rw [far_cc x d b]
      by_cases e : x = d
      · rw [if_pos e, far_cc, if_pos e]; exact h4
      · rw [if_neg e]; exact tri2 (tri1 h2.1 h5) (tri1 h1.1 ihc) (tri1 h3 h4)
  | @sub a b n x y _ ih =>
    intro c
    induction c with
    | nil => have h1 := ih []; rw [far_nil, far_nil] at h1; rw [far_nil, far_nil]; simp only [List.length_cons]; omega
    | cons d c ihc =>
      have h1 := (far_adj (x :: a) c).2 d
      have h2 := (far_adj a (d :: c)).1 x
      have h3 := far_diag x d a c
      have h4 := ih c
      have h5 := ih (d :: c)
      rw [far_cc y d b]
      by_cases e : y = d
      · rw [if_pos e]; omega
      · rw [if_neg e]; exact tri2 (tri1 h2.1 (Nat.le_trans h5 (Nat.add_le_add_right (Nat.le_succ _) _))) (tri1 h1.1 ihc) (tri1 h3 (Nat.le_trans h4 (Nat.add_le_add_right (Nat.le_succ _) _)))
theorem far_self : ∀ b : List Nat, far b b = 0
  | [] => far_nl []
  | c :: b => by rw [far_cc, if_pos rfl]; exact far_self b
theorem far_le {a b : List Nat} {n : Nat} (h : Al a b n) : far a b ≤ n := by
  have := al_tri h b
  rwa [far_self] at this
theorem al_symm {a b : List Nat} {n : Nat} (h : Al a b n) : Al b a n := by
  induction h with
  | nil => exact .nil
  | keep c _ ih => exact .keep c ih
  | sub c d _ ih => exact .sub d c ih
  | del c _ ih => exact .ins c ih
  | ins d _ ih => exact .del d ih
theorem far_symm (a b : List Nat) : far a b = far b a :=
  Nat.le_antisymm (far_le (al_symm (al_far b a))) (far_le (al_symm (al_far a b)))
theorem al_app {a b c d : List Nat} {n m : Nat} (h : Al a b n) (k : Al c d m) : Al (a ++ c) (b ++ d) (n + m) := by
  induction h with
  | nil => rw [Nat.zero_add]; exact k
  | keep c _ ih => exact .keep c ih
  | sub c d _ ih => rw [Nat.add_right_comm]; exact .sub c d ih
  | del c _ ih => rw [Nat.add_right_comm]; exact .del c ih
  | ins d _ ih => rw [Nat.add_right_comm]; exact .ins d ih
theorem al_rev {a b : List Nat} {n : Nat} (h : Al a b n) : Al a.reverse b.reverse n := by
  induction h with
  | nil => exact .nil
  | keep c _ ih => rw [List.reverse_cons, List.reverse_cons]; exact al_app ih (.keep c .nil)
  | sub c d _ ih => rw [List.reverse_cons, List.reverse_cons]; exact al_app ih (.sub c d .nil)
  | del c _ ih => rw [List.reverse_cons]; have := al_app ih (.del c .nil); rwa [List.append_nil] at this
  | ins d _ ih => rw [List.reverse_cons]; have := al_app ih (.ins d .nil); rwa [List.append_nil] at this
theorem far_rev (a b : List Nat) : far a.reverse b.reverse = far a b := by
  refine Nat.le_antisymm (far_le (al_rev (al_far a b))) ?_
  have := far_le (al_rev (al_far a.reverse b.reverse))
  rwa [List.reverse_reverse, List.reverse_reverse] at this
theorem al_refl : ∀ a : List Nat, Al a a 0
  | [] => .nil
  | c :: a => .keep c (al_refl a)
theorem al_zero {a b : List Nat} {n : Nat} (h : Al a b n) : n = 0 → a = b := by
  induction h with
  | nil => intro _; rfl
  | keep c _ ih => intro e; rw [ih e]
  | sub c d _ ih => intro e; cases e
  | del c _ ih => intro e; cases e
  | ins d _ ih => intro e; cases e
theorem far_tri (a b c : List Nat) : far a c ≤ far a b + far b c := al_tri (al_far a b) c
theorem far_one {a b : List Nat} (h : Al a b 1) (hn : a ≠ b) : far a.reverse b.reverse = 1 := by
  rw [far_rev]
  exact Nat.le_antisymm (far_le h) (Nat.pos_of_ne_zero fun e => hn (al_zero (al_far a b) e))
theorem dt_farS (x y : Str) : dt x.cps.toList y.cps.toList x.length y.length = (farS x y : Int) := by
  rw [dt_far _ _ _ _ (Nat.le_of_eq (cl_len x).symm) (Nat.le_of_eq (cl_len y).symm), List.take_of_length_le (Nat.le_of_eq (cl_len x)), List.take_of_length_le (Nat.le_of_eq (cl_len y))]
  rfl
theorem far_bnd (x y : Str) : farS x y ≤ x.length + y.length := by
  have h := far_le (al_all x.cps.toList.reverse y.cps.toList.reverse)
  rwa [List.length_reverse, List.length_reverse, cl_len, cl_len] at h
theorem dt_pos {x y : Str} {i j : Nat} (hi : i ≤ x.length) (hj : j ≤ y.length) : 0 ≤ dt x.cps.toList y.cps.toList i j := by
  rw [dt_far _ _ _ _ (by rw [cl_len]; exact hi) (by rw [cl_len]; exact hj)]; exact Int.natCast_nonneg _
def TJx (x y : Str) (i j : Nat) (ts : List Str) : Prop :=
  i ≤ x.length ∧ j ≤ y.length ∧ dt x.cps.toList y.cps.toList i j + (ts.length : Int) = dt x.cps.toList y.cps.toList x.length y.length + 1 ∧
  (∃ text, ts.getLast? = some text ∧ text.cps.toList = x.cps.toList.take i ++ y.cps.toList.drop j) ∧ (∀ (k : Nat) (a b : Str), ts[k]? = some a → ts[k + 1]? = some b → farS a b = 1) ∧ ∀ t ∈ ts, t.length ≤ x.length + y.length
theorem cat_len (x y : Str) (i j : Nat) : (x.cps.toList.take i ++ y.cps.toList.drop j).length ≤ x.length + y.length := by
  rw [List.length_append, ← cl_len x, ← cl_len y]
  exact Nat.add_le_add (List.length_take_le' _ _) (List.length_drop ▸ Nat.sub_le _ _)
theorem tj_start (x y : Str) : TJx x y x.length y.length [x] := by
  refine ⟨Nat.le_refl _, Nat.le_refl _, rfl, ⟨x, rfl, ?_⟩, ?_, fun t ht => by rw [List.mem_singleton.mp ht]; exact Nat.le_add_right _ _⟩
  · rw [List.take_of_length_le (Nat.le_of_eq (cl_len x)), List.drop_of_length_le (Nat.le_of_eq (cl_len y)), List.append_nil]
  · intro k a b h1 h2
    cases h2
theorem tj_len {x y : Str} (hx : x.length ≤ 20) (hy : y.length ≤ 20) (i j : Nat) (ts : List Str) (h : TJx x y i j ts) : i ≤ x.length ∧ j ≤ y.length ∧ ts.length ≤ 100 ∧ ∃ text, ts.getLast? = some text ∧ i ≤ text.length ∧ text.length ≤ 40 := by
  obtain ⟨h1, h2, h3, ⟨text, h4, h5⟩, _, _⟩ := h
  have b1 := dt_pos h1 h2
  have b2 := far_bnd x y
  rw [dt_farS] at h3
  refine ⟨h1, h2, by omega, text, h4, ?_, ?_⟩ <;> rw [← cl_len, h5]
  · rw [List.length_append, List.length_take, cl_len, Nat.min_eq_left h1]; exact Nat.le_add_right _ _
  · exact Nat.le_trans (cat_len x y i j) (Nat.add_le_add hx hy)
theorem tj_push {x y : Str} {i j i' j' : Nat} {ts : List Str} {text new : Str} (h : TJx x y i j ts) (hl : ts.getLast? = some text) (hi : i' ≤ x.length) (hj : j' ≤ y.length) (hd : dt x.cps.toList y.cps.toList i j = dt x.cps.toList y.cps.toList i' j' + 1)
    (hn : new.cps.toList = x.cps.toList.take i' ++ y.cps.toList.drop j') (hA : Al text.cps.toList new.cps.toList 1) (hne : text.cps.toList ≠ new.cps.toList) : TJx x y i' j' (ts ++ [new]) := by
  obtain ⟨h1, h2, h3, ⟨text', h4, h5⟩, h6, h7⟩ := h
  refine ⟨hi, hj, by rw [List.length_append]; simp only [List.length_cons, List.length_nil]; omega, ⟨new, by simp, hn⟩, ?_, fun t ht => ?_⟩
  rotate_left
  · rcases List.mem_append.mp ht with ht | ht
    · exact h7 t ht
    · rw [List.mem_singleton.mp ht, ← cl_len, hn]; exact cat_len x y _ _
  intro k a b ha hb
  by_cases hk : k + 1 < ts.length
  · rw [List.getElem?_append_left (by omega)] at ha
    rw [List.getElem?_append_left hk] at hb
    exact h6 k a b ha hb
  · have hlen : k + 1 < (ts ++ [new]).length := (List.getElem?_eq_some_iff.mp hb).1
    simp only [List.length_append, List.length_cons, List.length_nil] at hlen
    have ek : k + 1 = ts.length := by omega
    have eb : b = new := by
      rw [ek, List.getElem?_append_right (Nat.le_refl _)] at hb
      simpa using hb.symm
    have ea : a = text := by
      rw [List.getElem?_append_left (by omega)] at ha
      rw [List.getLast?_eq_getElem?, show ts.length - 1 = k by omega, ha] at hl
      exact Option.some.inj hl
    rw [ea, eb]
    exact far_one hA hne
theorem drop_cell {l : List Nat} {j : Nat} (h : j < l.length) : l.drop j = l.getD j 0 :: l.drop (j + 1) := by
  rw [List.drop_eq_getElem_cons h, List.getD_eq_getElem?_getD, List.getElem?_eq_getElem h]; rfl
theorem take_cell {l : List Nat} {j : Nat} (h : j < l.length) : l.take (j + 1) = l.take j ++ [l.getD j 0] := by
  rw [List.take_add_one, List.getElem?_eq_getElem h, List.getD_eq_getElem?_getD, List.getElem?_eq_getElem h]; rfl
theorem tj_step {x y : Str} (i j : Nat) (ts : List Str) (i' j' : Nat) (ts' : List Str) (h : TJx x y i j ts) (hs : Step x y i j ts i' j' ts') : TJx x y i' j' ts' := by
  have h0 := h
  obtain ⟨h1, h2, h3, ⟨text, h4, h5⟩, h6, h7⟩ := h
  have lx := cl_len x
  have ly := cl_len y
  rcases hs with ⟨rfl, rfl, e, hd, rfl⟩ | ⟨hd, text', new, hl, rfl, hs⟩
  · refine ⟨by omega, by omega, by rw [← hd]; exact h3, ⟨text, h4, ?_⟩, h6, h7⟩
    rw [h5, take_cell (by omega), drop_cell (j := j') (by omega), e, List.append_assoc]; rfl
  · have et : text' = text := by rw [hl] at h4; exact Option.some.inj h4
    subst et
    have lt : (x.cps.toList.take i).length = i := by rw [List.length_take]; omega
    have tk : ∀ k, k ≤ i → (x.cps.toList.take i ++ y.cps.toList.drop j).take k = x.cps.toList.take k := fun k hk => by
      rw [List.take_append_of_le_length (by omega), List.take_take, Nat.min_eq_left hk]
    have dk : (x.cps.toList.take i ++ y.cps.toList.drop j).drop i = y.cps.toList.drop j := by
      rw [List.drop_append_of_le_length (by omega), List.drop_of_length_le (by omega), List.nil_append]
    rcases hs with ⟨rfl, rfl, hn⟩ | ⟨rfl, rfl, hn⟩ | ⟨rfl, rfl, hne, hn⟩
    · rw [h5, tk i' (by omega), dk] at hn
      have ht : text'.cps.toList = x.cps.toList.take i' ++ x.cps.toList.getD i' 0 :: y.cps.toList.drop j := by
        rw [h5, take_cell (by omega), List.append_assoc]; rfl
      refine tj_push h0 hl (by omega) h2 hd hn ?_ ?_
      · rw [ht, hn]
        have := al_app (al_refl (x.cps.toList.take i')) (.del (x.cps.toList.getD i' 0) (al_refl (y.cps.toList.drop j)))
        simpa using this
      · intro q
        have := congrArg List.length q
        rw [ht, hn] at this
        simp at this
    · rw [h5, tk i (Nat.le_refl _), dk, ← drop_cell (by omega)] at hn
      refine tj_push h0 hl h1 (by omega) hd hn ?_ ?_
      · rw [h5, hn, drop_cell (j := j') (by omega)]
        have := al_app (al_refl (x.cps.toList.take i)) (.ins (y.cps.toList.getD j' 0) (al_refl (y.cps.toList.drop (j' + 1))))
        simpa using this
      · intro q
        have := congrArg List.length q
        rw [h5, hn, drop_cell (j := j') (by omega)] at this
        simp at this
    · rw [h5, tk i' (by omega), dk, ← drop_cell (by omega)] at hn
      have ht : text'.cps.toList = x.cps.toList.take i' ++ x.cps.toList.getD i' 0 :: y.cps.toList.drop (j' + 1) := by
        rw [h5, take_cell (by omega), List.append_assoc]; rfl
      refine tj_push h0 hl (by omega) (by omega) hd hn ?_ ?_
      · rw [ht, hn, drop_cell (j := j') (by omega)]
        have := al_app (al_refl (x.cps.toList.take i')) (.sub (x.cps.toList.getD i' 0) (y.cps.toList.getD j' 0) (al_refl (y.cps.toList.drop (j' + 1))))
        simpa using this
      · intro q
        rw [ht, hn, drop_cell (j := j') (by omega)] at q
        have := List.append_cancel_left q
        exact hne (List.cons.inj this).1
theorem mn3 {p q r m : Int} (h : m = min (min p q) r) (h1 : m ≠ p) (h2 : m ≠ q) : m = r := by
  by_cases hr : r ≤ min p q
  · rw [h, Int.min_eq_right hr]
  · rw [Int.min_eq_left (Int.le_of_lt (Int.not_le.mp hr))] at h
    by_cases hq : p ≤ q
    · exact absurd (h.trans (Int.min_eq_left hq)) h1
    · exact absurd (h.trans (Int.min_eq_right (Int.le_of_lt (Int.not_le.mp hq)))) h2
theorem last_case {x y : Str} (i j : Nat) (hi : i ≤ x.length) (hj : j ≤ y.length) (h0 : Want0 x y i j) (h1 : ¬Want1 x y i j) (h2 : ¬Want2 x y i j) (h3 : ¬Want3 x y i j) : WantL x y i j := by
  unfold Want0 at h0
  cases i with
  | zero =>
    cases j with
    | zero => exact absurd h0 (by decide)
    | succ j => exact absurd ⟨Int.natCast_pos.mpr (Nat.succ_pos j), by rw [dI_01, dI_00, dt_zl, dt_zl]; rfl⟩ h3
  | succ i =>
    cases j with
    | zero => exact absurd ⟨Int.natCast_pos.mpr (Nat.succ_pos i), by rw [dI_10, dI_00, dt_zr, dt_zr]; rfl⟩ h2
    | succ j =>
      have p1 : 0 < ((i + 1 : Nat) : Int) := Int.natCast_pos.mpr (Nat.succ_pos i)
      have p2 : 0 < ((j + 1 : Nat) : Int) := Int.natCast_pos.mpr (Nat.succ_pos j)
      have hne : ¬ x.cps.toList.getD i 0 = y.cps.toList.getD j 0 := fun e => h1 ⟨p1, p2, by
        rw [same_cl p1 (Int.ofNat_le.mpr hi) p2 (Int.ofNat_le.mpr hj), pn, pn, decide_eq_true_eq]; exact e, by
        rw [dI_11, dI_00, dt_far _ _ _ _ (by rw [cl_len]; exact hi) (by rw [cl_len]; exact hj), dt_far _ _ (i + 1 - 1) _ (by rw [cl_len]; exact Nat.le_of_succ_le hi) (by rw [cl_len]; exact Nat.le_of_succ_le hj), take_rev (by rw [cl_len]; exact hi), take_rev (by rw [cl_len]; exact hj), far_cc, if_pos e]; rfl⟩
      have hd := dt_succ x.cps.toList y.cps.toList i j
      rw [if_neg hne] at hd
      refine ⟨p1, p2, ?_, hne⟩
      rw [dI_00, dI_11]
      refine mn3 hd (fun e => h2 ⟨p1, ?_⟩) (fun e => h3 ⟨p2, ?_⟩)
      · rw [dI_10, dI_00]; exact e
      · rw [dI_01, dI_00]; exact e
theorem tj_end {x y : Str} {ts : List Str} (h : TJx x y 0 0 ts) : ts.getLast? = some y ∧ ts.length = farS x y + 1 ∧ (∀ (k : Nat) (a b : Str), ts[k]? = some a → ts[k + 1]? = some b → farS a b = 1) ∧ ∀ t ∈ ts, t.length ≤ x.length + y.length := by
  obtain ⟨_, _, h3, ⟨text, h4, h5⟩, h6, h7⟩ := h
  rw [dt_farS, dt_zl] at h3
  refine ⟨?_, by omega, h6, h7⟩
  rw [h4]
  congr 1
  exact cl_ext.mpr (by simpa using h5)
end
section
set_option maxRecDepth 100000
set_option maxHeartbeats 8000000
local macro_rules | `(tactic| walk_at "pyIter ref") => `(tactic| (k_here; (with_reducible show wpAny _ _ (pyIter (Value.ref _)) (fun it s₂ => LoopAtV _ _ _ _ _ _ _ _ _ it s₂) _ _); refine Hold.out ?_))

def TabF (R : Addr) (as : List Addr) (nn : Nat) (led : List (Addr × Obj)) (x y : Str) : Prop :=
  (R, listOf (List.toArray (as.map Value.ref)) nn) ∈ led ∧ as.length = x.length + 1 ∧ ∀ k, k < as.length → RowIn led (.ref (as.getD k 0)) (rowTo x.cps.toList y.cps.toList k (y.length + 1))
theorem RowIn.mono {led led' : List (Addr × Obj)} {v : Value} {ns : List Int} (h : RowIn led v ns) (hs : ∀ p ∈ led, p ∈ led') : RowIn led' v ns := by
  obtain ⟨r, vs, n, e, hm, hi⟩ := h
  exact ⟨r, vs, n, e, hs _ hm, hi⟩
theorem TabF.mono {R : Addr} {as : List Addr} {nn : Nat} {led led' : List (Addr × Obj)} {x y : Str} (h : TabF R as nn led x y) (hs : ∀ p ∈ led, p ∈ led') : TabF R as nn led' x y :=
  ⟨hs _ h.1, h.2.1, fun k hk => (h.2.2 k hk).mono hs⟩
def unref (v : Value) : Addr := match v with | .ref r => r | _ => 0
theorem refs_of : ∀ {rvs : List Value}, (∀ k, k < rvs.length → ∃ r, rvs[k]? = some (.ref r)) → (rvs.map unref).map Value.ref = rvs
  | [], _ => rfl
  | v :: r, h => by
    obtain ⟨a, ha⟩ := h 0 (by simp)
    have e : v = .ref a := by simpa using ha
    rw [List.map_cons, List.map_cons, refs_of (rvs := r) fun k hk => by simpa using h (k + 1) (by simpa using hk), e]
    rfl
inductive CellMark (c : Addr × Obj) : Prop
  | mk : CellMark c
inductive TabOne : Prop
  | mk : TabOne
inductive DropMark (rest rest2 : List (Addr × Obj)) : Prop
  | mk (h : ∀ p ∈ rest, p ∈ rest2) : DropMark rest rest2
theorem DropMark.sub {rest rest2 : List (Addr × Obj)} : DropMark rest rest2 → ∀ p ∈ rest, p ∈ rest2
  | .mk h => h
theorem dropHead {h₀ : Heap} {L : Addr} {h : Heap} {a : Addr × Obj} {l : List (Addr × Obj)} (N : News h₀ L h (a :: l)) : News h₀ L h l := fun p hp => N p (.tail _ hp)
theorem dropTo {h₀ : Heap} {L : Addr} {h : Heap} {c : Addr × Obj} {rest rest2 : List (Addr × Obj)} (D : DropMark rest rest2) (N : News h₀ L h (c :: rest2)) : News h₀ L h (c :: rest) := fun p hp => N p (by
  rcases List.mem_cons.mp hp with rfl | hp
  · exact .head _
  · exact .tail _ (D.sub p hp))
theorem tableUse {w : World} {c : Addr × Obj} {rest : List (Addr × Obj)} {x y : Str} {t1 t2 : Tok} {loose : List Str} {mean : ExcName → Option Value} {mg mb : Str → Option Value}
    {dp un : Nat} {gd : Option (List Code)} {cn : Str} {cs : Scope} {a : Addr} {ccd : Value} {cl : List (Str × Addr)} {outer : List Env} {A₀ : Around} {base h₀ : Heap} {L : Addr} {m : Str → Option Value} {s : Shared} {Q E : Value → Shared → Prop}
    (_hM : CellMark c) (hx : x.length ≤ 20) (hy : y.length ≤ 20) (hc : ∀ p ∈ rest, p.1 ≠ c.1)
    (B : Below A₀ base outer h₀) (F : Fr h₀ L s.heap m) (X : (hd.heap_39 w.params).In h₀) (N : News h₀ L s.heap (c :: rest)) (T : Top hd.view_39 loose mean mg mb h₀) (hk : cs.kind = .function)
    (hdp : dp + 12 < recursionLimit) (hun : un + 8 * 12 < cLine)
    (ret : ∀ (R : Addr) (as : List Addr) (nn : Nat) (rest2 : List (Addr × Obj)) (h' : Heap) (tk' : Nat), TabF R as nn rest2 x y → DropMark rest rest2 → (∀ p ∈ rest2, p.1 ≠ c.1) → Fr h₀ L h' m → News h₀ L h' (c :: rest2) → Q (.ref R) { s with heap := h', toks := tk' }) :
    wpAny (model PySem.Challenge.rw_xm0060_01.row.prog w) (ktrTop dp un gd cn cs L a ccd cl outer) (call (.ref 170) [.str x t1, .str y t2]) Q E s := by
  refine useG (table_ok w (c :: rest) x y t1 t2 (by omega) (by omega)) B F X N T hk hdp hun ?_
  rintro r news' h' tk' ⟨R, rfl, rvs, nn, ents, rfl, hlen, hrow, hne, hord, hR0⟩ F' N'
  have e := refs_of (rvs := rvs) fun k hk => by
    obtain ⟨v, hv, r, vs, n, rfl, _⟩ := hrow k (by omega)
    exact ⟨r, hv⟩
  refine ret R (rvs.map unref) nn ((R, listOf (List.toArray rvs) nn) :: (ents ++ rest)) h' tk' ⟨by rw [e]; exact .head _, by rw [List.length_map, hlen], fun k hk => ?_⟩ ⟨fun p hp => .tail _ (List.mem_append_right _ hp)⟩ ?_ F' ?_
  · rw [List.length_map] at hk
    obtain ⟨v, hv, hr⟩ := hrow k (by omega)
    have e2 : v = .ref ((rvs.map unref).getD k 0) := by
      obtain ⟨r, vs, n, rfl, _⟩ := hr
      rw [List.getD_eq_getElem?_getD, List.getElem?_map, hv]; rfl
    rw [← e2]
    exact hr.mono fun p hp => .tail _ (List.mem_append_left _ hp)
  · intro p hp
    rcases List.mem_cons.mp hp with rfl | hp
    · exact (Nat.ne_of_lt (hR0 c (.head _))).symm
    · rcases List.mem_append.mp hp with hp | hp
      · exact (Nat.ne_of_lt (hord c (.head _) p hp)).symm
      · exact hc p hp
  · intro p hp
    refine N' p ?_
    simp only [List.mem_cons, List.mem_append] at hp ⊢
    rcases hp with h | h | h | h <;> simp [h]
section
variable {prog : Program} {w : World} {A : Around} {E : Value → Shared → Prop} {s : Shared} {value slice : Expr} {R : Addr} {as : List Addr} {nn : Nat} {u : Tok} {Q : Value → Shared → Prop} {h₀ : Heap} {L : Addr} {led rest : List (Addr × Obj)} {x y : Str}
theorem last1 (N : News h₀ L s.heap led) (hT : TabF R as nn rest x y) (hsub : ∀ p ∈ rest, p ∈ led) (h : Q (.ref (as.getD x.length 0)) s)
    (hs : subscripted slice false (.ref R) (.int (-1) u) = operate [.ref R, .int (-1) u] (getItem (.ref R) (.int (-1) u)) := by with_unfolding_all rfl) :
    wpAny (model prog w) A (subscriptTail value slice (.ref R) (.int (-1) u)) Q E s := by
  refine getLastN N (hsub _ hT.1) ?_ h hs
  have hl := hT.2.1
  rw [List.getLast?_map, List.getLast?_eq_getElem?, hl, show x.length + 1 - 1 = x.length from rfl, List.getD_eq_getElem?_getD, List.getElem?_eq_getElem (by omega)]
  rfl
theorem last2 (N : News h₀ L s.heap led) (hT : TabF R as nn rest x y) (hsub : ∀ p ∈ rest, p ∈ led) (h : ∀ t, Q (.int (farS x y : Int) t) s)
    (hs : subscripted slice false (.ref (as.getD x.length 0)) (.int (-1) u) = operate [.ref (as.getD x.length 0), .int (-1) u] (getItem (.ref (as.getD x.length 0)) (.int (-1) u)) := by with_unfolding_all rfl) :
    wpAny (model prog w) A (subscriptTail value slice (.ref (as.getD x.length 0)) (.int (-1) u)) Q E s := by
  obtain ⟨r, vs, n, e, hm, hi⟩ := hT.2.2 x.length (by rw [hT.2.1]; omega)
  have e2 : as.getD x.length 0 = r := by injection e
  rw [e2] at hs ⊢
  have hl := hi.length
  rw [rowTo_len] at hl
  obtain ⟨t, ht⟩ := hi.get y.length (farS x y : Int) (by simp [rowTo, dt_farS])
  refine getLastN N (hsub _ hm) ?_ (h t) hs
  rw [List.getLast?_eq_getElem?, hl]
  exact ht
end
theorem farLaw (w : World) (news : List (Addr × Obj)) (x y : Str) (t1 t2 : Tok) (hx : x.length ≤ 7) (hy : y.length ≤ 7) : Claim w 177 30 news [.str x t1, .str y t2] (fun t => .int (farS x y : Int) t) :=
  fun loose mean mg mb dp un gd cn cs a ccd cl outer A₀ base h₀ L m s Q E B F X N T hk hd hu ret =>
    far_ok w news x y t1 t2 (by omega) loose mean mg mb dp un gd cn cs a ccd cl outer A₀ base h₀ L m s Q E B F X N T hk (by omega) (by omega) ret
theorem near {p q : Int} (h : p ≤ q + 1 ∧ q ≤ p + 1) : -1 ≤ p - q ∧ p - q ≤ 1 := by omega
theorem smoothLaw (w : World) (led rest : List (Addr × Obj)) (R : Addr) (as : List Addr) (nn : Nat) (x y : Str) (hT : TabF R as nn rest x y) (hsub : ∀ p ∈ rest, p ∈ led) (hx : x.length ≤ 20) (hy : y.length ≤ 20) : Claim w 198 4 led [.ref R] (fun _ => .bool true) := by
  have hT' := hT.mono hsub
  have ha := hT.2.1
  refine smooth_ok w led R as nn (fun i => rowTo x.cps.toList y.cps.toList i (y.length + 1)) (y.length + 1) hT'.1 hT'.2.2 (fun i => rowTo_len _ _ _ _) (by omega) (by omega) ?_ ?_
  · intro i j h0 hi hj
    obtain ⟨i, rfl⟩ : ∃ k, i = k + 1 := ⟨i - 1, by omega⟩
    have := dt_A (a := x.cps.toList) (b := y.cps.toList) (i := i) (j := j) (by rw [cl_len]; omega) (by rw [cl_len]; omega)
    simp only [rowTo_get hj, Nat.add_sub_cancel]
    exact near this
  · intro i j hi h0 hj
    obtain ⟨j, rfl⟩ : ∃ k, j = k + 1 := ⟨j - 1, by omega⟩
    have := dt_B (a := x.cps.toList) (b := y.cps.toList) (i := i) (j := j) (by rw [cl_len]; omega) (by rw [cl_len]; omega)
    simp only [rowTo_get hj, rowTo_get (show j < y.length + 1 by omega), Nat.add_sub_cancel]
    exact near this
theorem textsUse {w : World} {led rest : List (Addr × Obj)} {x y : Str} {t1 t2 : Tok} {R : Addr} {as : List Addr} {nn : Nat} {loose : List Str} {mean : ExcName → Option Value} {mg mb : Str → Option Value}
    {dp un : Nat} {gd : Option (List Code)} {cn : Str} {cs : Scope} {a : Addr} {ccd : Value} {cl : List (Str × Addr)} {outer : List Env} {A₀ : Around} {base h₀ : Heap} {L : Addr} {m : Str → Option Value} {s : Shared} {Q E : Value → Shared → Prop}
    (hx : x.length ≤ 20) (hy : y.length ≤ 20) (hT : TabF R as nn rest x y) (hsub : ∀ p ∈ rest, p ∈ led)
    (B : Below A₀ base outer h₀) (F : Fr h₀ L s.heap m) (X : (hd.heap_39 w.params).In h₀) (N : News h₀ L s.heap led) (T : Top hd.view_39 loose mean mg mb h₀) (hk : cs.kind = .function)
    (hdp : dp + 14 < recursionLimit) (hun : un + 8 * 14 < cLine)
    (ret : ∀ (Fd : Addr) (ts : List Str) (fvs : List Value) (n : Nat) (h' : Heap) (tk' : Nat) (ty : Tok), (∀ p ∈ led, p.1 < Fd) → StrsAre fvs ts → fvs.length = farS x y + 1 → fvs.getLast? = some (.str y ty) → (∀ (k : Nat) (a b : Str), ts[k]? = some a → ts[k + 1]? = some b → farS a b = 1 ∧ a.length ≤ x.length + y.length ∧ b.length ≤ x.length + y.length) → Fr h₀ L h' m → News h₀ L h' ((Fd, listOf (List.toArray fvs) n) :: led) → Q (.ref Fd) { s with heap := h', toks := tk' }) :
    wpAny (model PySem.Challenge.rw_xm0060_01.row.prog w) (ktrTop dp un gd cn cs L a ccd cl outer) (call (.ref 191) [.str x t1, .str y t2, .ref R]) Q E s := by
  have hT' := hT.mono hsub
  refine useG (texts_ok w led x y t1 t2 R as nn hx hy hT'.1 hT'.2.1 hT'.2.2 (TJx x y) (tj_start x y) (tj_len hx hy) tj_step last_case) B F X N T hk hdp hun ?_
  rintro r news' h' tk' ⟨Fd, ts, fvs, n, rfl, rfl, hlt, hst, hJ⟩ F' N'
  obtain ⟨e1, e2, e3, e4⟩ := tj_end hJ
  obtain ⟨ty, hty⟩ := strs_last hst e1
  exact ret Fd ts fvs n h' tk' ty hlt hst (by rw [strs_len hst, e2]) hty (fun k a b ha hb => ⟨e3 k a b ha hb, e4 a (List.mem_of_getElem? ha), e4 b (List.mem_of_getElem? hb)⟩) F' N'

theorem ledger5 {h₀ : Heap} {L : Addr} {h : Heap} {b t s c2 c1 : Addr × Obj} (N : News h₀ L h [b, t, s, c2, c1]) : News h₀ L h [c2, t] := fun p hp => N p (by
  simp only [List.mem_cons, List.not_mem_nil, or_false] at hp ⊢
  rcases hp with h | h <;> simp [h])
theorem farS_symm (x y : Str) : farS x y = farS y x := far_symm _ _
theorem farS_tri (x z y : Str) : farS x y ≤ farS x z + farS z y := far_tri _ _ _
theorem rev_cps (x : Str) (u : Tok) : (Txt.sliceBy x none none (-1, u)).cps.toList = x.cps.toList.reverse := by
  rw [step_rev_list]
  apply List.ext_getElem
  · simp [Str.length]
  · intro i h1 h2
    simp only [List.length_reverse, Array.length_toList] at h2
    simp only [List.getElem_map, List.getElem_range, List.getElem_reverse, Array.getElem_toList, Array.length_toList, Str.length]
    rw [Array.getD_eq_getD_getElem?, Array.getElem?_eq_getElem (by omega)]
    rfl
theorem rev_far (x y : Str) (u v : Tok) : farS (Txt.sliceBy x none none (-1, u)) (Txt.sliceBy y none none (-1, v)) = farS x y := by
  unfold farS
  rw [rev_cps, rev_cps, far_rev]
def AtGet2 (vs : List Value) (i : Int) (v : Value) : Prop := ∀ j : Int, j = i → vs[j.toNat]? = some v
theorem AtGet2.use {vs : List Value} {i j : Int} {v : Value} (h : AtGet2 vs i v) (e : j = i) : vs[j.toNat]? = some v := h j e
theorem strs_at {vs : List Value} {ts : List Str} (h : StrsAre vs ts) : ∀ k, k < ts.length → ∃ a t, ts[k]? = some a ∧ vs[k]? = some (.str a t) := by
  induction h with
  | nil => intro k hk; exact absurd hk (Nat.not_lt_zero _)
  | cons y t _ ih =>
    intro k hk
    cases k with
    | zero => exact ⟨y, t, rfl, rfl⟩
    | succ k => simpa using ih k (by simpa using hk)
theorem comp_indT {prog : Program} {w : World} {A : Around} {h₀ : Heap} {L : Addr} {m : Str → Option Value} {env : Env} {ct elt : Expr} {x : Str} {scope : Scope} {cl : List (Str × Addr)} {s : Shared} {S : List (Addr × Obj) → Prop} {P : Nat → Value → Prop} {Fin : List Value → List (Addr × Obj) → Prop} {n : Nat}
    (I : Nat → List Value → List (Addr × Obj) → Prop)
    (step : ∀ i ys news v Ia oI C oC D m₂ h tk (E' : Value → Shared → Prop), i < n → I i ys news → P i v → LCg.NsObj oC m₂ → m₂ x = some v → Fr h₀ L h m → News h₀ L h ((Ia, oI) :: (C, oC) :: (D, LCg.lst ys) :: news) → LCg.Off3 Ia C D news → ((@Ne Nat Ia C) ∧ (@Ne Nat Ia D) ∧ (@Ne Nat C D)) →
      wpAny (model prog w) A (isTrue ct (compEnvC scope cl C env) (eval ct (compEnvC scope cl C env))) (fun ok s' => if ok = true then False else
        LCg.CompEnd h₀ L m { s with heap := h, toks := tk } Ia oI C oC D (LCg.lst ys) S (fun _ news' => I (i + 1) ys news') Value.none s') E' { s with heap := h, toks := tk })
    (fin : ∀ ys news, I n ys news → Fin ys news) : ∀ k i ys news, i + k = n → I i ys news → LCt.CompRestT prog w A h₀ L m env ct elt x scope cl s S P Fin k i ys news := by
  intro k
  induction k with
  | zero => intro i ys news hk hI; exact fin ys news (by rw [← hk]; exact hI)
  | succ k ih =>
    intro i ys news hk hI
    refine LCt.CompRestT.succ fun v Ia oI C oC D m₂ h tk E' hP hN hx F N off ne => ?_
    refine wpAny_mono (step i ys news v Ia oI C oC D m₂ h tk E' (by omega) hI hP hN hx F N off ne) (fun ok s₂ p => ?_) fun _ _ e => e
    cases ok with
    | true => simp at p
    | false =>
      simp only [Bool.false_eq_true, if_false] at p ⊢
      obtain ⟨h', tk', news', rfl, F', N', off', hS, r⟩ := p
      exact ⟨h', tk', news', rfl, F', N', off', hS, ih (i + 1) _ _ (by omega) r⟩
theorem cellMark2 {h₀ : Heap} {L : Addr} {h : Heap} {b t s c2 c1 : Addr × Obj} (_N : News h₀ L h [b, t, s, c2, c1]) : CellMark c2 := ⟨⟩
theorem drawUse {w : World} {rest : List (Addr × Obj)} {bag l : Addr} {spot below : Int} {t1 t2 : Tok} {n n2 : Nat} {vs : List Value} {ns : List Int} {loose : List Str} {mean : ExcName → Option Value} {mg mb : Str → Option Value}
    {dp un : Nat} {gd : Option (List Code)} {cn : Str} {cs : Scope} {a : Addr} {ccd : Value} {cl : List (Str × Addr)} {outer : List Env} {A₀ : Around} {base h₀ : Heap} {L : Addr} {m : Str → Option Value} {s : Shared} {Q E : Value → Shared → Prop}
    (hi : IntsAre vs ns) (hlen : ns.length ≤ 12) (hs0 : 0 ≤ spot ∧ spot ≤ 1000 ∧ 0 < below ∧ below ≤ 3) (hm : (l, listOf (List.toArray vs) n2) ∈ rest) (hr : ∀ p ∈ rest, p.1 ≠ bag)
    (B : Below A₀ base outer h₀) (F : Fr h₀ L s.heap m) (X : (hd.heap_39 w.params).In h₀) (N : News h₀ L s.heap ((bag, listOf #[.ref l, .int spot t1] n) :: rest)) (T : Top hd.view_39 loose mean mg mb h₀) (hk : cs.kind = .function)
    (hdp : dp + 4 < recursionLimit) (hun : un + 8 * 4 < cLine)
    (ret : ∀ (v : Int) (t t2 : Tok) (h' : Heap) (tk' : Nat), 0 ≤ v → v < below → Fr h₀ L h' m → News h₀ L h' ((bag, listOf #[.ref l, .int (spot + 1) t2] n) :: rest) → Q (.int v t) { s with heap := h', toks := tk' }) :
    wpAny (model PySem.Challenge.rw_xm0060_01.row.prog w) (ktrTop dp un gd cn cs L a ccd cl outer) (call (.ref 156) [.ref bag, .int below t2]) Q E s := by
  refine useG (draw_ok w rest bag l spot below t1 t2 n n2 vs ns hi hlen hs0.1 hs0.2.1 hs0.2.2.1 hs0.2.2.2 hm hr) B F X N T hk hdp hun ?_
  rintro r news' h' tk' ⟨v, t, t2, h1, h2, rfl, rfl⟩ F' N'
  exact ret v t t2 h' tk' h1 h2 F' N'

theorem comp_ind {prog : Program} {w : World} {A : Around} {h₀ : Heap} {L : Addr} {m : Str → Option Value} {env : Env} {elt : Expr} {x : Str} {scope : Scope} {cl : List (Str × Addr)} {s : Shared} {S : List (Addr × Obj) → Prop} {P : Nat → Value → Prop} {Fin : List Value → List (Addr × Obj) → Prop} {n : Nat}
    (I : Nat → List Value → List (Addr × Obj) → Prop)
    (step : ∀ i ys news v Ia oI C oC D m₂ h tk (E' : Value → Shared → Prop), i < n → I i ys news → P i v → LCg.NsObj oC m₂ → m₂ x = some v → Fr h₀ L h m → News h₀ L h ((Ia, oI) :: (C, oC) :: (D, LCg.lst ys) :: news) → LCg.Off3 Ia C D news → ((@Ne Nat Ia C) ∧ (@Ne Nat Ia D) ∧ (@Ne Nat C D)) →
      wpAny (model prog w) A (eval elt (compEnvC scope cl C env)) (LCg.CompEnd h₀ L m { s with heap := h, toks := tk } Ia oI C oC D (LCg.lst ys) S (fun y news' => I (i + 1) (ys ++ [y]) news')) E' { s with heap := h, toks := tk })
    (fin : ∀ ys news, I n ys news → Fin ys news) : ∀ k i ys news, i + k = n → I i ys news → LCg.CompRest prog w A h₀ L m env elt x scope cl s S P Fin k i ys news := by
  intro k
  induction k with
  | zero => intro i ys news hk hI; exact fin ys news (by rw [← hk]; exact hI)
  | succ k ih =>
    intro i ys news hk hI
    refine LCg.CompRest.succ fun v Ia oI C oC D m₂ h tk E' hP hN hx F N off ne => ?_
    refine wpAny_mono (step i ys news v Ia oI C oC D m₂ h tk E' (by omega) hI hP hN hx F N off ne) (fun y s₂ p => ?_) fun _ _ e => e
    obtain ⟨h', tk', news', rfl, F', N', off', hS, r⟩ := p
    exact ⟨h', tk', news', rfl, F', N', off', hS, ih (i + 1) _ _ (by omega) r⟩
theorem reorder3 {h₀ : Heap} {L : Addr} {h : Heap} {a b c d : Addr × Obj} {r : List (Addr × Obj)} (N : News h₀ L h (a :: b :: c :: d :: r)) : News h₀ L h (d :: a :: b :: c :: r) := fun p hp => N p (by
  simp only [List.mem_cons] at hp ⊢
  rcases hp with h | h | h | h | h <;> simp [h])
theorem rest_ne {h₀ : Heap} {L : Addr} {h : Heap} {bagA txA sl a b : Addr} {o1 o2 o3 o4 o5 : Obj} {own : List (Addr × Obj)} (_N : News h₀ L h ((bagA, o1) :: (txA, o2) :: (sl, o3) :: (a, o4) :: (b, o5) :: own)) (h1 : bagA < txA) (h2 : sl < bagA) (h3 : a < bagA) (h4 : b < bagA) (ho : ∀ p ∈ own, p.1 ≠ bagA) :
    ∀ p ∈ (txA, o2) :: (sl, o3) :: (a, o4) :: (b, o5) :: own, p.1 ≠ bagA :=
  List.forall_mem_cons.mpr ⟨Ne.symm (Nat.ne_of_lt h1), List.forall_mem_cons.mpr ⟨Nat.ne_of_lt h2, List.forall_mem_cons.mpr ⟨Nat.ne_of_lt h3, List.forall_mem_cons.mpr ⟨Nat.ne_of_lt h4, ho⟩⟩⟩⟩
theorem rest_ne3 {h₀ : Heap} {L : Addr} {h : Heap} {bagA Ia C D : Addr} {o o' oI oC oD : Obj} {rest : List (Addr × Obj)} (_N : News h₀ L h ((bagA, o) :: (Ia, oI) :: (C, oC) :: (D, oD) :: rest)) (off : LCg.Off3 Ia C D ((bagA, o') :: rest)) (hr : ∀ p ∈ rest, p.1 ≠ bagA) :
    ∀ p ∈ (Ia, oI) :: (C, oC) :: (D, oD) :: rest, p.1 ≠ bagA :=
  List.forall_mem_cons.mpr ⟨Ne.symm off.1.1, List.forall_mem_cons.mpr ⟨Ne.symm off.1.2.1, List.forall_mem_cons.mpr ⟨Ne.symm off.1.2.2, hr⟩⟩⟩
def SignsJ (bagA sl : Addr) (n2 : Nat) (spot : Int) (rest : List (Addr × Obj)) (i : Nat) (ys : List Value) (news : List (Addr × Obj)) : Prop :=
  ∃ (ts : List Str) (sp : Int) (tk : Tok), news = (bagA, listOf #[.ref sl, .int sp tk] n2) :: rest ∧ StrsAre ys ts ∧ ts.length = i ∧ (∀ t ∈ ts, t.length = 1) ∧ spot ≤ sp ∧ sp ≤ spot + (i : Int)
def Good (t : Str) : Prop := 2 ≤ t.length ∧ t.length ≤ 3
theorem signs_end {h₀ : Heap} {L : Addr} {m : Str → Option Value} {s₁ : Shared} {Ia C D : Addr} {oI oC o : Obj} {ys : List Value} {bagA sl : Addr} {n2 : Nat} {spot sp : Int} {rest : List (Addr × Obj)} {i : Nat} {h' : Heap} {tk' : Nat} {t8 tX : Tok} {X : Str} {ts : List Str}
    (F : Fr h₀ L h' m) (N : News h₀ L h' ((bagA, listOf #[.ref sl, .int (sp + 1) t8] n2) :: (Ia, oI) :: (C, oC) :: (D, LCg.lst ys) :: rest)) (off : LCg.Off3 Ia C D ((bagA, o) :: rest)) (hst : StrsAre ys ts) (hl : ts.length = i) (h1 : ∀ t ∈ ts, t.length = 1) (hX : X.length = 1) (ha : spot ≤ sp) (hb : sp ≤ spot + (i : Int)) :
    LCg.CompEnd h₀ L m s₁ Ia oI C oC D (LCg.lst ys) (fun _ => True) (fun y news' => SignsJ bagA sl n2 spot rest (i + 1) (ys ++ [y]) news') (.str X tX) { s₁ with heap := h', toks := tk' } :=
  LCg.CompEnd.intro F N ((bagA, listOf #[.ref sl, .int (sp + 1) t8] n2) :: rest) (fun p hp => by
    simp only [List.mem_cons] at hp ⊢
    rcases hp with h | h | h | h | h <;> simp [h]) ⟨off.1, off.2⟩ trivial
    ⟨ts ++ [X], sp + 1, t8, rfl, strs_push hst, by rw [List.length_append, hl]; rfl, fun t ht => (List.mem_append.mp ht).elim (h1 t) fun h => by rw [List.mem_singleton.mp h]; exact hX, by omega, by omega⟩
theorem ones_sum : ∀ {ts : List Str}, (∀ t ∈ ts, t.length = 1) → (ts.map (·.length)).sum = ts.length
  | [], _ => rfl
  | t :: r, h => by
    rw [List.map_cons, List.sum_cons, h t (.head _), ones_sum fun q hq => h q (.tail _ hq), List.length_cons]; omega
theorem join_len {ts : List Str} (h : ∀ t ∈ ts, t.length = 1) : (Txt.join (Str.ofString "") ts).length = ts.length := by
  cases ts with
  | nil => rfl
  | cons a l =>
    have e : Txt.join (Str.ofString "") (a :: l) = Str.join (Str.ofString "") (a :: l) := StrLaws.glued_eq_join _ _
    rw [e, len_join_cons, ones_sum h, show (Str.ofString "").length = 0 by decide +kernel]; omega
theorem joinN {prog : Program} {w : World} {A : Around} {E : Value → Shared → Prop} {s : Shared} {D : Addr} {ys : List Value} {ts : List Str} {t : Tok} {Q : Value → Shared → Prop} {h₀ : Heap} {L : Addr} {led : List (Addr × Obj)}
    (N : News h₀ L s.heap led) (hm : (D, LCg.lst ys) ∈ led) (hi : StrsAre ys ts) (h1 : ∀ t ∈ ts, t.length = 1) (hn : ts.length ≤ 1000)
    (h : ∀ t' k, Q (.str (Txt.join (Str.ofString "") ts) t') { s with toks := k }) : wpAny (model prog w) A (call (.builtin "str.join") [.str (Str.ofString "") t, .ref D]) Q E s :=
  join_list (items := ys.toArray) ⟨_, (N _ hm).1, rfl, _, rfl⟩ (by simpa using hi) (by rw [ones_sum h1, show (Str.ofString "").length = 0 by decide +kernel]; omega) h
theorem ledger6 {h₀ : Heap} {L : Addr} {h : Heap} {a b c d e f : Addr × Obj} (N : News h₀ L h [a, b, c, d, e, f]) : News h₀ L h [c, b, d, e, f] := fun p hp => N p (by
  simp only [List.mem_cons, List.not_mem_nil, or_false] at hp ⊢
  rcases hp with h | h | h | h | h <;> simp [h])
def TurnJ (bagA txA sl : Addr) (ws : List Value) (c2 c1 : Addr × Obj) (i : Nat) (nx : List (Addr × Obj)) : Prop :=
  ∃ (tvs : List Value) (tx : List Str) (n1 n2 : Nat) (spot : Int) (tks : Tok), nx = (bagA, listOf #[.ref sl, .int spot tks] n2) :: (txA, listOf (List.toArray tvs) n1) :: (sl, listOf (List.toArray ws) 0) :: [c2, c1] ∧ StrsAre tvs tx ∧ tx.length = i ∧ (∀ t ∈ tx, Good t) ∧ 0 ≤ spot ∧ spot ≤ 4 * (i : Int)
theorem join_good {ts : List Str} (h : ∀ t ∈ ts, t.length = 1) (h2 : 2 ≤ ts.length) (h3 : ts.length ≤ 3) : Good (Txt.join (Str.ofString "") ts) := by
  have := join_len h
  exact ⟨by omega, by omega⟩
theorem turn_end {h₀ : Heap} {L : Addr} {own : List (Addr × Obj)} {s₁ : Shared} {h' : Heap} {tk' : Nat} {m₀ m' : Str → Option Value} {bagA txA sl D2 : Addr} {oD : Obj} {ws tvs : List Value} {tx : List Str} {c2 c1 : Addr × Obj} {n1 n2 i : Nat} {sp spot : Int} {tk0 tks tX : Tok} {X : Str}
    (F : Fr h₀ L h' m') (N : News h₀ L h' ((D2, oD) :: (bagA, listOf #[.ref sl, .int sp tk0] n2) :: (txA, listOf ((List.toArray tvs).push (.str X tX)) (n1 + 1)) :: (sl, listOf (List.toArray ws) 0) :: c2 :: c1 :: own))
    (hoff : TbOff own ((bagA, listOf #[.ref sl, .int spot tks] n2) :: (txA, listOf (List.toArray tvs) n1) :: (sl, listOf (List.toArray ws) 0) :: [c2, c1])) (hst : StrsAre tvs tx) (hlen : tx.length = i) (hgood : ∀ t ∈ tx, Good t) (hX : Good X) (h0 : 0 ≤ sp) (h1 : sp ≤ 4 * ((i + 1 : Nat) : Int)) (hs : Same (Str.ofString "turn") [Str.ofString "size"] m₀ m') :
    TbEnd h₀ L (fun m nx => Same (Str.ofString "turn") [Str.ofString "size"] m₀ m ∧ TurnJ bagA txA sl ws c2 c1 (i + 1) nx) own s₁ { s₁ with heap := h', toks := tk' } := by
  refine tbEnd ((bagA, listOf #[.ref sl, .int sp tk0] n2) :: (txA, listOf ((List.toArray tvs).push (.str X tX)) (n1 + 1)) :: (sl, listOf (List.toArray ws) 0) :: [c2, c1]) F N ?_ ?_ ?_ ⟨hs, tvs ++ [.str X tX], tx ++ [X], n1 + 1, n2, sp, tk0, by rw [List.push_toArray], strs_push hst, by rw [List.length_append, hlen]; rfl, ?_, h0, h1⟩
  · intro p hp
    simp only [List.mem_cons, List.not_mem_nil, or_false] at hp ⊢
    rcases hp with h | h | h | h | h <;> simp [h]
  · intro p hp
    simp only [List.mem_cons, hp, or_true]
  · intro p hp q hq
    simp only [List.mem_cons, List.not_mem_nil, or_false] at hq
    rcases hq with rfl | rfl | rfl | rfl | rfl
    · exact hoff p hp (bagA, listOf #[.ref sl, .int spot tks] n2) (.head _)
    · exact hoff p hp (txA, listOf (List.toArray tvs) n1) (.tail _ (.head _))
    · exact hoff p hp (sl, listOf (List.toArray ws) 0) (.tail _ (.tail _ (.head _)))
    · exact hoff p hp _ (.tail _ (.tail _ (.tail _ (.head _))))
    · exact hoff p hp _ (.tail _ (.tail _ (.tail _ (.tail _ (.head _)))))
  · intro t ht
    rcases List.mem_append.mp ht with h | h
    · exact hgood t h
    · rw [List.mem_singleton.mp h]; exact hX
local macro_rules | `(tactic| walk_at "exec For Name Call cons nil") => `(tactic| (k_here; (rename Fr _ _ _ _ => lF'); (with_unfolding_all refine' For_invVF lF' ?k1 ?k2 ?_; (case k1 => exact rfl); (case k2 => exact rfl); k_whole)))
local macro_rules | `(tactic| k_all) => `(tactic| assumption)
local macro_rules | `(tactic| walk_at "CompSrc") => `(tactic| refine Hold.out ?_)
local macro_rules | `(tactic| walk_at "CompEnd") => `(tactic| refine Hold.out ?_)
local macro_rules | `(tactic| walk_at "call builtin:str.join") => `(tactic| (k_here; k_dflt (refine' joinN ?N ?m ?i ?a ?b ?_; (case N => k_asm); (case m => k_mem); (case i => assumption); (case a => assumption); (case b => omega); k_whole); intro t' k'))
local macro_rules | `(tactic| walk_at "call ref") => `(tactic| (k_here; (with_reducible refine at_ 156 ?_); k_dflt (apply drawUse; walk_at "kk"; (case N => k_asm); (case hi => with_reducible assumption); (case hlen => assumption); (case hs0 => omega); (case hm => k_mem); (case hr => k_all); walk_at "kr"; (intro v9 t9 t8 h9 tk9 l9 u9 F9 N9; (try dsimp only); (try k_fold)))))

local macro_rules | `(tactic| walk_at "tU") => `(tactic| (apply tableUse; (case _hM => assumption); walk_at "kk"; (case N => (first | k_asm | exact dropHead (by k_asm) | exact dropHead (dropHead (by k_asm)) | exact dropHead (dropHead (dropHead (by k_asm))))); (case hx => walk_at "rl"); (case hy => walk_at "rl"); (case hc => first | assumption | k_all); walk_at "kr"; (intro R9 as9 nn9 rest9 h9 tk9 hT9 hD9 hc9 F9 N9; (try dsimp only at hc9))))
local macro_rules | `(tactic| walk_at "rl") => `(tactic| first | omega | (rw [PyProof.Rows.step_rev_len]; omega))
local macro_rules | `(tactic| walk_at "call ref") => `(tactic| (k_here; (with_reducible refine at_ 170 ?_); k_dflt (walk_at "tU"; (rename DropMark _ _ => dM); clear dM; (have o9 := TabOne.mk); (try dsimp only); (try k_fold))))
local macro_rules | `(tactic| walk_at "call ref") => `(tactic| (k_here; (with_reducible refine at_ 170 ?_); k_dflt ((have o9 : TabOne := by assumption); walk_at "tU"; (try dsimp only); (try k_fold))))
local macro_rules | `(tactic| walk_at "call ref") => `(tactic| (k_here; (with_reducible refine at_ 177 ?_); k_dflt (walk_at "u0"; refine' farLaw _ _ _ _ _ _ ?_ ?_; omega; omega; walk_at "uz")))
local macro_rules | `(tactic| walk_at "call ref") => `(tactic| (k_here; (with_reducible refine at_ 198 ?_); k_dflt (walk_at "u0"; refine' smoothLaw _ _ _ _ _ _ _ _ ?p0 ?_ ?_ ?_; (case p0 => assumption); (walk_at "sB"); omega; omega; walk_at "uz")))
local macro_rules | `(tactic| walk_at "call ref") => `(tactic| (k_here; (with_reducible refine at_ 191 ?_); k_dflt (apply textsUse; walk_at "kk"; (case N => k_asm); (case hT => assumption); (case hsub => (walk_at "sB")); (case hx => omega); (case hy => omega); walk_at "kr"; (intro Fd9 ts9 fvs9 n9 h9 tk9 ty9 hlt9 hst9 hfl9 hla9 hco9 F9 N9; (try k_lt hlt9); (try dsimp only); (try k_fold)))))
local macro_rules | `(tactic| walk_at "subscriptTail") => `(tactic| (k_here; (with_reducible refine lastAt ?_); k_dflt (refine' getLastN ?N ?m ?a ?_; (case N => k_asm); (case m => walk_at "mB"); (case a => assumption); k_whole)))
local macro_rules | `(tactic| walk_at "subscriptTail") => `(tactic| (k_here; (with_reducible refine lastAt ?_); k_dflt (refine' last1 ?N ?T ?z ?_; (case N => k_asm); (case T => assumption); (case z => (walk_at "sB")); k_whole)))
local macro_rules | `(tactic| walk_at "subscriptTail") => `(tactic| (k_here; (with_reducible show wpAny _ _ (subscriptTail _ _ (Value.ref (List.getD _ _ _)) (Value.int (-1) _)) _ _ _); k_dflt (refine' last2 ?N ?T ?z ?_; (case N => k_asm); (case T => assumption); (case z => (walk_at "sB")); k_whole; intro t'); (try ((rename DropMark _ _ => dM); (rename News _ _ _ _ => nM); (have nM2 := dropTo dM nM); clear nM dM))))
local macro_rules | `(tactic| walk_at "CompSrcT") => `(tactic| refine Hold.out ?_)
local macro_rules | `(tactic| walk_at "call builtin:len") => `(tactic| (k_here; (with_reducible refine lenAt ?_); k_dflt (walk_at "l0"; omega; k_whole)))
local macro_rules | `(tactic| walk_at "subscriptTail") => `(tactic| (k_here; (with_reducible refine subAt ?_); k_dflt (refine' getN ?N ?m ?a ?b ?c ?_; (case N => k_asm); (case m => k_mem); (case a => omega); (case b => omega); (case c => first | exact AtGet.use (by assumption) (by omega) | exact AtGet2.use (by assumption) (by omega)); k_whole)))
theorem main : PySem.Challenge.rw_xm0060_01.Holds := hd (by
  w_strict (
    k_go0
    all_goals try k_fold
    k_steps
    rename_i sl ws hq1 hI hC hL lsl bagA hq2 lbag txA hq3 ltx tup hq4 ltup hq5 hq6 oc dc hq7 F1 N1 hq8 tkq tq uq vq rg F2 N2 kp
    unfold Hold
    have N3 := ledger6 N2
    refine range_loop (n := 3) (TurnJ bagA txA sl ws _ _) [Str.ofString "size"] (by rfl) rg (by decide) (by rfl) F2 N3 ⟨[], [], 0, 0, 0, _, rfl, .nil, rfl, (fun _ h => nomatch h), by omega, by omega⟩ ?turn ?done
    case turn =>
      rintro i t u nx h3 tk3 own hi hoff ⟨tvs, tx, n1, n2, spot, tks, rfl, hst, hlen, hgood, hs0, hs1⟩ F3 N4
      have hoff' : ∀ p ∈ own, p.1 ≠ bagA := fun p hp => hoff p hp _ (.head _)
      have hlt : ws.length ≤ 12 := by rw [hI.length]; omega
      have hn12 := hlt
      rw [hI.length] at hn12
      simp only [List.cons_append, List.nil_append] at N4
      have hrest := rest_ne N4 ltx.1 lbag.1 lbag.2.1 lbag.2.2 hoff'
      clear N1 N2 N3 F1 F2 kp
      show wpAny _ _ _ _ _ _
      k_fold
      k_steps
      unfold Hold
      rename_i v9 t9 t8 h9 tk9 l9 u9 hh F5 N5 hh2 tkk tr1 tr2 tr3 rg2 F6 N6 kp6
      obtain ⟨n, hn, hn2, hn3⟩ : ∃ n : Nat, (2 + v9) = (n : Int) ∧ 2 ≤ n ∧ n ≤ 3 := ⟨(2 + v9).toNat, by omega, by omega, by omega⟩
      rw [hn] at rg2
      have hz : n ≤ sizeLine := Nat.le_trans hn3 (by decide)
      have hrs : Builtin.Range.rangeSize 0 (n : Int) 1 = (n : Int) := range_size (by omega)
      have hsm : Builtin.Range.small 0 (n : Int) 1 = true := small_one (by omega) (by omega) (by omega) (by omega)
      refine LCg.CompSrc.range (n := n) (by rfl) F6 N6 rg2 hsm hrs hz (fun gg => ?_)
      refine comp_ind (n := n) (SignsJ bagA sl n2 (spot + 1) _) ?step ?fin n 0 [] _ (by omega) ⟨[], spot + 1, _, rfl, .nil, rfl, (fun _ h => nomatch h), by omega, by omega⟩
      case step =>
        rintro i2 ys news v Ia oI C oC D m2 h7 tk7 E' hi2 ⟨ts, sp, tk0, rfl, hst2, hlen2, hone, hsp0, hsp1⟩ ⟨tv, rfl⟩ hC hx F7 N7 off ne
        have N8 := reorder3 N7
        have hall := rest_ne3 N8 off hrest
        clear N4 N5 N6 F3 F5 F6 kp6 N7 ne
        show wpAny _ _ _ _ _ _
        k_fold
        k_steps
        unfold Hold
        exact signs_end (by assumption) (by assumption) off hst2 hlen2 hone (by assumption) hsp0 hsp1
      case fin =>
        rintro ys news ⟨ts, sp, tk0, rfl, hst2, hlen2, hone, hsp0, hsp1⟩
        unfold LCg.FinE
        intro D2 h7 tk7 F7 N7 o7
        simp only [LCg.Off1, and_true] at o7
        have hoffT : ∀ p ∈ own, p.1 ≠ txA := fun p hp => hoff p hp (txA, listOf (List.toArray tvs) n1) (.tail _ (.head _))
        have htl := strs_len hst
        have hjl := join_len hone
        clear N4 N5 N6 F3 F5 F6 kp6
        k_steps
        exact turn_end (by assumption) (by assumption) hoff hst hlen hgood (join_good hone (by omega) (by omega)) (by omega) (by omega) (by
          intro z q1 q2
          have q3 := ne_stored q2 (k := Str.ofString "size") (by decide)
          simp only [q1, q2, q3, if_false, Bool.false_eq_true])
    case done =>
      rintro u nx h5 tk5 ⟨tvs, tx, n1, n2, spot, tks, rfl, hst, hlen, hgood, hs0, hs1⟩ F5 N5
      obtain ⟨x, y, z, rfl⟩ : ∃ x y z, tx = [x, y, z] := by
        match tx, hlen with
        | [x, y, z], _ => exact ⟨x, y, z, rfl⟩
      obtain ⟨gx1, gx2⟩ := hgood x (.head _)
      obtain ⟨gy1, gy2⟩ := hgood y (.tail _ (.head _))
      obtain ⟨gz1, gz2⟩ := hgood z (.tail _ (.tail _ (.head _)))
      cases hst with
      | cons _ tx1 hst =>
      cases hst with
      | cons _ tx2 hst =>
      cases hst with
      | cons _ tx3 hst =>
      cases hst
      have sym := farS_symm x y
      have tri := farS_tri x z y
      have fb := far_bnd x y
      have N6 := ledger5 N5
      have cm := cellMark2 N5
      clear N1 N2 N3 N5 F1 F2 kp
      k_steps
      all_goals try (exfalso; first | omega | (rename_i q; rw [rev_far] at q; omega))
      unfold Hold
      rename_i Fd ts fvs nf hA tkA ty hstF hfl hla hco hlt hB oF FB NB dF tkS neq hlen2 hC tkC tC uC vC rgC FC NC kpC
      have hz : farS x y ≤ sizeLine := Nat.le_trans (show farS x y ≤ 6 by omega) (by decide)
      have hrs : Builtin.Range.rangeSize 0 (farS x y : Int) 1 = (farS x y : Int) := range_size (by omega)
      have hsm : Builtin.Range.small 0 (farS x y : Int) 1 = true := small_one (by omega) (by omega) (by omega) (by omega)
      have hFl := strs_len hstF
      refine LCt.CompSrcT.range (n := farS x y) (by rfl) FC NC rgC hsm hrs hz (fun gg => ?_)
      refine comp_indT (n := farS x y) (fun _ ys news => ys = [] ∧ news = _) ?st ?fn (farS x y) 0 [] _ (by omega) ⟨rfl, rfl⟩
      case st =>
        rintro i2 ys news v Ia oI C oC D m2 h7 tk7 E' hi2 ⟨rfl, rfl⟩ ⟨tv, rfl⟩ hC' hx' F7 N7 off ne
        obtain ⟨sa, ta, ha1, ha2⟩ := strs_at hstF i2 (by omega)
        obtain ⟨sb, tb, hb1, hb2⟩ := strs_at hstF (i2 + 1) (by omega)
        obtain ⟨hf1, hf2, hf3⟩ := hco i2 sa sb ha1 hb1
        have ea : ts.getD (0 + (i2 : Int)).toNat Str.empty = sa := by rw [show (0 + (i2 : Int)).toNat = i2 by omega, List.getD_eq_getElem?_getD, ha1]; rfl
        have eb : ts.getD (0 + (i2 : Int) + 1).toNat Str.empty = sb := by rw [show (0 + (i2 : Int) + 1).toNat = i2 + 1 by omega, List.getD_eq_getElem?_getD, hb1]; rfl
        have hf4 : (ts.getD (0 + (i2 : Int)).toNat Str.empty).length ≤ 6 := by rw [ea]; omega
        have hf5 : (ts.getD (0 + (i2 : Int) + 1).toNat Str.empty).length ≤ 6 := by rw [eb]; omega
        have hf6 : farS (ts.getD (0 + (i2 : Int)).toNat Str.empty) (ts.getD (0 + (i2 : Int) + 1).toNat Str.empty) = 1 := by rw [ea, eb]; exact hf1
        have off0 := off
        simp only [LCg.Off3, and_true] at off
        clear FB NB FC NC kpC
        show wpAny _ _ _ _ _ _
        k_fold
        k_steps
        unfold Hold
        exact LCg.CompEnd.intro (by assumption) (by assumption) _ (fun p hp => hp) off0 trivial ⟨rfl, rfl⟩
      case fn =>
        rintro ys news ⟨rfl, rfl⟩
        unfold LCg.FinE
        intro D2 h7 tk7 F7 N7 o7
        simp only [LCg.Off1, and_true] at o7
        clear FB NB FC NC kpC
        k_steps))
end
end Mine
theorem PySem.Challenge.cw_xm0060_01_holds : PySem.Challenge.rw_xm0060_01.Holds := by
  exact Mine.main
