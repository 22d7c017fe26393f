import PyProof.Rows.All
import Wide.All
import OpenK.AllK
import Wide.FinOn
import Lean
import PySem.Challenge.RW_xm0048_01
open PySem PySem.W PyProof.Rows PySem.Calls PySem.Spec
set_option Elab.async false
set_option maxRecDepth 100000
set_option maxHeartbeats 40000000
namespace Mine
open_top hd for PySem.Challenge.rw_xm0048_01
end Mine
namespace Mine
def hit (t p : Str) (k : Int) : Bool := Txt.slice t (some k) (some (k + (p.length : Int))) == p
def fnd (t p : Str) : Int :=
  if (t.length : Int) < 1 then 0 else
  match (List.range ((t.length : Int) - (p.length : Int) + 1).toNat).find? (fun k : Nat => hit t p (k : Int)) with
  | some k => (k : Int) + 1
  | none => 0
theorem fnd_hit {t p : Str} {k : Nat} (h1 : ¬ (t.length : Int) < 1) (h2 : k < ((t.length : Int) - (p.length : Int) + 1).toNat) (h3 : hit t p (k : Int) = true) (h4 : ∀ j : Nat, j < k → hit t p (j : Int) = false) : fnd t p = (k : Int) + 1 := by
  unfold fnd
  rw [if_neg h1]
  have : (List.range ((t.length : Int) - (p.length : Int) + 1).toNat).find? (fun k : Nat => hit t p (k : Int)) = some k := by
    rw [List.find?_range_eq_some]
    exact ⟨h3, List.mem_range.mpr h2, fun j hj => by simp [h4 j hj]⟩
  rw [this]
theorem fnd_none {t p : Str} (h4 : ∀ j : Nat, j < ((t.length : Int) - (p.length : Int) + 1).toNat → hit t p (j : Int) = false) : fnd t p = 0 := by
  unfold fnd
  split
  · rfl
  · have : (List.range ((t.length : Int) - (p.length : Int) + 1).toNat).find? (fun k : Nat => hit t p (k : Int)) = none := by
      rw [List.find?_eq_none]
      intro j hj
      simp [h4 j (List.mem_range.mp hj)]
    rw [this]
theorem fnd_short {t p : Str} (h : (t.length : Int) < 1) : fnd t p = 0 := by unfold fnd; rw [if_pos h]
def NoHit (t p : Str) (pre : List Int) : Prop := ∀ j : Nat, j < pre.length → hit t p (j : Int) = false
theorem nohit0 {t p : Str} : NoHit t p [] := fun _ h => absurd h (Nat.not_lt_zero _)
theorem nohit1 {t p : Str} {pre : List Int} {k : Int} (h : NoHit t p pre) (hk : k = 0 + (pre.length : Int)) (hx : (Txt.slice t (some k) (some (k + (p.length : Int))) == p) = false) : NoHit t p (pre ++ [k]) := by
  intro j hj
  rw [List.length_append, List.length_singleton] at hj
  by_cases h' : j < pre.length
  · exact h j h'
  · have e : (j : Int) = k := by omega
    rw [e]
    unfold hit
    exact hx
theorem found_end1 {t p : Str} {pre : List Int} {k : Int} (h1 : ¬ (t.length : Int) < 1) (h : NoHit t p pre) (hk : k = 0 + (pre.length : Int)) (hlt : pre.length < ((t.length : Int) - (p.length : Int) + 1 - 0).toNat) (hx : (Txt.slice t (some k) (some (k + (p.length : Int))) == p) = true) : k + 1 = fnd t p := by
  have e : k = ((pre.length : Nat) : Int) := by omega
  rw [e] at hx ⊢
  exact (fnd_hit h1 (by rw [Int.sub_zero] at hlt; exact hlt) hx h).symm
theorem found_end2 {t p : Str} (h : NoHit t p (rangeKs 0 ((t.length : Int) - (p.length : Int) + 1 - 0).toNat)) : 0 = fnd t p := by
  refine (fnd_none fun j hj => h j ?_).symm
  rw [rangeKs_length, Int.sub_zero]; exact hj

theorem c_found {w : World} {mean : ExcName → Option Value} {mg mb : Str → Option Value} {news : List (Addr × Obj)} {text part : Str} {tt tp tb : Tok}
  {dp un : Nat} {gd : Option (List Code)} {cn : Str} {cs : Scope} {a : Addr} {ccd : Value} {cl : List (Str × Addr)} {outer : List Env} {A₀ : Around} {base h₀ : Heap} {L : Addr} {m : Str → Option Value} {s : Shared} {Q E : Value → Shared → Prop}
  (B : Below A₀ base outer h₀) (F : Fr h₀ L s.heap m) (X : (Mine.hd.heap_39 w.params).In h₀) (N : News h₀ L s.heap news) (T : Top Mine.hd.view_39 (looseW Mine.hd.view_39 [Str.ofString "BasicError"]) mean mg mb h₀) (hk : cs.kind = .function)
  (h1 : text.length ≤ 100) (h2 : part.length ≤ 100) (hdp : dp + 1 < recursionLimit) (hun : un + 8 < cLine)
  (hret : CbRet h₀ L m news s Q (fun t => .int (fnd text part) t)) :
  wpAny (model PySem.Challenge.rw_xm0048_01.row.prog w) (ktrTop dp un gd cn cs L a ccd cl outer) (call (.ref 93) [.str text tt, .str part tp, .int 1 tb]) Q E s := by
  w_top off
  (revert X; k_fill; intro X)
  refine wpAny_call ?_
  k_dflt cell_enter
  k_with_none
  k_with "state" => first | exact nohit0 | exact nohit1 (by assumption) (by assumption) (by assumption)
  k_with "pyIter ref" => k_search (fun pre => NoHit text part pre)
  k_steps
  all_goals refine cb_retI (Q := Q) hret ?_ (by assumption) (by first | assumption | exact cb_drop (by assumption) (fun p hp => List.mem_append.mpr (.inl hp)))
  all_goals first
    | exact (fnd_short (by assumption)).symm
    | exact found_end1 (by assumption) (by assumption) (by assumption) (by assumption) (by assumption)
    | exact found_end2 (by assumption)
end Mine
namespace Mine
theorem item_led {prog : Program} {w : World} {A : Around} {E : Value → Shared → Prop} {s : Shared} {h₀ : Heap} {L : Addr} {news : List (Addr × Obj)} {value slice : PySem.Expr} {l : Addr} {vs : List Value} {n : Nat} {k : Int} {u : Tok} {v : Value} {Q : Value → Shared → Prop}
    (N : News h₀ L s.heap news) (hl : (l, listOf vs.toArray n) ∈ news) (h0 : 0 ≤ k) (hhi : k < 2 ^ 63) (hx : vs[k.toNat]? = some v) (h : Q v s)
    (hs : subscripted slice false (.ref l) (.int k u) = operate [.ref l, .int k u] (getItem (.ref l) (.int k u)) := by with_unfolding_all rfl) :
    wpAny (model prog w) A (subscriptTail value slice (.ref l) (.int k u)) Q E s :=
  have hL : s.heap.IsList l vs.toArray := ⟨_, (N _ hl).1, rfl, n, rfl⟩
  tail_any hL.typeIs slot_list_getitem.lookup (wpAny_getItem_list hL h0 hhi (by simpa using hx) h) hs
local macro_rules | `(tactic| walk_at "subscriptTail") => `(tactic| (k_here; (with_reducible show wpAny _ _ (subscriptTail _ _ (Value.ref _) (Value.int _ _)) _ _ _); k_dflt (refine' item_led ?k1 ?k2 ?k3 ?k4 ?k5 ?_ ?k6; (case k1 => k_asm); (case k2 => assumption); (case k3 => decide); (case k4 => decide); (case k5 => rfl); (case k6 => with_unfolding_all rfl); k_whole)))
local macro_rules | `(tactic| walk_at "call ref") => `(tactic| (k_here; (with_reducible show wpAny _ _ (call (Value.ref _) _) _ _ _); k_dflt (refine wpAny_call ?_; (refine' code_def ?k1 ?k2 ?k3 ?k4 ?k5 ?kA ?kF ?kK ?k6 ?k7 ?k8 ?k9 ?kB ?_ ?c2 ?c3 ?c4 ?c5; (case kA => exact rfl); (case kF => exact rfl); (case kK => first | exact rfl | assumption); (case k1 => k_asm); (case k2 => k_asm); (case k3 => k_asm); (case k4 => k_asm); (case k5 => k_asm); (case k6 => k_is); (case k7 => k_is); (case k8 => ktr_room); (case k9 => exact BindsTo.of_eq rfl); (case c5 => decide); (case kB => exact locs rfl); (case c2 => exact rfl); (case c3 => exact rfl); (case c4 => exact rfl); k_whole; intro g' L' h' FG' F' N' B' X' T'; (try dsimp only); (try k_fold)))))
local macro_rules | `(tactic| walk_at "call ref") => `(tactic| (k_here; (with_reducible show wpAny _ _ (call (Value.ref 93) [Value.str _ _, Value.str _ _, Value.int _ _]) _ _ _); k_dflt (refine' c_found ?k1 ?k2 ?k3 ?k4 ?k5 ?kK ?h1 ?h2 ?kd ?ku ?_; (case k1 => k_asm); (case k2 => k_asm); (case k3 => k_asm); (case k4 => k_asm); (case k5 => k_asm); (case kK => first | exact rfl | assumption); (case h1 => assumption); (case h2 => assumption); (case kd => ktr_room); (case ku => ktr_units); intro t9 h9 tk9 F9 N9; (try dsimp only); (try k_fold))))
theorem c_instr {w : World} {mean : ExcName → Option Value} {mg mb : Str → Option Value} {news : List (Addr × Obj)} {text part : Str} {tt tp : Tok} {l : Addr} {nl : Nat}
  {dp un : Nat} {gd : Option (List Code)} {cn : Str} {cs : Scope} {a : Addr} {ccd : Value} {cl : List (Str × Addr)} {outer : List Env} {A₀ : Around} {base h₀ : Heap} {L : Addr} {m : Str → Option Value} {s : Shared} {Q E : Value → Shared → Prop}
  (B : Below A₀ base outer h₀) (F : Fr h₀ L s.heap m) (X : (Mine.hd.heap_39 w.params).In h₀) (N : News h₀ L s.heap news) (T : Top Mine.hd.view_39 (looseW Mine.hd.view_39 [Str.ofString "BasicError"]) mean mg mb h₀) (hk : cs.kind = .function)
  (hl : (l, listOf ([.str text tt, .str part tp] : List Value).toArray nl) ∈ news)
  (h1 : text.length ≤ 100) (h2 : part.length ≤ 100) (hdp : dp + 3 < recursionLimit) (hun : un + 40 < cLine)
  (hret : CbRet h₀ L m news s Q (fun t => .int (fnd text part) t)) :
  wpAny (model PySem.Challenge.rw_xm0048_01.row.prog w) (ktrTop dp un gd cn cs L a ccd cl outer) (call (.ref 100) [.none, .ref l]) Q E s := by
  w_top off
  (revert X; k_fill; intro X)
  refine wpAny_call ?_
  k_dflt cell_enter
  k_with_none
  k_steps
  all_goals refine cb_retI (Q := Q) hret ?_ (by assumption) (by assumption)
  all_goals rfl
end Mine
namespace Mine
local macro_rules | `(tactic| walk_at "subscriptTail") => `(tactic| (k_here; (with_reducible show wpAny _ _ (subscriptTail _ _ (Value.ref _) (Value.int _ _)) _ _ _); k_dflt (refine' item_led ?k1 ?k2 ?k3 ?k4 ?k5 ?_ ?k6; (case k1 => k_asm); (case k2 => assumption); (case k3 => decide); (case k4 => decide); (case k5 => rfl); (case k6 => with_unfolding_all rfl); k_whole)))
local macro_rules | `(tactic| walk_at "call ref") => `(tactic| (k_here; (with_reducible show wpAny _ _ (call (Value.ref _) _) _ _ _); k_dflt (refine wpAny_call ?_; (refine' code_def ?k1 ?k2 ?k3 ?k4 ?k5 ?kA ?kF ?kK ?k6 ?k7 ?k8 ?k9 ?kB ?_ ?c2 ?c3 ?c4 ?c5; (case kA => exact rfl); (case kF => exact rfl); (case kK => first | exact rfl | assumption); (case k1 => k_asm); (case k2 => k_asm); (case k3 => k_asm); (case k4 => k_asm); (case k5 => k_asm); (case k6 => k_is); (case k7 => k_is); (case k8 => ktr_room); (case k9 => exact BindsTo.of_eq rfl); (case c5 => decide); (case kB => exact locs rfl); (case c2 => exact rfl); (case c3 => exact rfl); (case c4 => exact rfl); k_whole; intro g' L' h' FG' F' N' B' X' T'; (try dsimp only); (try k_fold)))))
theorem c_joined {w : World} {mean : ExcName → Option Value} {mg mb : Str → Option Value} {news : List (Addr × Obj)} {one other : Str} {t1 t2 : Tok}
  {dp un : Nat} {gd : Option (List Code)} {cn : Str} {cs : Scope} {a : Addr} {ccd : Value} {cl : List (Str × Addr)} {outer : List Env} {A₀ : Around} {base h₀ : Heap} {L : Addr} {m : Str → Option Value} {s : Shared} {Q E : Value → Shared → Prop}
  (B : Below A₀ base outer h₀) (F : Fr h₀ L s.heap m) (X : (Mine.hd.heap_39 w.params).In h₀) (N : News h₀ L s.heap news) (T : Top Mine.hd.view_39 (looseW Mine.hd.view_39 [Str.ofString "BasicError"]) mean mg mb h₀) (hk : cs.kind = .function)
  (h1 : one.length ≤ 100) (h2 : other.length ≤ 100) (hdp : dp + 3 < recursionLimit) (hun : un + 40 < cLine)
  (hret : CbRet h₀ L m news s Q (fun t => .str (one ++ other) t)) :
  wpAny (model PySem.Challenge.rw_xm0048_01.row.prog w) (ktrTop dp un gd cn cs L a ccd cl outer) (call (.ref 128) [.str one t1, .str other t2]) Q E s := by
  w_top off
  (revert X; k_fill; intro X)
  refine wpAny_call ?_
  k_dflt cell_enter
  k_with_none
  k_steps
  all_goals exact cb_retS (Q := Q) hret rfl (by assumption) (by assumption)
end Mine
namespace Mine
local macro_rules | `(tactic| walk_at "own nothing") => `(tactic| fail)
local macro_rules | `(tactic| walk_at "subscriptTail") => `(tactic| (k_here; (with_reducible show wpAny _ _ (subscriptTail _ _ (Value.ref _) (Value.int _ _)) _ _ _); k_dflt (refine' item_led ?k1 ?k2 ?k3 ?k4 ?k5 ?_ ?k6; (case k1 => k_asm); (case k2 => assumption); (case k3 => decide); (case k4 => decide); (case k5 => rfl); (case k6 => with_unfolding_all rfl); k_whole)))
local macro_rules | `(tactic| walk_at "call ref") => `(tactic| (k_here; (with_reducible show wpAny _ _ (call (Value.ref _) _) _ _ _); k_dflt (refine wpAny_call ?_; (refine' code_def ?k1 ?k2 ?k3 ?k4 ?k5 ?kA ?kF ?kK ?k6 ?k7 ?k8 ?k9 ?kB ?_ ?c2 ?c3 ?c4 ?c5; (case kA => exact rfl); (case kF => exact rfl); (case kK => first | exact rfl | assumption); (case k1 => k_asm); (case k2 => k_asm); (case k3 => k_asm); (case k4 => k_asm); (case k5 => k_asm); (case k6 => k_is); (case k7 => k_is); (case k8 => ktr_room); (case k9 => exact BindsTo.of_eq rfl); (case c5 => decide); (case kB => exact locs rfl); (case c2 => exact rfl); (case c3 => exact rfl); (case c4 => exact rfl); k_whole; intro g' L' h' FG' F' N' B' X' T'; (try dsimp only); (try k_fold)))))
theorem c_left {w : World} {mean : ExcName → Option Value} {mg mb : Str → Option Value} {news : List (Addr × Obj)} {text : Str} {k : Int} {t1 t2 : Tok} {l : Addr} {nl : Nat}
  {dp un : Nat} {gd : Option (List Code)} {cn : Str} {cs : Scope} {a : Addr} {ccd : Value} {cl : List (Str × Addr)} {outer : List Env} {A₀ : Around} {base h₀ : Heap} {L : Addr} {m : Str → Option Value} {s : Shared} {Q E : Value → Shared → Prop}
  (B : Below A₀ base outer h₀) (F : Fr h₀ L s.heap m) (X : (Mine.hd.heap_39 w.params).In h₀) (N : News h₀ L s.heap news) (T : Top Mine.hd.view_39 (looseW Mine.hd.view_39 [Str.ofString "BasicError"]) mean mg mb h₀) (hk : cs.kind = .function)
  (hl : (l, listOf ([.str text t1, .int k t2] : List Value).toArray nl) ∈ news) (h1 : text.length ≤ 100) (h2 : 0 ≤ k) (h3 : k ≤ 100) (hdp : dp + 3 < recursionLimit) (hun : un + 40 < cLine)
  (hret : CbRet h₀ L m news s Q (fun t => .str (Txt.slice text none (some k)) t)) :
  wpAny (model PySem.Challenge.rw_xm0048_01.row.prog w) (ktrTop dp un gd cn cs L a ccd cl outer) (call (.ref 107) [.none, .ref l]) Q E s := by
  w_top off
  (revert X; k_fill; intro X)
  refine wpAny_call ?_
  k_dflt cell_enter
  k_with_none
  k_steps
  all_goals exact cb_retS (Q := Q) hret rfl (by assumption) (cb_drop (by assumption) (fun p hp => by first | exact hp | exact List.mem_cons_of_mem _ hp))
theorem c_right {w : World} {mean : ExcName → Option Value} {mg mb : Str → Option Value} {news : List (Addr × Obj)} {text : Str} {k : Int} {t1 t2 : Tok} {l : Addr} {nl : Nat}
  {dp un : Nat} {gd : Option (List Code)} {cn : Str} {cs : Scope} {a : Addr} {ccd : Value} {cl : List (Str × Addr)} {outer : List Env} {A₀ : Around} {base h₀ : Heap} {L : Addr} {m : Str → Option Value} {s : Shared} {Q E : Value → Shared → Prop}
  (B : Below A₀ base outer h₀) (F : Fr h₀ L s.heap m) (X : (Mine.hd.heap_39 w.params).In h₀) (N : News h₀ L s.heap news) (T : Top Mine.hd.view_39 (looseW Mine.hd.view_39 [Str.ofString "BasicError"]) mean mg mb h₀) (hk : cs.kind = .function)
  (hl : (l, listOf ([.str text t1, .int k t2] : List Value).toArray nl) ∈ news) (h1 : text.length ≤ 100) (h2 : 0 ≤ k) (h3 : k ≤ 100) (hdp : dp + 3 < recursionLimit) (hun : un + 40 < cLine)
  (hret : CbRet h₀ L m news s Q (fun t => .str (Txt.slice text (some (if 0 > (text.length : Int) - k then 0 else (text.length : Int) - k)) none) t)) :
  wpAny (model PySem.Challenge.rw_xm0048_01.row.prog w) (ktrTop dp un gd cn cs L a ccd cl outer) (call (.ref 114) [.none, .ref l]) Q E s := by
  w_top off
  (revert X; k_fill; intro X)
  refine wpAny_call ?_
  k_dflt cell_enter
  k_with_none
  k_steps
  all_goals exact cb_retS (Q := Q) hret rfl (by assumption) (cb_drop (by assumption) (fun p hp => by first | exact hp | exact List.mem_cons_of_mem _ hp))
local macro_rules | `(tactic| walk_at "subscriptTail") => `(tactic| (k_here; (with_reducible show wpAny _ _ (subscriptTail _ _ (Value.ref _) (Value.int _ _)) _ _ _); k_dflt (refine' item_led ?k1 ?k2 ?k3 ?k4 ?k5 ?_ ?k6; (case k1 => k_asm); (case k2 => first | assumption | exact List.mem_cons_of_mem _ (by assumption)); (case k3 => decide); (case k4 => decide); (case k5 => rfl); (case k6 => with_unfolding_all rfl); k_whole)))
theorem len_ref {prog : Program} {w : World} {A : Around} {E : Value → Shared → Prop} {s : Shared} {h₀ : Heap} {L : Addr} {news : List (Addr × Obj)} {l : Addr} {vs : List Value} {n : Nat} {k : Int} {Q : Value → Shared → Prop} (N : News h₀ L s.heap news) (hl : (l, listOf vs.toArray n) ∈ news) (hk : (vs.length : Int) = k) (h2 : k ≤ 100)
    (h : Q (.int k (s.toks + 1)) { s with toks := s.toks + 1 + 1 }) : wpAny (model prog w) A (call (.builtin "len") [.ref l]) Q E s := by
  subst hk
  have e : vs.toArray.size = vs.length := by simp
  refine len_list (News.isList N hl) (by rw [e]; omega) ?_
  rw [e]; exact h
local macro_rules | `(tactic| walk_at "call builtin:len") => `(tactic| (k_here; (with_reducible show wpAny _ _ (call (Value.builtin "len") [Value.ref _]) _ _ _); k_dflt (refine' len_ref ?k1 ?k2 ?k3 ?k4 ?_; (case k1 => k_asm); (case k2 => first | assumption | exact List.mem_cons_of_mem _ (by assumption)); (case k3 => exact (rfl : ((3 : Nat) : Int) = 3)); (case k4 => decide))))
theorem c_mid {w : World} {mean : ExcName → Option Value} {mg mb : Str → Option Value} {news : List (Addr × Obj)} {text : Str} {k : Int} {t1 t2 t3 : Tok} {l : Addr} {nl : Nat}
  {dp un : Nat} {gd : Option (List Code)} {cn : Str} {cs : Scope} {a : Addr} {ccd : Value} {cl : List (Str × Addr)} {outer : List Env} {A₀ : Around} {base h₀ : Heap} {L : Addr} {m : Str → Option Value} {s : Shared} {Q E : Value → Shared → Prop}
  (B : Below A₀ base outer h₀) (F : Fr h₀ L s.heap m) (X : (Mine.hd.heap_39 w.params).In h₀) (N : News h₀ L s.heap news) (T : Top Mine.hd.view_39 (looseW Mine.hd.view_39 [Str.ofString "BasicError"]) mean mg mb h₀) (hk : cs.kind = .function)
  (hl : (l, listOf ([.str text t1, .int k t2, .int 1 t3] : List Value).toArray nl) ∈ news) (h1 : text.length ≤ 100) (h2 : 1 ≤ k) (h3 : k ≤ 100) (hdp : dp + 3 < recursionLimit) (hun : un + 40 < cLine)
  (hret : CbRet h₀ L m news s Q (fun t => .str (Txt.slice text (some (k - 1)) (some (k - 1 + 1))) t)) :
  wpAny (model PySem.Challenge.rw_xm0048_01.row.prog w) (ktrTop dp un gd cn cs L a ccd cl outer) (call (.ref 121) [.none, .ref l]) Q E s := by
  w_top off
  (revert X; k_fill; intro X)
  refine wpAny_call ?_
  k_dflt cell_enter
  k_with_none
  k_steps
  · exfalso; omega
  all_goals exact cb_retS (Q := Q) hret rfl (by assumption) (cb_drop (by assumption) (fun p hp => by first | exact hp | exact List.mem_cons_of_mem _ hp))
end Mine
namespace Mine
local macro_rules | `(tactic| k_mem) => `(tactic| exact List.mem_cons_of_mem _ (by assumption))
local macro_rules | `(tactic| walk_at "subscriptTail") => `(tactic| (k_here; (with_reducible show wpAny _ _ (subscriptTail _ _ (Value.ref _) (Value.int _ _)) _ _ _); k_dflt (refine' item_led ?k1 ?k2 ?k3 ?k4 ?k5 ?_ ?k6; (case k1 => k_asm); (case k2 => k_mem); (case k3 => decide); (case k4 => decide); (case k5 => rfl); (case k6 => with_unfolding_all rfl); k_whole)))
local macro_rules | `(tactic| k_all) => `(tactic| assumption)
theorem ints_get : ∀ {vs : List Value} {ns : List Int}, IntsAre vs ns → ∀ i : Nat, i < ns.length → ∃ t, vs[i]? = some (.int (ns.getD i 0) t)
  | _, _, .cons m t _, 0, _ => ⟨t, rfl⟩
  | _, _, .cons m t h, i + 1, hi => by
    obtain ⟨t', e⟩ := ints_get h i (by simpa using hi)
    exact ⟨t', by simpa using e⟩
section
variable {prog : Program} {w : World} {A : Around} {E : Value → Shared → Prop} {s : Shared} {h₀ : Heap} {L : Addr} {news : List (Addr × Obj)} {l : Addr} {vs : List Value} {ns : List Int} {n : Nat} {Q : Value → Shared → Prop}
theorem len_led (N : News h₀ L s.heap news) (hl : (l, listOf vs.toArray n) ∈ news) (hi : IntsAre vs ns) (hn : ns.length ≤ 100) (h : Q (.int (ns.length : Nat) (s.toks + 1)) { s with toks := s.toks + 1 + 1 }) :
    wpAny (model prog w) A (call (.builtin "len") [.ref l]) Q E s := by
  have e : vs.toArray.size = ns.length := by rw [List.size_toArray]; exact hi.length
  refine len_list (News.isList N hl) (by rw [e]; omega) ?_
  rw [e]; exact h
theorem item_ints {value slice : PySem.Expr} {k : Int} {u : Tok} (N : News h₀ L s.heap news) (hl : (l, listOf vs.toArray n) ∈ news) (hi : IntsAre vs ns) (h0 : 0 ≤ k) (hk : k < (ns.length : Int)) (hn : ns.length ≤ 100) (h : ∀ t, Q (.int (ns.getD k.toNat 0) t) s)
    (hs : subscripted slice false (.ref l) (.int k u) = operate [.ref l, .int k u] (getItem (.ref l) (.int k u)) := by with_unfolding_all rfl) :
    wpAny (model prog w) A (subscriptTail value slice (.ref l) (.int k u)) Q E s := by
  obtain ⟨t, e⟩ := ints_get hi k.toNat (by omega)
  exact item_led N hl h0 (by omega) e (h t) hs
end
theorem bit2 (x : Int) : Int.fmod x 2 = 0 ∨ Int.fmod x 2 = 1 := by
  have h1 := Int.fmod_nonneg_of_pos x (b := 2) (by decide)
  have h2 := Int.fmod_lt_of_pos x (b := 2) (by decide)
  omega
local macro_rules | `(tactic| walk_at "call builtin:len") => `(tactic| (k_here; (with_reducible show wpAny _ _ (call (Value.builtin "len") [Value.ref _]) _ _ _); k_dflt (refine' len_led ?k1 ?k2 ?k3 ?k4 ?_; (case k1 => k_asm); (case k2 => k_mem); (case k3 => assumption); (case k4 => omega); k_whole)))
local macro_rules | `(tactic| walk_at "subscriptTail") => `(tactic| (k_here; (with_reducible show wpAny _ _ (subscriptTail _ _ (Value.ref _) (Value.int _ _)) _ _ _); k_dflt (refine' item_ints ?k1 ?k2 ?k3 ?k4 ?k5 ?k7 ?_ ?k6; (case k1 => k_asm); (case k2 => k_mem); (case k3 => assumption); (case k4 => omega); (case k5 => omega); (case k7 => omega); (case k6 => with_unfolding_all rfl); k_whole); intro t8))
theorem c_draw_core {w : World} {mean : ExcName → Option Value} {mg mb : Str → Option Value} {R : List (Addr × Obj)} {bagL sl : Addr} {nb n0 : Nat} {spot : Int} {ts t2 : Tok} {vs : List Value} {ns : List Int}
  {dp un : Nat} {gd : Option (List Code)} {cn : Str} {cs : Scope} {a : Addr} {ccd : Value} {cl : List (Str × Addr)} {outer : List Env} {A₀ : Around} {base h₀ : Heap} {L : Addr} {m : Str → Option Value} {s : Shared} {Q E : Value → Shared → Prop}
  (B : Below A₀ base outer h₀) (F : Fr h₀ L s.heap m) (X : (Mine.hd.heap_39 w.params).In h₀) (N : News h₀ L s.heap ((bagL, listOf #[.ref sl, .int spot ts] nb) :: R)) (T : Top Mine.hd.view_39 (looseW Mine.hd.view_39 [Str.ofString "BasicError"]) mean mg mb h₀) (hk : cs.kind = .function)
  (hR : ∀ p ∈ R, p.1 ≠ bagL) (hs : (sl, listOf vs.toArray n0) ∈ R) (hi : IntsAre vs ns) (hn : ns.length ≤ 4) (h1 : 0 ≤ spot) (h2 : spot ≤ 10)
  (hdp : dp + 3 < recursionLimit) (hun : un + 40 < cLine)
  (hret : ∀ (b : Int) (t t' : Tok) (h' : Heap) (tk' : Nat), b = 0 ∨ b = 1 → Fr h₀ L h' m → News h₀ L h' ((bagL, listOf #[.ref sl, .int (spot + 1) t'] nb) :: R) → Q (.int b t) { s with heap := h', toks := tk' }) :
  wpAny (model PySem.Challenge.rw_xm0048_01.row.prog w) (ktrTop dp un gd cn cs L a ccd cl outer) (call (.ref 135) [.ref bagL, .int 2 t2]) Q E s := by
  w_top off
  (revert X; k_fill; intro X)
  refine wpAny_call ?_
  k_dflt cell_enter
  k_with_none
  k_steps
  all_goals exact hret _ _ _ _ _ (bit2 _) (by assumption) (by assumption)
theorem c_draw {w : World} {mean : ExcName → Option Value} {mg mb : Str → Option Value} {news : List (Addr × Obj)} {g : Obj → List (Addr × Obj)} {bagL sl : Addr} {nb n0 : Nat} {spot : Int} {ts t2 : Tok} {vs : List Value} {ns : List Int}
  {dp un : Nat} {gd : Option (List Code)} {cn : Str} {cs : Scope} {a : Addr} {ccd : Value} {cl : List (Str × Addr)} {outer : List Env} {A₀ : Around} {base h₀ : Heap} {L : Addr} {m : Str → Option Value} {s : Shared} {Q E : Value → Shared → Prop}
  (B : Below A₀ base outer h₀) (F : Fr h₀ L s.heap m) (X : (Mine.hd.heap_39 w.params).In h₀) (N : News h₀ L s.heap news) (T : Top Mine.hd.view_39 (looseW Mine.hd.view_39 [Str.ofString "BasicError"]) mean mg mb h₀) (hk : cs.kind = .function)
  (U : UpdF bagL (listOf #[.ref sl, .int spot ts] nb) news g) (hs : (sl, listOf vs.toArray n0) ∈ news) (hne : @Ne Nat sl bagL) (hi : IntsAre vs ns) (hn : ns.length ≤ 4) (h1 : 0 ≤ spot) (h2 : spot ≤ 10)
  (hdp : dp + 3 < recursionLimit) (hun : un + 40 < cLine)
  (hret0 : ∀ (t t' : Tok) (h' : Heap) (tk' : Nat), Fr h₀ L h' m → News h₀ L h' (g (listOf #[.ref sl, .int (spot + 1) t'] nb)) → Q (.int 0 t) { s with heap := h', toks := tk' })
  (hret1 : ∀ (t t' : Tok) (h' : Heap) (tk' : Nat), Fr h₀ L h' m → News h₀ L h' (g (listOf #[.ref sl, .int (spot + 1) t'] nb)) → Q (.int 1 t) { s with heap := h', toks := tk' }) :
  wpAny (model PySem.Challenge.rw_xm0048_01.row.prog w) (ktrTop dp un gd cn cs L a ccd cl outer) (call (.ref 135) [.ref bagL, .int 2 t2]) Q E s := by
  obtain ⟨pre, post, rfl, hg, a1, a2⟩ := U.split
  have sub : ∀ o' : Obj, ∀ p ∈ pre ++ (bagL, o') :: post, p ∈ (bagL, o') :: (pre ++ post) := fun o' p hp => by
    rcases List.mem_append.mp hp with h | h
    · exact List.mem_cons_of_mem _ (List.mem_append_left _ h)
    · rcases List.mem_cons.mp h with h | h
      · exact h ▸ List.mem_cons_self
      · exact List.mem_cons_of_mem _ (List.mem_append_right _ h)
  have sup : ∀ o' : Obj, ∀ p ∈ (bagL, o') :: (pre ++ post), p ∈ pre ++ (bagL, o') :: post := fun o' p hp => by
    rcases List.mem_cons.mp hp with h | h
    · exact h ▸ List.mem_append_right _ List.mem_cons_self
    · rcases List.mem_append.mp h with h | h
      · exact List.mem_append_left _ h
      · exact List.mem_append_right _ (List.mem_cons_of_mem _ h)
  have hs' : (sl, listOf vs.toArray n0) ∈ pre ++ post := by
    rcases List.mem_cons.mp (sub _ _ hs) with h | h
    · exact absurd (congrArg Prod.fst h) hne
    · exact h
  have hR : ∀ p ∈ pre ++ post, p.1 ≠ bagL := fun p hp => (List.mem_append.mp hp).elim (a1 p) (a2 p)
  refine c_draw_core B F X (fun p hp => N p (sup _ p hp)) T hk hR hs' hi hn h1 h2 hdp hun ?_
  rintro b t t' h' tk' (rfl | rfl) F' N'
  · exact hret0 t t' h' tk' F' (by rw [hg]; exact fun p hp => N' p (sub _ p hp))
  · exact hret1 t t' h' tk' F' (by rw [hg]; exact fun p hp => N' p (sub _ p hp))
end Mine
namespace Mine
section
variable {prog : Program} {w : World} {A : Around} {E : Value → Shared → Prop} {s : Shared} {env : Env} {h₀ : Heap} {x : Str} {px : Pos} {body : List Stmt} {Q : Flow → Shared → Prop}

def TurnPostR (h₀ : Heap) (L : Addr) (I : Addr) (oI : Obj) (J : (Str → Option Value) → List (Addr × Obj) → Prop) (s : Shared) (Q : Flow → Shared → Prop) (f : Flow) (s₄ : Shared) : Prop :=
  match f with
  | .ret v => Q (.ret v) s₄
  | .brk => Q .next s₄
  | _ => ∃ h' tk' m₂ news₂, s₄ = { s with heap := h', toks := tk' } ∧ Fr h₀ L h' m₂ ∧ News h₀ L h' ((I, oI) :: news₂) ∧ (∀ p ∈ news₂, p.1 ≠ I) ∧ J m₂ news₂

theorem turns_range {r : Addr} {a₀ b₀ : Int} {t₀ u₀ v₀ : Tok} {n : Nat} {m₀ : Str → Option Value} {news : List (Addr × Obj)} (J : Nat → (Str → Option Value) → List (Addr × Obj) → Prop)
    (hh : A.handled = none) (hr : IsRange s.heap r a₀ b₀ 1 t₀ u₀ v₀) (hsmall : Builtin.Range.small a₀ b₀ 1 = true) (hn : Builtin.Range.rangeSize a₀ b₀ 1 = (n : Int)) (F : Fr h₀ env.locals s.heap m₀) (N : News h₀ env.locals s.heap news) (hj : J 0 m₀ news)
    (turn : ∀ i t m₁ news₁ I oI h tk, i < n → J i m₁ news₁ → (∀ p ∈ news₁, p.1 ≠ I) → Fr h₀ env.locals h m₁ → News h₀ env.locals h ((I, oI) :: news₁) →
      wpAny (model prog w) A (assign (.Name x px) env (.int (a₀ + (i : Int)) t)) (fun _ s₃ => wpAny (model prog w) A (execs body env) (TurnPostR h₀ env.locals I oI (J (i + 1)) s Q) E s₃) E { s with heap := h, toks := tk })
    (done : ∀ m₁ news₁ h tk, J n m₁ news₁ → Fr h₀ env.locals h m₁ → News h₀ env.locals h news₁ → Q .next { s with heap := h, toks := tk }) :
    wpAny (model prog w) A (pyIter (.ref r)) (fun it s₂ => TurnsAt prog w A h₀ env (.Name x px) body Q E it s₂) E s := by
  refine wpAny_pyIter_range hr hsmall ?_
  have W : Walks prog w A s.heap.objs.size [s.heap.objs.size] [s.heap.objs.size] n (fun i v => i < n ∧ ∃ t, v = .int (a₀ + i * 1) t)
      (fun i h => IsRangeIter h s.heap.objs.size (a₀ + (i : Nat) * 1) ((n : Int) - (i : Nat)) 1) := (Walks.range hh _ a₀ 1 n).bound
  have hL : env.locals ≠ s.heap.objs.size := Nat.ne_of_lt F.ns.lt
  refine ⟨_, _, _, n, _, _, _, m₀, news, J, rfl, KTurns.ofWalks W (fun _ _ _ _ _ _ h => wpAny_of_eq rfl h), ?_, ?_, ?_, (by show IsRangeIter _ _ _ _ _; rw [hn]; simpa using Heap.get?_push_size _ rfl), F.push _, (fun p hp => ⟨Heap.get?_push_of_some _ (N p hp).1, (N p hp).2⟩), hj, ?_, ?_⟩
  · intro hm; exact hL (List.mem_singleton.mp hm)
  · intro b hb
    rw [List.mem_singleton.mp hb]
    exact next_is_new F
  · intro p hp hI
    exact absurd (Heap.lt_size (N p hp).1) ((List.mem_singleton.mp hI) ▸ Nat.lt_irrefl _)
  · intro i v m₁ news₁ h₁ tk₁ own hi hP hJ hnw hown hget hall hst F₁ N₁
    obtain ⟨_, t, rfl⟩ := hP
    have e1 : a₀ + (i : Int) * 1 = a₀ + (i : Int) := by omega
    rw [e1]
    have hI : ∃ oI, h₁.get? s.heap.objs.size = some oI := ⟨_, hst⟩
    obtain ⟨oI, hoI⟩ := hI
    have hone : ∀ p ∈ own, p = (s.heap.objs.size, oI) := own_one hown (fun b hb => .inl (List.mem_singleton.mp hb)) hoI N₁
    have hmem : (s.heap.objs.size, oI) ∈ own := hall _ (List.mem_singleton.mpr rfl) (next_is_new F) oI hoI
    have hoff : ∀ p ∈ news₁, p.1 ≠ s.heap.objs.size := fun p hp e => hnw p hp (List.mem_singleton.mpr e)
    refine wpAny_mono (turn i t m₁ news₁ _ oI h₁ tk₁ hi hJ hoff F₁ (news_one hmem N₁)) (fun _ s₃ h₃ => wpAny_mono h₃ (fun f s₄ h₄ => ?_) fun _ _ e => e) fun _ _ e => e
    have conv : (∃ h' tk' m₂ news₂, s₄ = { s with heap := h', toks := tk' } ∧ Fr h₀ env.locals h' m₂ ∧ News h₀ env.locals h' ((s.heap.objs.size, oI) :: news₂) ∧ (∀ p ∈ news₂, p.1 ≠ s.heap.objs.size) ∧ J (i + 1) m₂ news₂) →
        LoopStepU h₀ env.locals [s.heap.objs.size] own (J (i + 1)) { s with heap := h₁, toks := tk₁ } .next s₄ := by
      rintro ⟨h', tk', m₂, news₂, rfl, F₂, N₂, ho₂, hJ₂⟩
      exact ⟨rfl, h', tk', m₂, news₂, rfl, F₂, fun p hp => N₂ p (by
        rcases List.mem_append.mp hp with h | h
        · rw [hone p h]; exact List.mem_cons_self
        · exact List.mem_cons_of_mem _ h), fun p hp hw => ho₂ p hp (List.mem_singleton.mp hw), hJ₂⟩
    cases f with
    | ret v => exact h₄
    | brk => exact h₄
    | cont => exact conv h₄
    | next => exact conv h₄
  · intro h' tk m' news' F' N' _ hJ
    exact done m' news' h' tk hJ F' N'
end
end Mine
namespace Mine
section
variable {prog : Program} {w : World} {A : Around} {h₀ : Heap} {L : Addr} {m : Str → Option Value} {env : Env} {elt ct : Expr} {x : Str} {px : Pos} {scope : Scope} {cl : List (Str × Addr)} {s : Shared} {S : List (Addr × Obj) → Prop} {Fin : List Value → List (Addr × Obj) → Prop} {news : List (Addr × Obj)}
theorem comp_strs {ws : List Str} {vs : List Value} (g : Str → Int) (hv : StrsAre vs ws)
    (turn : ∀ k t I oI C oC D m₂ ys h tk (E' : Value → Shared → Prop), k ∈ ws → LCg.NsObj oC m₂ → m₂ x = some (.str k t) → Fr h₀ L h m → News h₀ L h ((I, oI) :: (C, oC) :: (D, LCg.lst ys) :: news) → LCg.Off3 I C D news → ((@Ne Nat I C) ∧ (@Ne Nat I D) ∧ (@Ne Nat C D)) →
      wpAny (model prog w) A (eval elt (compEnvC scope cl C env)) (LCg.CompEnd h₀ L m { s with heap := h, toks := tk } I oI C oC D (LCg.lst ys) S (fun y news' => KCfEl news (g k) y news')) E' { s with heap := h, toks := tk })
    (fin : ∀ ys, IntsAre ys (ws.map g) → Fin ys news) : LCg.CompRest prog w A h₀ L m env elt x scope cl s S (fun i v => vs.toArray[i]? = some v) Fin vs.toArray.size 0 [] news := by
  have key : ∀ (j i : Nat) (ys : List Value), i + j = ws.length → IntsAre ys ((ws.take i).map g) → LCg.CompRest prog w A h₀ L m env elt x scope cl s S (fun i v => vs.toArray[i]? = some v) Fin j i ys news := by
    intro j
    induction j with
    | zero =>
      intro i ys hi hy
      have e : i = ws.length := by omega
      subst e
      rw [List.take_length] at hy
      exact LCg.CompRest.zero (fin ys hy)
    | succ j ih =>
      intro i ys hi hy
      refine LCg.CompRest.succ ?_
      intro v I oI C oC D m₂ h tk E' hv' hC hx F N off ne
      obtain ⟨k, t, e, hk⟩ := hv.item i v (by simpa using hv')
      rw [e] at hx
      refine wpAny_mono (turn k t I oI C oC D m₂ ys h tk E' (List.mem_of_getElem? hk) hC hx F N off ne) (fun y s₂ hq => ?_) fun _ _ e => e
      obtain ⟨h', tk', nw, e, F', N', off', hS, hn, t', hy'⟩ := hq
      rw [hn] at N' off' hS
      refine ⟨h', tk', news, e, F', N', off', hS, ?_⟩
      rw [hy']
      refine ih (i + 1) _ (by omega) ?_
      rw [List.take_add_one, hk]
      simpa using IntsAre.append hy (.cons (g k) t' .nil)
  have e : vs.toArray.size = ws.length := by rw [List.size_toArray]; exact hv.len_eq
  rw [e]
  exact key ws.length 0 [] (by omega) (by simp only [List.take_zero, List.map_nil]; exact .nil)

theorem comp_filter {ks : List Int} {vs : List Value} (p : Int → Bool) (hv : IntsAre vs ks) (hS : S news)
    (turn : ∀ k t I oI C oC D m₂ ys h tk (E' : Value → Shared → Prop), k ∈ ks → LCg.NsObj oC m₂ → m₂ x = some (.int k t) → Fr h₀ L h m → News h₀ L h ((I, oI) :: (C, oC) :: (D, LCg.lst ys) :: news) → LCg.Off3 I C D news → ((@Ne Nat I C) ∧ (@Ne Nat I D) ∧ (@Ne Nat C D)) →
      wpAny (model prog w) A (isTrue ct (compEnvC scope cl C env) (eval ct (compEnvC scope cl C env))) (fun ok s' => ok = p k ∧ ∃ h' tk', s' = { s with heap := h', toks := tk' } ∧ Fr h₀ L h' m ∧ News h₀ L h' ((I, oI) :: (C, oC) :: (D, LCg.lst ys) :: news)) E' { s with heap := h, toks := tk })
    (fin : ∀ ys, IntsAre ys (ks.filter p) → Fin ys news)
    (hkd : ∀ C, (compEnvC scope cl C env).scope.kind = .function) (hxk : ∀ C, (compEnvC scope cl C env).kindOf x = some .local) (hd : (x == ("__debug__" : Str)) = false) :
    LCt.CompRestT prog w A h₀ L m env ct (.Name x px) x scope cl s S (fun i v => vs.toArray[i]? = some v) Fin vs.toArray.size 0 [] news := by
  have key : ∀ (j i : Nat) (ys : List Value), i + j = ks.length → IntsAre ys ((ks.take i).filter p) → LCt.CompRestT prog w A h₀ L m env ct (.Name x px) x scope cl s S (fun i v => vs.toArray[i]? = some v) Fin j i ys news := by
    intro j
    induction j with
    | zero =>
      intro i ys hi hy
      have e : i = ks.length := by omega
      subst e
      rw [List.take_length] at hy
      exact LCt.CompRestT.zero (fin ys hy)
    | succ j ih =>
      intro i ys hi hy
      refine LCt.CompRestT.succ ?_
      intro v I oI C oC D m₂ h tk E' hv' hC hx F N off ne
      obtain ⟨k, t, e, hk⟩ := IntsAre.at hv i v (by simpa using hv')
      rw [e] at hx
      refine wpAny_mono (turn k t I oI C oC D m₂ ys h tk E' (List.mem_of_getElem? hk) hC hx F N off ne) (fun ok s₂ hq => ?_) fun _ _ e => e
      obtain ⟨rfl, h', tk', rfl, F', N'⟩ := hq
      cases hp : p k with
      | true =>
        simp only [if_true]
        refine LCgL.ld_own N' (List.mem_cons_of_mem _ List.mem_cons_self) hC hx ?_ (hkd C) (hxk C) hd
        refine ⟨h', tk', news, rfl, F', N', off, hS, ?_⟩
        refine ih (i + 1) _ (by omega) ?_
        rw [List.take_add_one, hk, List.filter_append]
        simpa [hp] using IntsAre.append hy (.cons k t .nil)
      | false =>
        simp only [Bool.false_eq_true, if_false]
        refine ⟨h', tk', news, rfl, F', N', off, hS, ?_⟩
        refine ih (i + 1) _ (by omega) ?_
        rw [List.take_add_one, hk, List.filter_append]
        simpa [hp] using hy
  have e : vs.toArray.size = ks.length := by rw [List.size_toArray]; exact hv.length
  rw [e]
  exact key ks.length 0 [] (by omega) (by simp only [List.take_zero, List.filter_nil]; exact .nil)
end
end Mine
namespace Mine
theorem nestTurn0 (elt tx itx ty ity : Expr) (scope : Scope) (pos : Pos) (it acc : Value) (env : Env) :
    compTurn (.ListComp elt [⟨tx, itx, [], 0⟩, ⟨ty, ity, [], 0⟩] scope pos) 0 it acc env = (standAt itx.pos >>= fun _ => pyNext it >>= fun r => match r with
      | none => pure (.done .next)
      | some v => letOwnedTupleGo tx it v >>= fun _ => assign tx env v >>= fun _ =>
        eval ity env >>= fun x => standAt ity.pos >>= fun _ => foldedSetIterable ity env x >>= fun x => (holding [x] (pyIter x)) >>= fun it2 =>
          runOwn (.compStart (.ListComp elt [⟨tx, itx, [], 0⟩, ⟨ty, ity, [], 0⟩] scope pos) 1 it2 acc env) env >>= fun _ =>
          again (.compLoop (.ListComp elt [⟨tx, itx, [], 0⟩, ⟨ty, ity, [], 0⟩] scope pos) 0 it acc env)) := by rfl
theorem nestTurn1 (elt tx itx ty ity : Expr) (scope : Scope) (pos : Pos) (it acc : Value) (env : Env) :
    compTurn (.ListComp elt [⟨tx, itx, [], 0⟩, ⟨ty, ity, [], 0⟩] scope pos) 1 it acc env = (standAt ity.pos >>= fun _ => pyNext it >>= fun r => match r with
      | none => pure (.done .next)
      | some v => letOwnedTupleGo ty it v >>= fun _ => assign ty env v >>= fun _ =>
        (eval elt env >>= fun x => call (.builtin "list.append") [acc, x] >>= fun _ => pure ()) >>= fun _ =>
          again (.compLoop (.ListComp elt [⟨tx, itx, [], 0⟩, ⟨ty, ity, [], 0⟩] scope pos) 1 it acc env)) := by rfl
section
variable {prog : Program} {w : World} {A : Around} {E : Value → Shared → Prop} {R : Result → Shared → Prop} {s : Shared}
theorem nestStart {elt tx itx ty ity scope pos it acc env}
    (h0 : codeAny (model prog w) A (.compLoop (.ListComp elt [⟨tx, itx, [], 0⟩, ⟨ty, ity, [], 0⟩] scope pos) 1 it acc env) R s)
    (h : wpAny (model prog w) A (pyIter it) (fun it' s' => codeAny (model prog w) A (.compLoop (.ListComp elt [⟨tx, itx, [], 0⟩, ⟨ty, ity, [], 0⟩] scope pos) 1 it' acc env) R s')
      (notedBy (model prog w) A env fun x s' => R (.error x) s') s) :
    codeAny (model prog w) A (.compStart (.ListComp elt [⟨tx, itx, [], 0⟩, ⟨ty, ity, [], 0⟩] scope pos) 1 it acc env) R s := by
  refine codeAny_of_tree ?_
  show wpAny _ _ ((compStart (.ListComp elt [⟨tx, itx, [], 0⟩, ⟨ty, ity, [], 0⟩] scope pos) 1 it acc env).onRaise (fun x => do noteFrame x env; standAt theWindowsPlace)) _ _ s
  refine wpAny_notedAt ?_
  unfold compStart
  show wpAny _ _ (ask >>= _) _ _ s
  refine wpAny_bind (wpAny_askSetting (wpAny_ite ?_))
  split
  · first
      | exact wpAny_bind (wpAny_pure (wpAny_pure (And.intro rfl h0)))
      | exact wpAny_pure (And.intro rfl h0)
  · first
      | exact wpAny_bind (wpAny_rule (wpAny_bind (wpAny_standAt (wpAny_bind (wpAny_mono h (fun it' s' h' => wpAny_pure (And.intro rfl h')) fun _ _ x => x)))))
      | (refine wpAny_bind (wpAny_rule ?_); show wpAny _ _ (standAt ity.pos >>= _) _ _ s; exact wpAny_bind (wpAny_standAt (wpAny_bind (wpAny_mono h (fun it' s' h' => wpAny_pure (And.intro rfl h')) fun _ _ x => x))))
end

section
variable {prog : Program} {w : World} {A : Around} {E : Value → Shared → Prop} {R : Result → Shared → Prop} {s : Shared} {h₀ : Heap} {L : Addr} {m : Str → Option Value} {env : Env} {elt itx : Expr} {x y : Str} {px py ps : Pos} {kk : Nat} {scope : Scope} {cl : List (Str × Addr)} {pos : Pos} {ws : List Str} {sg : Str} {news : List (Addr × Obj)}
abbrev nestE (elt itx : Expr) (x y : Str) (px py ps : Pos) (kk : Nat) (sg : Str) (scope : Scope) (pos : Pos) : Expr := .ListComp elt [⟨.Name x px, itx, [], 0⟩, ⟨.Name y py, .Constant (.str sg) kk ps, [], 0⟩] scope pos

def NestTurn (prog : Program) (w : World) (A : Around) (h₀ : Heap) (L : Addr) (m : Str → Option Value) (env : Env) (elt : Expr) (x y : Str) (scope : Scope) (cl : List (Str × Addr)) (s : Shared) (ws : List Str) (sg : Str) (news : List (Addr × Obj)) : Prop :=
  ∀ (k : Str) (c : Nat) (t1 tc : Tok) (I : Addr) (oI : Obj) (J : Addr) (oJ : Obj) (C : Addr) (oC : Obj) (D : Addr) (m₂ : Str → Option Value) (ys : List Value) (h : Heap) (tk : Nat) (E' : Value → Shared → Prop), k ∈ ws → c ∈ sg.cps.toList → LCg.NsObj oC m₂ → m₂ x = some (.str k t1) → m₂ y = some (.str ⟨#[c]⟩ tc) → Fr h₀ L h m →
    News h₀ L h ((I, oI) :: (J, oJ) :: (C, oC) :: (D, LCg.lst ys) :: news) →
    wpAny (model prog w) A (eval elt (compEnvC scope cl C env)) (fun yv s' => ∃ t h' tk', yv = .str (k ++ ⟨#[c]⟩) t ∧ s' = { s with heap := h', toks := tk' } ∧ Fr h₀ L h' m ∧ News h₀ L h' ((I, oI) :: (J, oJ) :: (C, oC) :: (D, LCg.lst ys) :: news)) E' { s with heap := h, toks := tk }

theorem walks_strU {prog : Program} {w : World} {A : Around} (hh : A.handled = none) (J : Addr) (sg : Str) (t : Tok) :
    Walks prog w A J [J] [J] sg.cps.size (SignAt sg) (fun i h => h.IsStrIter J (strIterType sg) sg t i) := by
  unfold strIterType
  split
  · exact Walks.strAscii hh J sg t
  · exact Walks.strWide hh J sg t

theorem strsSnoc {vs : List Value} {ws : List Str} (h : StrsAre vs ws) (x : Str) (t : Tok) : StrsAre (vs ++ [.str x t]) (ws ++ [x]) := kct_snoc h

theorem nest_inner {J I C D : Addr} {oI : Obj} {k : Str} {t1 tj : Tok} {acc : List Str} {ys : List Value} {m₁ : Str → Option Value}
    (hh : A.handled = none) (hkind : scope.kind = .function) (hx : scope.names.lookup x = some .local) (hy : scope.names.lookup y = some .local) (hxy : x ≠ y)
    (hk : k ∈ ws) (turn : NestTurn prog w A h₀ L m env elt x y scope cl s ws sg news)
    (hCL : C ≠ L) (hDL : D ≠ L) (hJL : J ≠ L) (hIJ : I ≠ J) (hCI : C ≠ I) (hDI : D ≠ I) (hCD : C ≠ D) (hCJ : C ≠ J) (hDJ : D ≠ J) (hC₀ : h₀.get? C = none) (hD₀ : h₀.get? D = none) (hJ₀ : h₀.get? J = none)
    (off : ∀ p ∈ news, p.1 ≠ J ∧ p.1 ≠ C ∧ p.1 ≠ D)
    (hst : s.heap.IsStrIter J (strIterType sg) sg tj 0) (F : Fr h₀ L s.heap m) (N : News h₀ L s.heap ((I, oI) :: (D, LCg.lst ys) :: news)) (hn : s.heap.Ns C m₁) (hm : m₁ x = some (.str k t1)) (hys : StrsAre ys acc) (hsz : acc.length + sg.cps.size ≤ sizeLine)
    (hR : ∀ h' tk m' ys', Fr h₀ L h' m → News h₀ L h' ((I, oI) :: (D, LCg.lst ys') :: news) → h'.Ns C m' → StrsAre ys' (acc ++ sg.cps.toList.map fun c => k ++ (⟨#[c]⟩ : Str)) → R (.ok .next) { s with heap := h', toks := tk }) :
    codeAny (model prog w) A (.compLoop (nestE elt itx x y px py ps kk sg scope pos) 1 (.ref J) (.ref D) (compEnvC scope cl C env)) R s := by
  have W := walks_strU (prog := prog) (w := w) hh J sg tj
  refine codeAny_loop rfl (fun n s' => ∃ h' tk j ys' m', s' = { s with heap := h', toks := tk } ∧ j ≤ sg.cps.size ∧ n = sg.cps.size + 1 - j ∧ h'.IsStrIter J (strIterType sg) sg tj j ∧ Fr h₀ L h' m ∧ News h₀ L h' ((I, oI) :: (D, LCg.lst ys') :: news) ∧ h'.Ns C m' ∧ m' x = some (.str k t1) ∧
      StrsAre ys' (acc ++ (sg.cps.toList.take j).map fun c => k ++ (⟨#[c]⟩ : Str))) (fun n s' hI => ?_) (sg.cps.size + 1)
      ⟨s.heap, s.toks, 0, ys, m₁, rfl, Nat.zero_le _, rfl, hst, F, N, hn, hm, by simpa using hys⟩
  obtain ⟨h', tk, j, ys', m', rfl, hj, rfl, hst', F', N', hn', hm', hys'⟩ := hI
  show wpAny _ A ((compTurn (nestE elt itx x y px py ps kk sg scope pos) 1 (.ref J) (.ref D) (compEnvC scope cl C env)).onRaise (fun x => do noteFrame x (compEnvC scope cl C env); theTreesLotGoes x)) _ _ _
  refine wpAny_noted ?_
  rw [nestTurn1]
  refine wpAny_bind (wpAny_standAt (wpAny_bind ?_))
  by_cases hlt : j < sg.cps.size
  · refine W.item j _ _ _ hlt hst' fun v h₁ tk₁ hP hst₁ hk₁ => ?_
    obtain ⟨c, tc, hc, rfl⟩ := hP
    dsimp only
    refine wpAny_bind (wpAny_of_eq rfl ?_)
    refine wpAny_bind (wpAny_assign_Name (wpAny_storeName_local (lookup_relabel_local hy) (hn'.at' fun o e => hk₁ C o (by simpa using hCJ) e) (fun h₂ hn₂ hs₂ => ?_) (by simp [compEnvC, relabel, hkind])))
    have F₂ : Fr h₀ L h₂ m := (LCg.fr_but F' hk₁ (Ne.symm hJL) hJ₀).change hs₂ hCL hC₀
    have N₁ : News h₀ L h₁ ((I, oI) :: (D, LCg.lst ys') :: news) := LCg.news_but N' hk₁ fun p hp => by
      rcases List.mem_cons.mp hp with rfl | hp
      · exact hIJ
      · rcases List.mem_cons.mp hp with rfl | hp
        · exact hDJ
        · exact (off p hp).1
    have N₂ : News h₀ L h₂ ((I, oI) :: (D, LCg.lst ys') :: news) := fun p hp => ⟨hs₂.extBut _ _ (by
      rcases List.mem_cons.mp hp with rfl | hp
      · exact Ne.symm hCI
      · rcases List.mem_cons.mp hp with rfl | hp
        · exact Ne.symm hCD
        · exact (off p hp).2.1) (N₁ p hp).1, (N₁ p hp).2⟩
    have hst₂ : h₂.IsStrIter J (strIterType sg) sg tj (j + 1) := W.frame _ _ _ hst₁ fun b hb o e => hs₂.extBut b o (by rw [List.mem_singleton.mp hb]; exact Ne.symm hCJ) e
    obtain ⟨oJ, hoJ, hoJ'⟩ := id hst₂
    obtain ⟨oC, heC, hoC⟩ := LCg.ns_obj hn₂
    have N₃ : News h₀ L h₂ ((I, oI) :: (J, oJ) :: (C, oC) :: (D, LCg.lst ys') :: news) := fun p hp => by
      rcases List.mem_cons.mp hp with rfl | hp
      · exact N₂ _ List.mem_cons_self
      · rcases List.mem_cons.mp hp with rfl | hp
        · exact ⟨hoJ, hJL, hJ₀⟩
        · rcases List.mem_cons.mp hp with rfl | hp
          · exact ⟨heC, hCL, hC₀⟩
          · exact N₂ _ (List.mem_cons_of_mem _ hp)
    have hcm : c ∈ sg.cps.toList := Array.mem_toList_iff.mpr (Array.mem_of_getElem? hc)
    refine wpAny_bind (wpAny_bind (wpAny_mono (turn k c t1 tc I oI J oJ C oC D _ ys' h₂ _ _ hk hcm hoC (by rw [if_neg hxy]; exact hm') (by simp) F₂ N₃) (fun yv s₃ hq => ?_) fun _ _ e => e))
    obtain ⟨t, h₃, tk₃, rfl, rfl, F₃, N₄⟩ := hq
    have zD := (N₄ (D, LCg.lst ys') (List.mem_cons_of_mem _ (List.mem_cons_of_mem _ (List.mem_cons_of_mem _ List.mem_cons_self)))).1
    have zC := (N₄ (C, oC) (List.mem_cons_of_mem _ (List.mem_cons_of_mem _ List.mem_cons_self))).1
    have zJ := (N₄ (J, oJ) (List.mem_cons_of_mem _ List.mem_cons_self)).1
    have hlen : ys'.length = acc.length + j := by
      rw [hys'.len_eq]; simp; omega
    refine wpAny_bind (append_at (hsz := by show ys'.toArray.size ≤ sizeLine; rw [List.size_toArray, hlen]; omega) zD fun h₄ hs₄ hD₄ => ?_)
    refine wpAny_pure (wpAny_pure ⟨rfl, sg.cps.size + 1 - (j + 1), by omega, h₄, tk₃, j + 1, ys' ++ [.str (k ++ (⟨#[c]⟩ : Str)) t], _, rfl, hlt, rfl, ?_, F₃.change hs₄ hDL hD₀, ?_, (hoC.ns zC).sameBut hs₄ hCD, (by rw [if_neg hxy]; exact hm'), ?_⟩)
    · exact W.frame _ _ _ ⟨oJ, zJ, hoJ'⟩ fun b hb o e => hs₄.extBut b o (by rw [List.mem_singleton.mp hb]; exact Ne.symm hDJ) e
    · intro p hp
      rcases List.mem_cons.mp hp with rfl | hp
      · have z := N₄ (I, oI) List.mem_cons_self
        exact ⟨hs₄.extBut _ _ (Ne.symm hDI) z.1, z.2⟩
      · rcases List.mem_cons.mp hp with rfl | hp
        · exact ⟨hD₄.trans (congrArg some (LCg.lst_snoc ys' _)), hDL, hD₀⟩
        · have z := N₄ p (List.mem_cons_of_mem _ (List.mem_cons_of_mem _ (List.mem_cons_of_mem _ (List.mem_cons_of_mem _ hp))))
          exact ⟨hs₄.extBut _ _ (off p hp).2.2 z.1, z.2⟩
    · have e : sg.cps.toList[j]? = some c := by rw [Array.getElem?_toList]; exact hc
      rw [List.take_add_one, e, List.map_append, ← List.append_assoc]
      exact strsSnoc hys' _ _
  · obtain rfl : j = sg.cps.size := Nat.le_antisymm hj (Nat.not_lt.mp hlt)
    refine W.done _ _ _ hst' fun h₁ tk₁ hk₁ => ?_
    dsimp only
    refine wpAny_pure (hR h₁ tk₁ m' ys' (LCg.fr_but F' hk₁ (Ne.symm hJL) hJ₀) (LCg.news_but N' hk₁ fun p hp => ?_) (hn'.at' fun o e => hk₁ C o (by simpa using hCJ) e) ?_)
    · rcases List.mem_cons.mp hp with rfl | hp
      · exact hIJ
      · rcases List.mem_cons.mp hp with rfl | hp
        · exact hDJ
        · exact (off p hp).1
    · rw [List.take_of_length_le (by simp)] at hys'
      exact hys'
end
end Mine
namespace Mine
def flatW (sg : Str) (ws : List Str) : List Str := ws.flatMap fun k => sg.cps.toList.map fun c => k ++ (⟨#[c]⟩ : Str)
theorem flatW_len (sg : Str) : ∀ ws : List Str, (flatW sg ws).length = ws.length * sg.cps.size
  | [] => by simp [flatW]
  | k :: r => by
    have ih := flatW_len sg r
    have e : flatW sg (k :: r) = (sg.cps.toList.map fun c => k ++ (⟨#[c]⟩ : Str)) ++ flatW sg r := rfl
    rw [e, List.length_append, ih, List.length_map, Array.length_toList, List.length_cons, Nat.succ_mul]
    omega
theorem flatW_snoc (sg : Str) (ws : List Str) (k : Str) : flatW sg (ws ++ [k]) = flatW sg ws ++ sg.cps.toList.map fun c => k ++ (⟨#[c]⟩ : Str) := by
  simp [flatW]
section
variable {prog : Program} {w : World} {A : Around} {E : Value → Shared → Prop} {R : Result → Shared → Prop} {s : Shared} {h₀ : Heap} {L : Addr} {m : Str → Option Value} {env : Env} {elt itx : Expr} {x y : Str} {px py ps : Pos} {kk : Nat} {scope : Scope} {cl : List (Str × Addr)} {pos : Pos} {ws : List Str} {sg : Str} {news : List (Addr × Obj)}

theorem nest_outer {I C D ax : Addr} {vs : List Value} {m₁ : Str → Option Value}
    (hh : A.handled = none) (hkind : scope.kind = .function) (hx : scope.names.lookup x = some .local) (hy : scope.names.lookup y = some .local) (hxy : x ≠ y)
    (hv : StrsAre vs ws) (turn : NestTurn prog w A h₀ L m env elt x y scope cl s ws sg news)
    (hCL : C ≠ L) (hDL : D ≠ L) (hIL : I ≠ L) (hCI : C ≠ I) (hDI : D ≠ I) (hCD : C ≠ D) (hC₀ : h₀.get? C = none) (hD₀ : h₀.get? D = none) (hI₀ : h₀.get? I = none)
    (off : LCg.Off3 I C D news) (hS : LCg.SrcAt h₀ ax vs.toArray news) (hax : ax ≠ I)
    (hst : s.heap.IsListIter I ax 0 ∧ s.heap.IsList ax vs.toArray) (F : Fr h₀ L s.heap m) (N : News h₀ L s.heap ((D, LCg.lst []) :: news)) (hn : s.heap.Ns C m₁) (hsz : ws.length * sg.cps.size ≤ sizeLine)
    (hR : ∀ h' tk m' ys, Fr h₀ L h' m → News h₀ L h' ((D, LCg.lst ys) :: news) → h'.Ns C m' → StrsAre ys (flatW sg ws) → R (.ok .next) { s with heap := h', toks := tk }) :
    codeAny (model prog w) A (.compLoop (nestE elt itx x y px py ps kk sg scope pos) 0 (.ref I) (.ref D) (compEnvC scope cl C env)) R s := by
  have W := Walks.list (prog := prog) (w := w) hh I ax hax vs.toArray
  have hlen : vs.toArray.size = ws.length := by rw [List.size_toArray]; exact hv.len_eq
  have off3 := off.mem
  refine codeAny_loop rfl (fun n s' => ∃ h' tk i ys m', s' = { s with heap := h', toks := tk } ∧ i ≤ ws.length ∧ n = ws.length + 1 - i ∧ (h'.IsListIter I ax i ∧ h'.IsList ax vs.toArray) ∧ Fr h₀ L h' m ∧ News h₀ L h' ((D, LCg.lst ys) :: news) ∧ h'.Ns C m' ∧
      StrsAre ys (flatW sg (ws.take i))) (fun n s' hI => ?_) (ws.length + 1)
      ⟨s.heap, s.toks, 0, [], m₁, rfl, Nat.zero_le _, rfl, hst, F, N, hn, by simpa [flatW] using StrsAre.nil⟩
  obtain ⟨h', tk, i, ys, m', rfl, hi, rfl, hst', F', N', hn', hys⟩ := hI
  show wpAny _ A ((compTurn (nestE elt itx x y px py ps kk sg scope pos) 0 (.ref I) (.ref D) (compEnvC scope cl C env)).onRaise (fun x => do noteFrame x (compEnvC scope cl C env); theTreesLotGoes x)) _ _ _
  refine wpAny_noted ?_
  rw [nestTurn0]
  refine wpAny_bind (wpAny_standAt (wpAny_bind ?_))
  by_cases hlt : i < ws.length
  · refine W.item i _ _ _ (by rw [hlen]; exact hlt) hst' fun v h₁ tk₁ hP hst₁ hk₁ => ?_
    obtain ⟨k, t1, rfl, hk⟩ := hv.item i v (by simpa using hP)
    dsimp only
    refine wpAny_bind (wpAny_of_eq rfl ?_)
    refine wpAny_bind (wpAny_assign_Name (wpAny_storeName_local (lookup_relabel_local hx) (hn'.at' fun o e => hk₁ C o (by simpa using hCI) e) (fun h₂ hn₂ hs₂ => ?_) (by simp [compEnvC, relabel, hkind])))
    have F₂ : Fr h₀ L h₂ m := (LCg.fr_but F' hk₁ (Ne.symm hIL) hI₀).change hs₂ hCL hC₀
    have N₁ : News h₀ L h₁ ((D, LCg.lst ys) :: news) := LCg.news_but N' hk₁ fun p hp => by
      rcases List.mem_cons.mp hp with rfl | hp
      · exact hDI
      · exact (off3 p hp).1
    have N₂ : News h₀ L h₂ ((D, LCg.lst ys) :: news) := fun p hp => ⟨hs₂.extBut _ _ (by
      rcases List.mem_cons.mp hp with rfl | hp
      · exact Ne.symm hCD
      · exact (off3 p hp).2.1) (N₁ p hp).1, (N₁ p hp).2⟩
    obtain ⟨oI, hoI, hoI'⟩ := id hst₁.1
    have zI₂ : h₂.get? I = some oI := hs₂.extBut _ _ (Ne.symm hCI) hoI
    refine wpAny_bind (wpAny_Constant_str ?_)
    refine wpAny_bind (wpAny_standAt (wpAny_bind (wpAny_of_eq rfl ?_)))
    refine wpAny_bind (wpAny_holding (wpAny_pyIter_strU ?_))
    dsimp only
    generalize hoJ : ({ cls := .type (strIterType sg), data := .fields #[.str sg (tk₁ + 1), .int 0 0] } : Obj) = oJ
    have ltI : I < h₂.objs.size := Heap.lt_size zI₂
    have ltD : D < h₂.objs.size := Heap.lt_size (N₂ _ List.mem_cons_self).1
    have ltC : C < h₂.objs.size := hn₂.lt
    have ltL : L < h₂.objs.size := F₂.ns.lt
    have neS : ∀ b, b < h₂.objs.size → b ≠ h₂.objs.size := fun b hb => Nat.ne_of_lt hb
    have up : ∀ b o, h₂.get? b = some o → (h₂.push oJ).get? b = some o := fun b o e => Heap.get?_push_of_some _ e
    have N₃ : News h₀ L (h₂.push oJ) ((I, oI) :: (D, LCg.lst ys) :: news) := fun p hp => by
      rcases List.mem_cons.mp hp with rfl | hp
      · exact ⟨up _ _ zI₂, hIL, hI₀⟩
      · exact ⟨up _ _ (N₂ p hp).1, (N₂ p hp).2⟩
    have stJ : (h₂.push oJ).IsStrIter h₂.objs.size (strIterType sg) sg (tk₁ + 1) 0 := ⟨oJ, by rw [← hoJ]; exact Heap.get?_push_size _ rfl, by rw [← hoJ], by rw [← hoJ]; rfl⟩
    have hacc : (flatW sg (ws.take i)).length + sg.cps.size ≤ sizeLine := by
      rw [flatW_len, List.length_take, Nat.min_eq_left hi, ← Nat.succ_mul]
      exact Nat.le_trans (Nat.mul_le_mul_right _ hlt) hsz
    have inner : ∀ R' : Result → Shared → Prop, (∀ h' tk m' ys', Fr h₀ L h' m → News h₀ L h' ((I, oI) :: (D, LCg.lst ys') :: news) → h'.Ns C m' → StrsAre ys' (flatW sg (ws.take i) ++ sg.cps.toList.map fun c => k ++ (⟨#[c]⟩ : Str)) → R' (.ok .next) { s with heap := h', toks := tk }) →
        codeAny (model prog w) A (.compLoop (nestE elt itx x y px py ps kk sg scope pos) 1 (.ref h₂.objs.size) (.ref D) (compEnvC scope cl C env)) R' { s with heap := h₂.push oJ, toks := tk₁ + 1 + 1 } := fun R' hR' =>
      nest_inner (t1 := t1) (s := { s with heap := h₂.push oJ, toks := tk₁ + 1 + 1 }) hh hkind hx hy hxy (List.mem_of_getElem? hk) turn hCL hDL (Ne.symm (neS L ltL)) (neS I ltI) hCI hDI hCD (neS C ltC) (neS D ltD) hC₀ hD₀ (next_is_new F₂)
        (fun p hp => ⟨neS _ (Heap.lt_size (N₂ p (List.mem_cons_of_mem _ hp)).1), (off3 p hp).2.1, (off3 p hp).2.2⟩) stJ (F₂.keeps up) N₃ (hn₂.at' fun o e => up _ _ e) (by simp) hys hacc hR'
    have key : ∀ R' : Result → Shared → Prop, (∀ h' tk m' ys', Fr h₀ L h' m → News h₀ L h' ((I, oI) :: (D, LCg.lst ys') :: news) → h'.Ns C m' → StrsAre ys' (flatW sg (ws.take i) ++ sg.cps.toList.map fun c => k ++ (⟨#[c]⟩ : Str)) → R' (.ok .next) { s with heap := h', toks := tk }) →
        codeAny (model prog w) A (.compStart (nestE elt itx x y px py ps kk sg scope pos) 1 (.ref h₂.objs.size) (.ref D) (compEnvC scope cl C env)) R' { s with heap := h₂.push oJ, toks := tk₁ + 1 + 1 } := fun R' hR' =>
      nestStart (inner R' hR') ((walks_strU (prog := prog) (w := w) hh h₂.objs.size sg (tk₁ + 1)).self 0 _ _ _ stJ (inner R' hR'))
    refine wpAny_bind (wpAny_runOwn ?_)
    refine key _ ?_
    intro h₄ tk₄ m₄ ys₄ F₄ N₄ hn₄ hys₄
    have zI := (N₄ (I, oI) List.mem_cons_self).1
    have N₅ : News h₀ L h₄ ((D, LCg.lst ys₄) :: news) := fun p hp => N₄ p (List.mem_cons_of_mem _ hp)
    refine wpAny_pure ⟨rfl, ws.length + 1 - (i + 1), by omega, h₄, tk₄, i + 1, ys₄, m₄, rfl, hlt, rfl, ⟨⟨oI, zI, hoI'⟩, hS.list F₄.keep (fun p hp => N₅ p (List.mem_cons_of_mem _ hp))⟩, F₄, N₅, hn₄, ?_⟩
    rw [List.take_add_one, hk]
    show StrsAre ys₄ (flatW sg (ws.take i ++ [k]))
    rw [flatW_snoc]
    exact hys₄
  · obtain rfl : i = ws.length := Nat.le_antisymm hi (Nat.not_lt.mp hlt)
    refine W.done _ _ _ (by rw [hlen]; exact hst') fun h₁ tk₁ hk₁ => ?_
    dsimp only
    refine wpAny_pure (hR h₁ tk₁ m' ys (LCg.fr_but F' hk₁ (Ne.symm hIL) hI₀) (LCg.news_but N' hk₁ fun p hp => ?_) (hn'.at' fun o e => hk₁ C o (by simpa using hCI) e) ?_)
    · rcases List.mem_cons.mp hp with rfl | hp
      · exact hDI
      · exact (off3 p hp).1
    · rw [List.take_length] at hys
      exact hys
end
end Mine
namespace Mine
section
variable {prog : Program} {w : World} {A : Around} {E : Value → Shared → Prop} {s : Shared} {h₀ : Heap} {L : Addr} {m : Str → Option Value} {env : Env} {elt itx : Expr} {x y z : Str} {px py pz ps : Pos} {kk : Nat} {scope : Scope} {cl : List (Str × Addr)} {pos spos : Pos} {sg : Str}

def NSrc (prog : Program) (w : World) (A : Around) (h₀ : Heap) (L : Addr) (m : Str → Option Value) (env : Env) (elt : Expr) (x y z : Str) (scope : Scope) (cl : List (Str × Addr)) (sg : Str) (Q : Flow → Shared → Prop) (xv : Value) (s₁ : Shared) : Prop :=
  ∃ ax vs ws news, xv = .ref ax ∧ A.handled = none ∧ Fr h₀ L s₁.heap m ∧ News h₀ L s₁.heap news ∧ LCg.SrcAt h₀ ax (vs : List Value).toArray news ∧ StrsAre vs ws ∧ ws.length * sg.cps.size ≤ sizeLine ∧ NestTurn prog w A h₀ L m env elt x y scope cl s₁ ws sg news ∧
    ∀ D h tk ys, Fr h₀ L h (fun u => if u = z then some (.ref D) else m u) → News h₀ L h ((D, LCg.lst ys) :: news) → (∀ p ∈ news, p.1 < D) → StrsAre ys (flatW sg ws) → Q .next { s₁ with heap := h, toks := tk }

theorem NSrc.intro {Q : Flow → Shared → Prop} {ax : Addr} {vs : List Value} {ws : List Str} {news : List (Addr × Obj)} {k : Nat} {s₁ : Shared}
    (hh : A.handled = none) (F : Fr h₀ L s₁.heap m) (N : News h₀ L s₁.heap news) (hm : (ax, ({ cls := .type "list", data := .seq (vs : List Value).toArray k } : Obj)) ∈ news) (hv : StrsAre vs ws) (hsz : ws.length * sg.cps.size ≤ sizeLine)
    (turn : NestTurn prog w A h₀ L m env elt x y scope cl s₁ ws sg news)
    (fin : ∀ D h tk ys, Fr h₀ L h (fun u => if u = z then some (.ref D) else m u) → News h₀ L h ((D, LCg.lst ys) :: news) → (∀ p ∈ news, p.1 < D) → StrsAre ys (flatW sg ws) → Q .next { s₁ with heap := h, toks := tk }) :
    NSrc prog w A h₀ L m env elt x y z scope cl sg Q (.ref ax) s₁ := ⟨ax, vs, ws, news, rfl, hh, F, N, .inr ⟨_, hm, rfl, _, rfl⟩, hv, hsz, turn, fin⟩

theorem Assign_ListComp_N {Q : Flow → Shared → Prop} (_F₀ : Fr h₀ L s.heap m) (hLe : env.locals = L)
    (hsw : swapsWith (nestE elt itx x y px py ps kk sg scope pos) (some (.Name z pz)) spos.line env = pure true)
    (hclos : closureFor scope env = pure cl) (hcell : ∀ u ∈ scope.names, u.2 ≠ .cell) (hkind : scope.kind = .function)
    (hnames : ∀ u ∈ scope.names, u.2 = .local → scope.names.lookup u.1 = some .local) (hx : scope.names.lookup x = some .local) (hy : scope.names.lookup y = some .local) (hxy : x ≠ y)
    (hz : env.kindOf z = some .local) (hp : (env.scope.kind == .class || (env.scope.kind == .module && env.locals != env.globals)) = false)
    (h : wpAny (model prog w) A (eval itx env) (NSrc prog w A h₀ L m env elt x y z scope cl sg Q) E s)
    (hs : ∀ x, foldedSetIterable itx env x = pure x := by intro _; rfl) :
    wpAny (model prog w) A (exec (.Assign [.Name z pz] (nestE elt itx x y px py ps kk sg scope pos) spos) env) Q E s := by
  subst hLe
  rw [exec_Assign_Name_used _ _ _ _ hsw]
  refine wpAny_bind (wpAny_standAt (wpAny_bind ?_))
  show wpAny _ A (do let _ ← comprehension (nestE elt itx x y px py ps kk sg scope pos) scope env _ (newList []) false (eval itx env) (some (assign (.Name z pz) env))) _ _ s
  refine wpAny_bind (wpAny_mono (wpAny_comprehension_free (use := some (assign (.Name z pz) env)) (Q := fun _ s' => Q .next s') rfl hs hclos hkind hnames
    (wpAny_mono h (fun xv s₁ h₁ => ?_) fun _ _ e => e)) (fun _ s' hq => wpAny_pure (wpAny_pure hq)) fun _ _ e => e)
  obtain ⟨ax, vs, ws, news, rfl, hh, F, N, S, hv, hsz, turn, fin⟩ := h₁
  have hl := S.list F.keep N
  have hlt : ax < s₁.heap.objs.size := by obtain ⟨_, e, _⟩ := hl; exact Heap.lt_size e
  refine wpAny_pyIter_list hl ?_
  have up : ∀ b o, s₁.heap.get? b = some o → (s₁.heap.push { cls := .type "list_iterator", data := .fields #[.ref ax, .int 0 0] }).get? b = some o := fun b o e => Heap.get?_push_of_some _ e
  have hI₀ : h₀.get? s₁.heap.objs.size = none := next_is_new F
  have hitI : (s₁.heap.push { cls := .type "list_iterator", data := .fields #[.ref ax, .int 0 0] }).IsListIter s₁.heap.objs.size ax 0 := ⟨_, Heap.get?_push_size _ rfl, rfl, rfl⟩
  have F₂ := F.keeps up
  have N₂ := N.grown up
  have hl₂ : (s₁.heap.push { cls := .type "list_iterator", data := .fields #[.ref ax, .int 0 0] }).IsList ax vs.toArray := hl.push _
  have szI : (s₁.heap.push { cls := .type "list_iterator", data := .fields #[.ref ax, .int 0 0] }).objs.size = s₁.heap.objs.size + 1 := Heap.size_push ..
  generalize hH1 : s₁.heap.push { cls := .type "list_iterator", data := .fields #[.ref ax, .int 0 0] } = H1 at up hitI F₂ N₂ hl₂ szI ⊢
  refine wpAny_newObj_type (wpAny_newFunctionEnv hcell (by intro y hy; simp at hy) (fun h₁ hns₁ hsb₁ => ?_) hkind)
  dsimp only at hns₁ hsb₁ ⊢
  generalize hH2 : H1.push { cls := .type "list", dict := none, data := .seq ([] : List Value).toArray } = H2 at hns₁ hsb₁ ⊢
  have hC : H2.objs.size = H1.objs.size + 1 := by rw [← hH2, Heap.size_push]
  have hDC : H1.objs.size ≠ H2.objs.size := by rw [hC]; exact Nat.ne_of_lt (Nat.lt_succ_self _)
  have below : ∀ b, b < H1.objs.size → b ≠ H2.objs.size ∧ b ≠ H1.objs.size := fun b hb => ⟨by rw [hC]; exact Nat.ne_of_lt (Nat.lt_succ_of_lt hb), Nat.ne_of_lt hb⟩
  have old : ∀ b o, H1.get? b = some o → h₁.get? b = some o := fun b o e => hsb₁.extBut b o (below b (Heap.lt_size e)).1 (Heap.get?_push_of_some _ (hH2 ▸ Heap.get?_push_of_some _ e))
  have hacc : h₁.get? H1.objs.size = some (LCg.lst []) := hsb₁.extBut _ _ hDC (Heap.get?_push_of_some _ (hH2 ▸ Heap.get?_push_size _ rfl))
  have fresh₀ : ∀ a, H1.objs.size ≤ a → h₀.get? a = none := fun a ha => by
    cases e : h₀.get? a with
    | none => rfl
    | some o' => exact absurd (Heap.lt_size (F₂.keep a o' e)) (Nat.not_lt.mpr ha)
  have hLlt : env.locals < H1.objs.size := F₂.ns.lt
  have hIlt : s₁.heap.objs.size < H1.objs.size := by rw [szI]; exact Nat.lt_succ_self _
  have hD₀ : h₀.get? H1.objs.size = none := fresh₀ _ (Nat.le_refl _)
  have hC₀ : h₀.get? H2.objs.size = none := fresh₀ _ (by rw [hC]; exact Nat.le_succ _)
  have hDL : H1.objs.size ≠ env.locals := Ne.symm (below _ hLlt).2
  have hCL : H2.objs.size ≠ env.locals := Ne.symm (below _ hLlt).1
  have hNlt : ∀ p ∈ news, p.1 < s₁.heap.objs.size := fun p hp => Heap.lt_size (N p hp).1
  have off₀ : LCg.Off3 s₁.heap.objs.size H2.objs.size H1.objs.size news := LCg.Off3.of fun p hp => ⟨Nat.ne_of_lt (hNlt p hp), (below _ (Nat.lt_trans (hNlt p hp) hIlt)).1, (below _ (Nat.lt_trans (hNlt p hp) hIlt)).2⟩
  have loop : ∀ (R : Result → Shared → Prop) (tk : Nat), (∀ h' tk m' ys, Fr h₀ env.locals h' m → News h₀ env.locals h' ((H1.objs.size, LCg.lst ys) :: news) → h'.Ns H2.objs.size m' → StrsAre ys (flatW sg ws) → R (.ok .next) { s₁ with heap := h', toks := tk }) →
      codeAny (model prog w) A (.compLoop (nestE elt itx x y px py ps kk sg scope pos) 0 (.ref s₁.heap.objs.size) (.ref H1.objs.size) (compEnvC scope cl H2.objs.size env)) R { s₁ with heap := h₁, toks := tk } := fun R tk hR =>
    nest_outer (s := { s₁ with heap := h₁, toks := tk }) hh hkind hx hy hxy hv turn hCL hDL (Ne.symm (Nat.ne_of_lt F.ns.lt)) (Ne.symm (below _ hIlt).1) (Ne.symm (below _ hIlt).2) (Ne.symm hDC) hC₀ hD₀ hI₀ off₀ S (Nat.ne_of_lt hlt)
      ⟨by obtain ⟨o, e, r⟩ := hitI; exact ⟨o, old _ _ e, r⟩, by obtain ⟨o, e, r⟩ := hl₂; exact ⟨o, old _ _ e, r⟩⟩ (F₂.keeps old) (fun p hp => by
        rcases List.mem_cons.mp hp with rfl | hp
        · exact ⟨hacc, hDL, hD₀⟩
        · exact ⟨old _ _ (N₂ p hp).1, (N₂ p hp).2⟩) hns₁ hsz hR
  have key : ∀ (R : Result → Shared → Prop) (tk : Nat), (∀ h' tk m' ys, Fr h₀ env.locals h' m → News h₀ env.locals h' ((H1.objs.size, LCg.lst ys) :: news) → h'.Ns H2.objs.size m' → StrsAre ys (flatW sg ws) → R (.ok .next) { s₁ with heap := h', toks := tk }) →
      codeAny (model prog w) A (.compStart (nestE elt itx x y px py ps kk sg scope pos) 0 (.ref s₁.heap.objs.size) (.ref H1.objs.size) (compEnvC scope cl H2.objs.size env)) R { s₁ with heap := h₁, toks := tk } := fun R tk hR =>
    codeAny_compStart_list (loop R tk hR) ((Walks.list (prog := prog) (w := w) hh s₁.heap.objs.size ax (Nat.ne_of_lt hlt) vs.toArray).self 0 _ _ _ ⟨by obtain ⟨o, e, r⟩ := hitI; exact ⟨o, old _ _ e, r⟩, by obtain ⟨o, e, r⟩ := hl₂; exact ⟨o, old _ _ e, r⟩⟩ (loop R tk hR))
  refine key _ _ ?_
  intro h' tk m' ys F' N' hn hys
  show wpAny _ A (assign (.Name z pz) env (.ref H1.objs.size)) _ _ _
  refine wpAny_assign_Name (wpAny_storeName_local hz F'.ns (fun h₂ hn₂ hs₂ => ?_) hp)
  have hL₀ : h₀.get? env.locals = none := Heap.get?_none_of_le F'.above
  have F₃ : Fr h₀ env.locals h₂ (fun u => if u = z then some (.ref H1.objs.size) else m u) := ⟨hn₂, fun b o e => hs₂.extBut b o (fun q => by rw [q, hL₀] at e; cases e) (F'.keep b o e), F'.above⟩
  have off3 := off₀.mem
  refine ⟨m', hn.sameBut hs₂ hCL, fun h'' hs'' => fin H1.objs.size h'' _ ys (F₃.change hs'' hCL hC₀) (fun p hp => ?_) (fun p hp => Nat.lt_trans (hNlt p hp) hIlt) hys⟩
  have zz : h₂.get? p.1 = some p.2 := hs₂.extBut _ _ (N' p hp).2.1 (N' p hp).1
  refine ⟨hs''.extBut _ _ ?_ zz, (N' p hp).2⟩
  rcases List.mem_cons.mp hp with rfl | hp
  · exact hDC
  · exact (off3 p hp).2.1
end
end Mine
namespace Mine
def bitStr (b : Int) : Str := ⟨#[if b = 0 then 65 else 66]⟩
section
variable {prog : Program} {w : World} {A : Around} {h₀ : Heap} {L : Addr} {m : Str → Option Value} {env : Env} {elt : Expr} {x : Str} {scope : Scope} {cl : List (Str × Addr)} {s : Shared} {P : Nat → Value → Prop} {Fin : List Value → List (Addr × Obj) → Prop} {R : List (Addr × Obj)} {bagL sl : Addr} {nb : Nat}
def DrawEnd (h₀ : Heap) (L : Addr) (m : Str → Option Value) (s : Shared) (I : Addr) (oI : Obj) (C : Addr) (oC : Obj) (D : Addr) (ys : List Value) (bagL sl : Addr) (nb : Nat) (j : Int) (R : List (Addr × Obj)) (yv : Value) (s' : Shared) : Prop :=
  ∃ b t tj' h' tk', (b = 0 ∨ b = 1) ∧ yv = .str (bitStr b) t ∧ s' = { s with heap := h', toks := tk' } ∧ Fr h₀ L h' m ∧ News h₀ L h' ((I, oI) :: (C, oC) :: (D, LCg.lst ys) :: (bagL, listOf #[.ref sl, .int (j + 1) tj'] nb) :: R)
theorem DrawEnd.intro {I C D : Addr} {oI oC : Obj} {ys : List Value} {j : Int} {x : Str} {t tj' : Tok} {h' : Heap} {tk' : Nat} {all : List (Addr × Obj)} (b : Int) (hb : b = 0 ∨ b = 1) (hx : x = bitStr b) (F : Fr h₀ L h' m) (N : News h₀ L h' all) (hN : (I, oI) :: (C, oC) :: (D, LCg.lst ys) :: (bagL, listOf #[.ref sl, .int (j + 1) tj'] nb) :: R = all) :
    DrawEnd h₀ L m s I oI C oC D ys bagL sl nb j R (.str x t) { s with heap := h', toks := tk' } := ⟨b, t, tj', h', tk', hb, by rw [hx], rfl, F, hN ▸ N⟩
def MySrc (prog : Program) (w : World) (A : Around) (h₀ : Heap) (L : Addr) (m : Str → Option Value) (env : Env) (elt : Expr) (x : Str) (scope : Scope) (cl : List (Str × Addr)) (Fin : Shared → List Value → List (Addr × Obj) → Prop) (xv : Value) (s₁ : Shared) : Prop := LCg.CompSrc prog w A h₀ L m env elt x scope cl Fin xv s₁
theorem ListComp_M {E : Value → Shared → Prop} {iter : Expr} {px : Pos} {pos : Pos} {Q : Value → Shared → Prop} (F₀ : Fr h₀ L s.heap m)
    (hclos : closureFor scope env = pure cl) (hcell : ∀ y ∈ scope.names, y.2 ≠ .cell) (hkind : scope.kind = .function)
    (hnames : ∀ y ∈ scope.names, y.2 = .local → scope.names.lookup y.1 = some .local) (hx : scope.names.lookup x = some .local)
    (h : wpAny (model prog w) A (eval iter env) (MySrc prog w A h₀ L m env elt x scope cl (fun s₂ => LCg.FinE h₀ L m s₂ Q)) E s)
    (hs : ∀ x, foldedSetIterable iter env x = pure x := by intro _; rfl) :
    wpAny (model prog w) A (eval (.ListComp elt [⟨.Name x px, iter, [], 0⟩] scope pos) env) Q E s := LCg.ListComp_U F₀ hclos hcell hkind hnames hx h hs
theorem comp_draws {n : Nat} {j0 : Int} {t0 : Tok} (h0 : 0 ≤ j0) (hj : j0 + (n : Int) ≤ 10)
    (turn : ∀ (j : Int) (tj : Tok) I oI C oC D m₂ ys h tk (E' : Value → Shared → Prop), 0 ≤ j → j < 10 → LCg.NsObj oC m₂ → Fr h₀ L h m → News h₀ L h ((I, oI) :: (C, oC) :: (D, LCg.lst ys) :: (bagL, listOf #[.ref sl, .int j tj] nb) :: R) → LCg.Off3 I C D ((bagL, listOf #[.ref sl, .int j tj] nb) :: R) → ((@Ne Nat I C) ∧ (@Ne Nat I D) ∧ (@Ne Nat C D)) →
      wpAny (model prog w) A (eval elt (compEnvC scope cl C env)) (DrawEnd h₀ L m s I oI C oC D ys bagL sl nb j R) E' { s with heap := h, toks := tk })
    (fin : ∀ (ys : List Value) (bits : List Int) j tj, bits.length = n → (∀ b ∈ bits, b = 0 ∨ b = 1) → StrsAre ys (bits.map bitStr) → Fin ys ((bagL, listOf #[.ref sl, .int j tj] nb) :: R)) :
    LCg.CompRest prog w A h₀ L m env elt x scope cl s (fun _ => True) P Fin n 0 [] ((bagL, listOf #[.ref sl, .int j0 t0] nb) :: R) := by
  have key : ∀ (k i : Nat) (ys : List Value) (bits : List Int) (j : Int) (tj : Tok), i + k = n → bits.length = i → j = j0 + (i : Int) → (∀ b ∈ bits, b = 0 ∨ b = 1) → StrsAre ys (bits.map bitStr) →
      LCg.CompRest prog w A h₀ L m env elt x scope cl s (fun _ => True) P Fin k i ys ((bagL, listOf #[.ref sl, .int j tj] nb) :: R) := by
    intro k
    induction k with
    | zero =>
      intro i ys bits j tj hi hb _ hbits hys
      exact LCg.CompRest.zero (fin ys bits j tj (by omega) hbits hys)
    | succ k ih =>
      intro i ys bits j tj hi hb hj' hbits hys
      refine LCg.CompRest.succ ?_
      intro v I oI C oC D m₂ h tk E' _ hC _ F N off ne
      refine wpAny_mono (turn j tj I oI C oC D m₂ ys h tk E' (by omega) (by omega) hC F N off ne) (fun yv s₂ hq => ?_) fun _ _ e => e
      obtain ⟨b, t, tj', h', tk', hb01, rfl, rfl, F', N'⟩ := hq
      refine ⟨h', tk', _, rfl, F', N', ⟨off.1, off.2⟩, trivial, ?_⟩
      refine ih (i + 1) _ (bits ++ [b]) (j + 1) tj' (by omega) (by simp [hb]) (by omega) ?_ ?_
      · intro c hc
        rcases List.mem_append.mp hc with h | h
        · exact hbits c h
        · rw [List.mem_singleton.mp h]; exact hb01
      · rw [List.map_append]
        exact kct_snoc hys
  exact key n 0 [] [] j0 t0 (by omega) rfl (by omega) (fun _ h => nomatch h) .nil
theorem join_bits {ys : List Value} {bits : List Int} {D : Addr} {k : Nat} {t : Tok} {news : List (Addr × Obj)} {E : Value → Shared → Prop} {Q : Value → Shared → Prop} (N : News h₀ L s.heap news) (hm : (D, LCg.lst ys) ∈ news) (hys : StrsAre ys (bits.map bitStr)) (hb : bits.length = k) (hk : k ≤ 10)
    (h : ∀ t' tk', Q (.str (Txt.join (Str.ofString "") (bits.map bitStr)) t') { s with toks := tk' }) :
    wpAny (model prog w) A (call (.builtin "str.join") [.str (Str.ofString "") t, .ref D]) Q E s := by
  have hs : ((bits.map bitStr).map (·.length)).sum ≤ 1 * bits.length := sumLen_le_of_bound bitStr 1 bits (fun _ _ => Nat.le_of_ble_eq_true rfl)
  have e0 : (Str.ofString "").length = 0 := by decide +kernel
  refine join_list (News.isList N hm) (by simpa using hys) ?_ h
  rw [e0]; omega
end
end Mine
namespace Mine
section
variable {prog : Program} {w : World} {A : Around} {h₀ : Heap} {L : Addr} {m : Str → Option Value} {env : Env} {elt ct : Expr} {x : Str} {px : Pos} {scope : Scope} {cl : List (Str × Addr)} {s : Shared} {S : List (Addr × Obj) → Prop} {Fin : List Value → List (Addr × Obj) → Prop} {news : List (Addr × Obj)}
theorem comp_ints {ws : List Int} {vs : List Value} (g : Int → Int) (hv : IntsAre vs ws)
    (turn : ∀ k t I oI C oC D m₂ ys h tk (E' : Value → Shared → Prop), k ∈ ws → LCg.NsObj oC m₂ → m₂ x = some (.int k t) → Fr h₀ L h m → News h₀ L h ((I, oI) :: (C, oC) :: (D, LCg.lst ys) :: news) → LCg.Off3 I C D news → ((@Ne Nat I C) ∧ (@Ne Nat I D) ∧ (@Ne Nat C D)) →
      wpAny (model prog w) A (eval elt (compEnvC scope cl C env)) (LCg.CompEnd h₀ L m { s with heap := h, toks := tk } I oI C oC D (LCg.lst ys) S (fun y news' => KCfEl news (g k) y news')) E' { s with heap := h, toks := tk })
    (fin : ∀ ys, IntsAre ys (ws.map g) → Fin ys news) : LCg.CompRest prog w A h₀ L m env elt x scope cl s S (fun i v => vs.toArray[i]? = some v) Fin vs.toArray.size 0 [] news := by
  have key : ∀ (j i : Nat) (ys : List Value), i + j = ws.length → IntsAre ys ((ws.take i).map g) → LCg.CompRest prog w A h₀ L m env elt x scope cl s S (fun i v => vs.toArray[i]? = some v) Fin j i ys news := by
    intro j
    induction j with
    | zero =>
      intro i ys hi hy
      have e : i = ws.length := by omega
      subst e
      rw [List.take_length] at hy
      exact LCg.CompRest.zero (fin ys hy)
    | succ j ih =>
      intro i ys hi hy
      refine LCg.CompRest.succ ?_
      intro v I oI C oC D m₂ h tk E' hv' hC hx F N off ne
      obtain ⟨k, t, e, hk⟩ := IntsAre.at hv i v (by simpa using hv')
      rw [e] at hx
      refine wpAny_mono (turn k t I oI C oC D m₂ ys h tk E' (List.mem_of_getElem? hk) hC hx F N off ne) (fun y s₂ hq => ?_) fun _ _ e => e
      obtain ⟨h', tk', nw, e, F', N', off', hS, hn, t', hy'⟩ := hq
      rw [hn] at N' off' hS
      refine ⟨h', tk', news, e, F', N', off', hS, ?_⟩
      rw [hy']
      refine ih (i + 1) _ (by omega) ?_
      rw [List.take_add_one, hk]
      simpa using IntsAre.append hy (.cons (g k) t' .nil)
  have e : vs.toArray.size = ws.length := by rw [List.size_toArray]; exact hv.length
  rw [e]
  exact key ws.length 0 [] (by omega) (by simp only [List.take_zero, List.map_nil]; exact .nil)

theorem comp_filterR {a : Int} {n : Nat} (p : Int → Bool)
    (turn : ∀ k t I oI C oC D m₂ ys h tk (E' : Value → Shared → Prop), a ≤ k → k < a + (n : Int) → LCg.NsObj oC m₂ → m₂ x = some (.int k t) → Fr h₀ L h m → News h₀ L h ((I, oI) :: (C, oC) :: (D, LCg.lst ys) :: news) → LCg.Off3 I C D news → ((@Ne Nat I C) ∧ (@Ne Nat I D) ∧ (@Ne Nat C D)) →
      wpAny (model prog w) A (isTrue ct (compEnvC scope cl C env) (eval ct (compEnvC scope cl C env))) (fun ok s' => ok = p k ∧ ∃ h' tk', s' = { s with heap := h', toks := tk' } ∧ Fr h₀ L h' m ∧ News h₀ L h' ((I, oI) :: (C, oC) :: (D, LCg.lst ys) :: news)) E' { s with heap := h, toks := tk })
    (fin : ∀ ys, IntsAre ys ((rangeKs a n).filter p) → Fin ys news)
    (hkd : ∀ C, (compEnvC scope cl C env).scope.kind = .function) (hxk : ∀ C, (compEnvC scope cl C env).kindOf x = some .local) (hd : (x == ("__debug__" : Str)) = false) :
    LCt.CompRestT prog w A h₀ L m env ct (.Name x px) x scope cl s (fun _ => True) (fun i v => ∃ t, v = .int (a + (i : Int)) t) Fin n 0 [] news := by
  have key : ∀ (j i : Nat) (ys : List Value), i + j = n → IntsAre ys (((rangeKs a n).take i).filter p) → LCt.CompRestT prog w A h₀ L m env ct (.Name x px) x scope cl s (fun _ => True) (fun i v => ∃ t, v = .int (a + (i : Int)) t) Fin j i ys news := by
    intro j
    induction j with
    | zero =>
      intro i ys hi hy
      rw [List.take_of_length_le (by rw [rangeKs_length]; omega)] at hy
      exact LCt.CompRestT.zero (fin ys hy)
    | succ j ih =>
      intro i ys hi hy
      refine LCt.CompRestT.succ ?_
      intro v I oI C oC D m₂ h tk E' hv' hC hx F N off ne
      obtain ⟨t, rfl⟩ := hv'
      have hi2 : i < n := by omega
      have hk : (rangeKs a n)[i]? = some (a + (i : Int)) := by simp [rangeKs, hi2]
      refine wpAny_mono (turn _ t I oI C oC D m₂ ys h tk E' (by omega) (by omega) hC hx F N off ne) (fun ok s₂ hq => ?_) fun _ _ e => e
      obtain ⟨rfl, h', tk', rfl, F', N'⟩ := hq
      cases hp : p (a + (i : Int)) with
      | true =>
        simp only [if_true]
        refine LCgL.ld_own N' (List.mem_cons_of_mem _ List.mem_cons_self) hC hx ?_ (hkd C) (hxk C) hd
        refine ⟨h', tk', news, rfl, F', N', off, trivial, ?_⟩
        refine ih (i + 1) _ (by omega) ?_
        rw [List.take_add_one, hk, List.filter_append]
        simpa [hp] using IntsAre.append hy (.cons _ t .nil)
      | false =>
        simp only [Bool.false_eq_true, if_false]
        refine ⟨h', tk', news, rfl, F', N', off, trivial, ?_⟩
        refine ih (i + 1) _ (by omega) ?_
        rw [List.take_add_one, hk, List.filter_append]
        simpa [hp] using hy
  exact key n 0 [] (by omega) (by simp only [List.take_zero, List.filter_nil]; exact .nil)
def MySrcT (prog : Program) (w : World) (A : Around) (h₀ : Heap) (L : Addr) (m : Str → Option Value) (env : Env) (ct elt : Expr) (x : Str) (scope : Scope) (cl : List (Str × Addr)) (Fin : Shared → List Value → List (Addr × Obj) → Prop) (xv : Value) (s₁ : Shared) : Prop := LCt.CompSrcT prog w A h₀ L m env ct elt x scope cl Fin xv s₁
theorem Assign_ListComp_TM {E : Value → Shared → Prop} {iter : Expr} {y : Str} {py : Pos} {pos spos : Pos} {Q : Flow → Shared → Prop} (F₀ : Fr h₀ L s.heap m) (hLe : env.locals = L)
    (hsw : swapsWith (.ListComp elt [⟨.Name x px, iter, [ct], 0⟩] scope pos) (some (.Name y py)) spos.line env = pure true)
    (hclos : closureFor scope env = pure cl) (hcell : ∀ z ∈ scope.names, z.2 ≠ .cell) (hkind : scope.kind = .function)
    (hnames : ∀ z ∈ scope.names, z.2 = .local → scope.names.lookup z.1 = some .local) (hx : scope.names.lookup x = some .local)
    (hy : env.kindOf y = some .local) (hp : (env.scope.kind == .class || (env.scope.kind == .module && env.locals != env.globals)) = false)
    (h : wpAny (model prog w) A (eval iter env) (MySrcT prog w A h₀ L m env ct elt x scope cl (fun s₂ => LCg.FinA h₀ L m s₂ y Q)) E s)
    (hs : ∀ x, foldedSetIterable iter env x = pure x := by intro _; rfl) :
    wpAny (model prog w) A (exec (.Assign [.Name y py] (.ListComp elt [⟨.Name x px, iter, [ct], 0⟩] scope pos) spos) env) Q E s := LCt.Assign_ListComp_T F₀ hLe hsw hclos hcell hkind hnames hx hy hp h hs
end
section
variable {prog : Program} {w : World} {A : Around} {E : Value → Shared → Prop} {s : Shared} {env : Env} {h₀ : Heap} {x : Str} {px : Pos} {body : List Stmt} {Q : Flow → Shared → Prop}
def Jmany (m₀ : Str → Option Value) (g : Obj → List (Addr × Obj)) (m : Str → Option Value) (nw : List (Addr × Obj)) : Prop := m = m₀ ∧ ∃ o v, nw = g o ∧ Obj.data o = .cell v
theorem turns_many {r : Addr} {b₀ : Int} {t₀ u₀ v₀ : Tok} {n : Nat} {m₀ : Str → Option Value} {all : List (Addr × Obj)} {g : Obj → List (Addr × Obj)} {c : Addr} {oM : Obj} {vM : Option Value}
    (hh : A.handled = none) (hr : IsRange s.heap r 0 b₀ 1 t₀ u₀ v₀) (hsmall : Builtin.Range.small 0 b₀ 1 = true) (hn : Builtin.Range.rangeSize 0 b₀ 1 = (n : Int)) (F : Fr h₀ env.locals s.heap m₀) (N : News h₀ env.locals s.heap all)
    (hd : oM.data = .cell vM) (_hm : (c, oM) ∈ all) (U : UpdF c oM all g)
    (turn : ∀ i t o v I oI h tk, i < n → Obj.data o = .cell v → (∀ o', ∀ p ∈ g o', p.1 ≠ I) → Fr h₀ env.locals h m₀ → News h₀ env.locals h ((I, oI) :: g o) →
      wpAny (model prog w) A (assign (.Name x px) env (.int (0 + (i : Int)) t)) (fun _ s₃ => wpAny (model prog w) A (execs body env) (TurnPostR h₀ env.locals I oI (Jmany m₀ g) s Q) E s₃) E { s with heap := h, toks := tk })
    (done : ∀ o v h tk, Obj.data o = .cell v → Fr h₀ env.locals h m₀ → News h₀ env.locals h (g o) → Q .next { s with heap := h, toks := tk }) :
    wpAny (model prog w) A (pyIter (.ref r)) (fun it s₂ => TurnsAt prog w A h₀ env (.Name x px) body Q E it s₂) E s := by
  have hg : all = g oM := by
    obtain ⟨pre, post, h1, h2, _, _⟩ := U.split
    rw [h1, h2]
  refine turns_range (fun _ => Jmany m₀ g) hh hr hsmall hn F N ⟨rfl, oM, vM, hg, hd⟩ ?_ ?_
  · rintro i t m₁ news₁ I oI h tk hi ⟨rfl, o, v, rfl, ho⟩ hoff F₁ N₁
    refine turn i t o v I oI h tk hi ho (fun o' p hp => ?_) F₁ N₁
    obtain ⟨pre, post, _, h2, _, _⟩ := U.split
    rw [h2] at hp hoff
    rcases List.mem_append.mp hp with h | h
    · exact hoff p (List.mem_append_left _ h)
    · rcases List.mem_cons.mp h with h | h
      · rw [h]; exact hoff (c, o) (List.mem_append_right _ List.mem_cons_self)
      · exact hoff p (List.mem_append_right _ (List.mem_cons_of_mem _ h))
  · rintro m₁ news₁ h tk ⟨rfl, o, v, rfl, ho⟩ F₁ N₁
    exact done o v h tk ho F₁ N₁
theorem TurnPostR.many {I : Addr} {oI o : Obj} {m₀ : Str → Option Value} {g : Obj → List (Addr × Obj)} {h' : Heap} {tk' : Nat} {all : List (Addr × Obj)} {v : Option Value} {L : Addr} (F : Fr h₀ L h' m₀) (N : News h₀ L h' all) (sub : ∀ p ∈ (I, oI) :: g o, p ∈ all) (hoff : ∀ o', ∀ p ∈ g o', p.1 ≠ I) (hd : Obj.data o = .cell v) :
    TurnPostR h₀ L I oI (Jmany m₀ g) s Q .next { s with heap := h', toks := tk' } := ⟨h', tk', m₀, g o, rfl, F, fun p hp => N p (sub p hp), hoff o, rfl, o, v, rfl, hd⟩
end
theorem off1_of {D : Addr} : ∀ {l : List (Addr × Obj)}, (∀ p ∈ l, p.1 ≠ D) → LCg.Off1 D l
  | [], _ => trivial
  | _ :: _, h => ⟨h _ List.mem_cons_self, off1_of fun p hp => h p (List.mem_cons_of_mem _ hp)⟩
def turnT (p : Str) (n : Int) : Nat → Str
  | 0 => Str.ofString ""
  | i + 1 => turnT p n i ++ Txt.slice p (some (n + (i : Int) * -1 - 1)) (some (n + (i : Int) * -1 - 1 + 1))
theorem turnT_len (p : Str) (n : Int) : ∀ i, (turnT p n i).length ≤ i * p.length
  | 0 => by
    have : (Str.ofString "").length = 0 := by decide +kernel
    simp only [turnT, this]; omega
  | i + 1 => by
    have h1 := turnT_len p n i
    have h2 := Txt.slice_le p (some (n + (i : Int) * -1 - 1)) (some (n + (i : Int) * -1 - 1 + 1))
    simp only [turnT, Str.length_append, Nat.succ_mul]
    omega
def Jturn (p : Str) (k : Int) (m₀ : Str → Option Value) (all : List (Addr × Obj)) (i : Nat) (m : Str → Option Value) (nw : List (Addr × Obj)) : Prop :=
  (∃ t, m (Str.ofString "turned") = some (.str (turnT p k i) t)) ∧ (∀ y, y ≠ Str.ofString "turned" → y ≠ Str.ofString "at" → m y = m₀ y) ∧ nw = all
section
variable {prog : Program} {w : World} {A : Around} {E : Value → Shared → Prop} {s : Shared} {env : Env} {h₀ : Heap} {x : Str} {px : Pos} {body : List Stmt} {Q : Flow → Shared → Prop}
theorem turns_down {p : Str} {r : Addr} {a₀ : Int} {t₀ u₀ v₀ : Tok} {n : Nat} {m₀ : Str → Option Value} {news : List (Addr × Obj)} {t9 : Tok}
    (hh : A.handled = none) (hr : IsRange s.heap r a₀ 0 (-1) t₀ u₀ v₀) (hsmall : Builtin.Range.small a₀ 0 (-1) = true) (hn : Builtin.Range.rangeSize a₀ 0 (-1) = (n : Int)) (F : Fr h₀ env.locals s.heap m₀) (N : News h₀ env.locals s.heap news) (h9 : m₀ (Str.ofString "turned") = some (.str (Str.ofString "") t9))
    (turn : ∀ (i : Nat) (t t' : Tok) (m₁ : Str → Option Value) (I : Addr) (oI : Obj) (h : Heap) (tk : Nat), i < n → (∀ p ∈ news, p.1 ≠ I) → (Fr h₀ env.locals h (fun y => if y = Str.ofString "turned" then some (.str (turnT p a₀ i) t') else if y = Str.ofString "at" then m₁ y else m₀ y)) → News h₀ env.locals h ((I, oI) :: news) →
      wpAny (model prog w) A (assign (.Name x px) env (.int (a₀ + (i : Int) * -1) t)) (fun _ s₃ => wpAny (model prog w) A (execs body env) (TurnPostR h₀ env.locals I oI (Jturn p a₀ m₀ news (i + 1)) s Q) E s₃) E { s with heap := h, toks := tk })
    (done : ∀ (t' : Tok) (m₁ : Str → Option Value) (h : Heap) (tk : Nat), (Fr h₀ env.locals h (fun y => if y = Str.ofString "turned" then some (.str (turnT p a₀ n) t') else if y = Str.ofString "at" then m₁ y else m₀ y)) → News h₀ env.locals h news → Q .next { s with heap := h, toks := tk }) :
    wpAny (model prog w) A (pyIter (.ref r)) (fun it s₂ => TurnsAt prog w A h₀ env (.Name x px) body Q E it s₂) E s := by
  refine wpAny_pyIter_range hr hsmall ?_
  have W : Walks prog w A s.heap.objs.size [s.heap.objs.size] [s.heap.objs.size] n (fun i v => i < n ∧ ∃ t, v = .int (a₀ + i * (-1)) t)
      (fun i h => IsRangeIter h s.heap.objs.size (a₀ + (i : Nat) * (-1)) ((n : Int) - (i : Nat)) (-1)) := (Walks.range hh _ a₀ (-1) n).bound
  have hL : env.locals ≠ s.heap.objs.size := Nat.ne_of_lt F.ns.lt
  have mapeq : ∀ {m₁ : Str → Option Value} {i : Nat} {t' : Tok}, m₁ (Str.ofString "turned") = some (.str (turnT p a₀ i) t') → (∀ y, y ≠ Str.ofString "turned" → y ≠ Str.ofString "at" → m₁ y = m₀ y) → m₁ = fun y => if y = Str.ofString "turned" then some (.str (turnT p a₀ i) t') else if y = Str.ofString "at" then m₁ y else m₀ y := fun h1 h2 => by
    funext y
    split
    · rename_i e; rw [e]; exact h1
    · split
      · rfl
      · exact h2 y (by assumption) (by assumption)
  refine ⟨_, _, _, n, _, _, _, m₀, news, Jturn p a₀ m₀ news, rfl, KTurns.ofWalks W (fun _ _ _ _ _ _ h => wpAny_of_eq rfl h), ?_, ?_, ?_, (by show IsRangeIter _ _ _ _ _; rw [hn]; simpa using Heap.get?_push_size _ rfl), F.push _, (fun p hp => ⟨Heap.get?_push_of_some _ (N p hp).1, (N p hp).2⟩), ⟨⟨t9, h9⟩, fun _ _ _ => rfl, rfl⟩, ?_, ?_⟩
  · intro hm; exact hL (List.mem_singleton.mp hm)
  · intro b hb
    rw [List.mem_singleton.mp hb]
    exact next_is_new F
  · intro p hp hI
    exact absurd (Heap.lt_size (N p hp).1) ((List.mem_singleton.mp hI) ▸ Nat.lt_irrefl _)
  · intro i v m₁ news₁ h₁ tk₁ own hi hP hJ hnw hown hget hall hst F₁ N₁
    obtain ⟨_, t, rfl⟩ := hP
    obtain ⟨⟨t', hj1⟩, hj2, rfl⟩ := hJ
    have hI : ∃ oI, h₁.get? s.heap.objs.size = some oI := ⟨_, hst⟩
    obtain ⟨oI, hoI⟩ := hI
    have hone : ∀ p ∈ own, p = (s.heap.objs.size, oI) := own_one hown (fun b hb => .inl (List.mem_singleton.mp hb)) hoI N₁
    have hmem : (s.heap.objs.size, oI) ∈ own := hall _ (List.mem_singleton.mpr rfl) (next_is_new F) oI hoI
    have hoff : ∀ p ∈ news₁, p.1 ≠ s.heap.objs.size := fun p hp e => hnw p hp (List.mem_singleton.mpr e)
    rw [mapeq hj1 hj2] at F₁
    refine wpAny_mono (turn i t t' m₁ _ oI h₁ tk₁ hi hoff F₁ (news_one hmem N₁)) (fun _ s₃ h₃ => wpAny_mono h₃ (fun f s₄ h₄ => ?_) fun _ _ e => e) fun _ _ e => e
    have conv : (∃ h' tk' m₂ news₂, s₄ = { s with heap := h', toks := tk' } ∧ Fr h₀ env.locals h' m₂ ∧ News h₀ env.locals h' ((s.heap.objs.size, oI) :: news₂) ∧ (∀ p ∈ news₂, p.1 ≠ s.heap.objs.size) ∧ Jturn p a₀ m₀ news₁ (i + 1) m₂ news₂) →
        LoopStepU h₀ env.locals [s.heap.objs.size] own (Jturn p a₀ m₀ news₁ (i + 1)) { s with heap := h₁, toks := tk₁ } .next s₄ := by
      rintro ⟨h', tk', m₂, news₂, rfl, F₂, N₂, ho₂, hJ₂⟩
      exact ⟨rfl, h', tk', m₂, news₂, rfl, F₂, fun p hp => N₂ p (by
        rcases List.mem_append.mp hp with h | h
        · rw [hone p h]; exact List.mem_cons_self
        · exact List.mem_cons_of_mem _ h), fun p hp hw => ho₂ p hp (List.mem_singleton.mp hw), hJ₂⟩
    cases f with
    | ret v => exact h₄
    | brk => exact h₄
    | cont => exact conv h₄
    | next => exact conv h₄
  · intro h' tk m' news' F' N' _ hJ
    obtain ⟨⟨t', hj1⟩, hj2, rfl⟩ := hJ
    rw [mapeq hj1 hj2] at F'
    exact done t' m' h' tk F' N'
theorem TurnPostR.turned {p : Str} {k : Int} {I : Addr} {oI : Obj} {m₀ m₁ : Str → Option Value} {i : Nat} {va : Option Value} {news all : List (Addr × Obj)} {h' : Heap} {tk' : Nat} {L : Addr} {t t' : Tok} {X : Str}
    (F : Fr h₀ L h' (fun y => if y = Str.ofString "turned" then some (.str X t) else if y = Str.ofString "at" then va else if y = Str.ofString "turned" then some (.str (turnT p k i) t') else if y = Str.ofString "at" then m₁ y else m₀ y)) (N : News h₀ L h' all) (sub : ∀ p ∈ (I, oI) :: news, p ∈ all) (hoff : ∀ p ∈ news, p.1 ≠ I) (hX : X = turnT p k (i + 1)) :
    TurnPostR h₀ L I oI (Jturn p k m₀ news (i + 1)) s Q .next { s with heap := h', toks := tk' } := by
  refine ⟨h', tk', _, news, rfl, F, fun p hp => N p (sub p hp), hoff, ⟨⟨t, ?_⟩, ?_, rfl⟩⟩
  · dsimp only; rw [if_pos rfl, hX]
  · intro y h1 h2
    dsimp only; rw [if_neg h1, if_neg h2, if_neg h1, if_neg h2]
end
def MyLoop (prog : Program) (w : World) (A : Around) (h₀ : Heap) (env : Env) (target : Expr) (body : List Stmt) (Q : Flow → Shared → Prop) (E : Value → Shared → Prop) (xv : Value) (s₁ : Shared) : Prop :=
  wpAny (model prog w) A (pyIter xv) (fun it s₂ => TurnsAt prog w A h₀ env target body Q E it s₂) E s₁
theorem For_M {prog : Program} {w : World} {A : Around} {E : Value → Shared → Prop} {s : Shared} {env : Env} {h₀ : Heap} {target : Expr} {body : List Stmt} {Q : Flow → Shared → Prop} {iter : Expr} {pos : Pos} {m : Str → Option Value} (F : Fr h₀ env.locals s.heap m)
    (h : wpAny (model prog w) A (eval iter env) (MyLoop prog w A h₀ env target body Q E) E s)
    (hs : ∀ x, foldedSetIterable iter env x = pure x := by intro _; rfl)
    (hE : PassesOwn (model prog w) A env E := by passes_own) :
    wpAny (model prog w) A (exec (.For target iter body [] pos) env) Q E s := For_turns F h hs hE
end Mine
namespace Mine
section
variable {prog : Program} {w : World} {A : Around} {E : Value → Shared → Prop} {s : Shared} {h₀ : Heap} {L : Addr} {news : List (Addr × Obj)} {T1 T2 a1 a2 b1 b2 : Addr} {u1 u2 w1 w2 : List Value} {k1 k2 k3 k4 n1 n2 : Nat} {X Y : List Int} {Q : Value → Shared → Prop}
theorem pair_shaped (X Y : List Int) : SeqAt.shaped (.tuple [.list (X.map PyData.int), .list (Y.map PyData.int)]) = true := by
  simp [SeqAt.shaped, PyData.canLay0, PyData.canLayAll0, PyData.depth, PyData.depthAll, ke_canLayAll0, ke_depthAll]
theorem eq_pairs (N : News h₀ L s.heap news) (hT1 : (T1, ({ cls := .type "tuple", data := .seq #[.ref a1, .ref a2] n1 } : Obj)) ∈ news) (hT2 : (T2, ({ cls := .type "tuple", data := .seq #[.ref b1, .ref b2] n2 } : Obj)) ∈ news)
    (m1 : (a1, listOf u1.toArray k1) ∈ news) (m2 : (a2, listOf u2.toArray k2) ∈ news) (m3 : (b1, listOf w1.toArray k3) ∈ news) (m4 : (b2, listOf w2.toArray k4) ∈ news)
    (i1 : IntsAre u1 X) (i2 : IntsAre u2 Y) (j1 : IntsAre w1 X) (j2 : IntsAre w2 Y) (hu : A.units + 64 < cLine) (h : Q (.bool true) s) : wpAny (model prog w) A (compareOp .Eq (.ref T1) (.ref T2)) Q E s := by
  have r1 := reads_newData (News.isList N m1) (ke_carried i1)
  have r2 := reads_newData (News.isList N m2) (ke_carried i2)
  have r3 := reads_newData (News.isList N m3) (ke_carried j1)
  have r4 := reads_newData (News.isList N m4) (ke_carried j2)
  refine eq_dataH (reads_tuple_at (N _ hT1).1 rfl rfl (.cons r1 (.cons r2 .nil))) (reads_tuple_at (N _ hT2).1 rfl rfl (.cons r3 (.cons r4 .nil))) (pair_shaped _ _) (pair_shaped _ _) hu ?_
  simp only [PyData.eqv, PyData.eqvAll, ked_eqvAll, decide_true, Bool.and_self]
  exact h
end
end Mine
namespace Mine
def wordsN : Nat → List Str
  | 0 => [Str.ofString ""]
  | n + 1 => flatW (Str.ofString "AB") (wordsN n)
def isZero (k : Int) : Bool := decide (k = 0)
def isEnd (part : Str) (n : Int) (k : Int) : Bool := decide (k = n - (part.length : Int) + 1) && decide (k > 0)
def placesN (part : Str) (n : Nat) : List Int := (wordsN n).map fun x => fnd x part
def lackN (part : Str) (n : Nat) : Int := (((placesN part n).filter isZero).length : Nat)
def endN (part : Str) (n : Nat) : Int := (((placesN part n).filter (isEnd part (n : Int))).length : Nat)
theorem wordsN_len (n : Nat) : ∀ k ∈ wordsN n, k.length = n := by
  induction n with
  | zero => intro k hk; simp only [wordsN, List.mem_singleton] at hk; subst hk; decide +kernel
  | succ n ih =>
    intro k hk
    simp only [wordsN, flatW, List.mem_flatMap, List.mem_map] at hk
    obtain ⟨k', hk', c, _, rfl⟩ := hk
    rw [Str.length_append, ih k' hk']
    rfl
theorem wordsN_count (n : Nat) : (wordsN n).length = 2 ^ n := by
  induction n with
  | zero => rfl
  | succ n ih =>
    simp only [wordsN]
    rw [flatW_len, ih, Nat.pow_succ]
    have : (Str.ofString "AB").cps.size = 2 := by decide +kernel
    rw [this]
def Jc (part : Str) (l1 l2 cS : Addr) (tail : List (Addr × Obj)) (i : Nat) (m : Str → Option Value) (nw : List (Addr × Obj)) : Prop :=
  ∃ (lw : Addr) (n : Nat) (lackV endV wv : List Value) (oS : Obj) (v₀ : Option Value), m (Str.ofString "lacking") = some (.ref l1) ∧ m (Str.ofString "ending") = some (.ref l2) ∧ m (Str.ofString "words") = some (.ref lw) ∧
    nw = (lw, listOf wv.toArray n) :: (l2, listOf endV.toArray endV.length) :: (l1, listOf lackV.toArray lackV.length) :: (cS, oS) :: tail ∧ @LT.lt Nat _ l2 lw ∧
    IntsAre lackV ((List.range i).map (lackN part)) ∧ IntsAre endV ((List.range i).map (endN part)) ∧ StrsAre wv (wordsN i) ∧ oS.data = .cell v₀
theorem jc0 {part : Str} {l1 l2 cS lw : Addr} {tail : List (Addr × Obj)} {m : Str → Option Value} {t : Tok} {oS : Obj} {v₀ : Option Value}
    (h1 : m (Str.ofString "lacking") = some (.ref l1)) (h2 : m (Str.ofString "ending") = some (.ref l2)) (h3 : m (Str.ofString "words") = some (.ref lw)) (h4 : @LT.lt Nat _ l2 lw) (h5 : oS.data = .cell v₀) :
    Jc part l1 l2 cS tail 0 m ((lw, listOf #[.str (Str.ofString "") t] 0) :: (l2, listOf #[] 0) :: (l1, listOf #[] 0) :: (cS, oS) :: tail) :=
  ⟨lw, 0, [], [], [.str (Str.ofString "") t], oS, v₀, h1, h2, h3, rfl, h4, .nil, .nil, .cons _ _ .nil, h5⟩
theorem map3 {m : Str → Option Value} {a b c : Str} {x y z : Value} (h1 : m a = some x) (h2 : m b = some y) (h3 : m c = some z) :
    m = fun u => if u = a then some x else if u = b then some y else if u = c then some z else m u := by
  funext u
  split
  · subst_vars; exact h1
  · split
    · subst_vars; exact h2
    · split
      · subst_vars; exact h3
      · rfl
theorem ne_tail {news : List (Addr × Obj)} {a d : Nat} (h : ∀ p ∈ news, p.1 < a) (hd : a < d) : ∀ p ∈ news, p.1 ≠ d := fun p hp e => Nat.lt_irrefl _ (Nat.lt_trans (e ▸ h p hp) hd)
theorem off5 {I a b c d e : Addr} {o1 o2 o3 o4 o5 : Obj} {news : List (Addr × Obj)} (h : ∀ p ∈ (a, o1) :: (b, o2) :: (c, o3) :: (d, o4) :: (e, o5) :: news, p.1 ≠ I) : @Ne Nat a I ∧ @Ne Nat b I ∧ @Ne Nat c I ∧ @Ne Nat d I ∧ @Ne Nat e I :=
  ⟨h _ (.head _), h _ (.tail _ (.head _)), h _ (.tail _ (.tail _ (.head _))), h _ (.tail _ (.tail _ (.tail _ (.head _)))), h _ (.tail _ (.tail _ (.tail _ (.tail _ (.head _)))))⟩
theorem isEnd_t {part : Str} {i k : Int} (h1 : k = 0 + i - (part.length : Int) + 1) (h2 : 0 < k) : true = isEnd part i k := by
  unfold isEnd; rw [decide_eq_true (by omega), decide_eq_true (by omega)]; rfl
theorem isEnd_f {part : Str} {i k : Int} (h2 : ¬ 0 < k) : false = isEnd part i k := by
  unfold isEnd; rw [decide_eq_false (p := k > 0) (by omega), Bool.and_false]
theorem isEnd_g {part : Str} {i k : Int} (h1 : k ≠ 0 + i - (part.length : Int) + 1) : false = isEnd part i k := by
  unfold isEnd; rw [decide_eq_false (by omega), Bool.false_and]
theorem jcS {part : Str} {l1 l2 cS lw D I : Addr} {oI oS o0 ow o1 o2 : Obj} {x1 x2 x3 : Addr × Obj} {tail : List (Addr × Obj)} {i : Nat} {h₀ h' : Heap} {L : Addr} {m : Str → Option Value} {s : Shared} {Q : Flow → Shared → Prop} {tk n2 n1 : Nat} {lackV endV ys : List Value} {its1 its2 : Array Value} {t1 t2 : Tok} {v₀ : Option Value} {a b : Int}
    (F : Fr h₀ L h' m) (N : News h₀ L h' ((D, LCg.lst ys) :: x1 :: x2 :: x3 :: (I, oI) :: (lw, ow) :: (l2, listOf its2 n2) :: (l1, listOf its1 n1) :: (cS, oS) :: tail))
    (h1 : m (Str.ofString "lacking") = some (.ref l1)) (h2 : m (Str.ofString "ending") = some (.ref l2)) (h3 : m (Str.ofString "words") = some (.ref D))
    (hoff : ∀ p ∈ (lw, ow) :: (l2, o2) :: (l1, o1) :: (cS, o0) :: tail, p.1 ≠ I) (hlt : ∀ p ∈ x1 :: x2 :: x3 :: (I, oI) :: (lw, ow) :: (l2, listOf its2 n2) :: (l1, listOf its1 n1) :: (cS, oS) :: tail, p.1 < D)
    (hl : IntsAre lackV ((List.range i).map (lackN part))) (he : IntsAre endV ((List.range i).map (endN part))) (hys : StrsAre ys (wordsN (i + 1)))
    (e1 : its1 = (lackV ++ [Value.int a t1]).toArray) (e2 : its2 = (endV ++ [Value.int b t2]).toArray) (n1e : n1 = lackV.length + 1) (n2e : n2 = endV.length + 1) (ha : a = lackN part i) (hb : b = endN part i) (hS : oS.data = .cell v₀) :
    TurnPostR h₀ L I oI (Jc part l1 l2 cS tail (i + 1)) s Q .next { s with heap := h', toks := tk } := by
  subst e1 e2 n1e n2e ha hb
  refine ⟨h', tk, m, (D, LCg.lst ys) :: (l2, listOf (endV ++ [Value.int (endN part i) t2]).toArray (endV.length + 1)) :: (l1, listOf (lackV ++ [Value.int (lackN part i) t1]).toArray (lackV.length + 1)) :: (cS, oS) :: tail, rfl, F, fun p hp => N p ?_, fun p hp => ?_, ?_⟩
  · simp only [List.mem_cons] at hp ⊢
    rcases hp with h | h | h | h | h | h
    · exact .inr (.inr (.inr (.inr (.inl h))))
    · exact .inl h
    · exact .inr (.inr (.inr (.inr (.inr (.inr (.inl h))))))
    · exact .inr (.inr (.inr (.inr (.inr (.inr (.inr (.inl h)))))))
    · exact .inr (.inr (.inr (.inr (.inr (.inr (.inr (.inr (.inl h))))))))
    · exact .inr (.inr (.inr (.inr (.inr (.inr (.inr (.inr (.inr h))))))))
  · simp only [List.mem_cons] at hp
    rcases hp with h | h | h | h | h
    · rw [h]; exact Ne.symm (Nat.ne_of_lt (hlt (I, oI) (.tail _ (.tail _ (.tail _ (.head _))))))
    · rw [h]; exact hoff (l2, o2) (.tail _ (.head _))
    · rw [h]; exact hoff (l1, o1) (.tail _ (.tail _ (.head _)))
    · rw [h]; exact hoff (cS, o0) (.tail _ (.tail _ (.tail _ (.head _))))
    · exact hoff p (.tail _ (.tail _ (.tail _ (.tail _ h))))
  · refine ⟨D, ys.length, lackV ++ [Value.int (lackN part i) t1], endV ++ [Value.int (endN part i) t2], ys, oS, v₀, h1, h2, h3, ?_, hlt (l2, _) (.tail _ (.tail _ (.tail _ (.tail _ (.tail _ (.head _)))))), ?_, ?_, hys, hS⟩
    · rw [List.length_append, List.length_append]; rfl
    · rw [List.range_succ, List.map_append]
      exact IntsAre.append hl (.cons _ _ .nil)
    · rw [List.range_succ, List.map_append]
      exact IntsAre.append he (.cons _ _ .nil)
theorem mem4 {a b c d e f : Addr × Obj} {news : List (Addr × Obj)} {p : Addr × Obj} (hp : p ∈ a :: c :: d :: news) : p ∈ a :: b :: c :: d :: e :: f :: news := by
  simp only [List.mem_cons] at hp ⊢
  rcases hp with h | h | h | h
  · exact .inl h
  · exact .inr (.inr (.inl h))
  · exact .inr (.inr (.inr (.inl h)))
  · exact .inr (.inr (.inr (.inr (.inr (.inr h)))))
theorem lt_tail {news : List (Addr × Obj)} {a d : Nat} (h : ∀ p ∈ news, p.1 < a) (hd : a < d) : ∀ p ∈ news, p.1 < d := fun p hp => Nat.lt_trans (h p hp) hd
end Mine
namespace Mine
local macro_rules | `(tactic| walk_at "subscriptTail") => `(tactic| (k_here; (with_reducible show wpAny _ _ (subscriptTail _ _ (Value.ref _) (Value.int _ _)) _ _ _); k_dflt (refine' item_led ?k1 ?k2 ?k3 ?k4 ?k5 ?_ ?k6; (case k1 => k_asm); (case k2 => assumption); (case k3 => decide); (case k4 => decide); (case k5 => rfl); (case k6 => with_unfolding_all rfl); k_whole)))
local macro_rules | `(tactic| walk_at "call ref") => `(tactic| (k_here; (with_reducible show wpAny _ _ (call (Value.ref _) _) _ _ _); k_dflt (refine wpAny_call ?_; (refine' code_def ?k1 ?k2 ?k3 ?k4 ?k5 ?kA ?kF ?kK ?k6 ?k7 ?k8 ?k9 ?kB ?_ ?c2 ?c3 ?c4 ?c5; (case kA => exact rfl); (case kF => exact rfl); (case kK => first | exact rfl | assumption); (case k1 => k_asm); (case k2 => k_asm); (case k3 => k_asm); (case k4 => k_asm); (case k5 => k_asm); (case k6 => k_is); (case k7 => k_is); (case k8 => ktr_room); (case k9 => exact BindsTo.of_eq rfl); (case c5 => decide); (case kB => exact locs rfl); (case c2 => exact rfl); (case c3 => exact rfl); (case c4 => exact rfl); k_whole; intro g' L' h' FG' F' N' B' X' T'; (try dsimp only); (try k_fold)))))
local macro_rules | `(tactic| k_all) => `(tactic| (refine ne_tail (by assumption) ?_; (try dsimp only); omega))
local macro_rules | `(tactic| walk_at "call ref") => `(tactic| (k_here; (with_reducible show wpAny _ _ (call (Value.ref 100) [Value.none, Value.ref _]) _ _ _); k_dflt (refine' c_instr ?k1 ?k2 ?k3 ?k4 ?k5 ?kK ?hl ?h1 ?h2 ?kd ?ku ?_; (case k1 => k_asm); (case k2 => k_asm); (case k3 => k_asm); (case k4 => k_asm); (case k5 => k_asm); (case kK => first | exact rfl | assumption); (case hl => k_mem); (case h1 => omega); (case h2 => omega); (case kd => ktr_room); (case ku => ktr_units); intro t9 h9 tk9 F9 N9; (try dsimp only); (try k_fold))))
local macro_rules | `(tactic| walk_at "eval ListComp") => `(tactic| (k_here; lct_look; k_dflt (refine LCt.ListComp_T (F₀ := by k_asm) (by with_unfolding_all rfl) (by decide) (by rfl) (by decide) (by rfl) ?_)))
local macro_rules | `(tactic| walk_at "call ref") => `(tactic| (k_here; (with_reducible show wpAny _ _ (call (Value.ref 128) [Value.str _ _, Value.str _ _]) _ _ _); k_dflt (refine' c_joined ?k1 ?k2 ?k3 ?k4 ?k5 ?kK ?h1 ?h2 ?kd ?ku ?_; (case k1 => k_asm); (case k2 => k_asm); (case k3 => k_asm); (case k4 => k_asm); (case k5 => k_asm); (case kK => first | exact rfl | assumption); (case h1 => first | assumption | omega); (case h2 => first | assumption | omega); (case kd => ktr_room); (case ku => ktr_units); intro t9 h9 tk9 F9 N9; (try dsimp only); (try k_fold))))
theorem c_counts {w : World} {mean : ExcName → Option Value} {mg mb : Str → Option Value} {news : List (Addr × Obj)} {part : Str} {n : Nat} {tp tm : Tok}
  {dp un : Nat} {gd : Option (List Code)} {cn : Str} {cs : Scope} {a : Addr} {ccd : Value} {cl : List (Str × Addr)} {outer : List Env} {A₀ : Around} {base h₀ : Heap} {L : Addr} {m : Str → Option Value} {s : Shared} {Q E : Value → Shared → Prop}
  (B : Below A₀ base outer h₀) (F : Fr h₀ L s.heap m) (X : (Mine.hd.heap_39 w.params).In h₀) (N : News h₀ L s.heap news) (T : Top Mine.hd.view_39 (looseW Mine.hd.view_39 [Str.ofString "BasicError"]) mean mg mb h₀) (hk : cs.kind = .function)
  (hn6 : n ≤ 6) (h1 : 2 ≤ part.length) (h2 : part.length ≤ 3) (hdp : dp + 5 < recursionLimit) (hun : un + 80 < cLine)
  (hret : ∀ (T l1 l2 : Addr) (lackV endV : List Value) (h' : Heap) (tk' : Nat), Fr h₀ L h' m → News h₀ L h' ((T, { cls := .type "tuple", data := .seq #[.ref l1, .ref l2] }) :: (l2, listOf endV.toArray endV.length) :: (l1, listOf lackV.toArray lackV.length) :: news) →
    IntsAre lackV ((List.range (n + 1)).map (lackN part)) → IntsAre endV ((List.range (n + 1)).map (endN part)) → (∀ p ∈ news, p.1 < l1) → @LT.lt Nat _ l1 l2 → @LT.lt Nat _ l2 T → Q (.ref T) { s with heap := h', toks := tk' }) :
  wpAny (model PySem.Challenge.rw_xm0048_01.row.prog w) (ktrTop dp un gd cn cs L a ccd cl outer) (call (.ref 140) [.str part tp, .int (n : Int) tm]) Q E s := by
  w_top off
  (revert X; k_fill; intro X)
  refine wpAny_call ?_
  k_dflt (refine' code_defC ?k1 ?k2 ?k3 ?k4 ?k5 ?kA ?kF ?kK ?k6 ?k7 ?k8 ?k9 ?kB ?kD ?_ ?c2 ?c3 ?c4; (case kA => exact rfl); (case kF => exact rfl); (case kK => first | exact rfl | assumption); (case k1 => k_asm); (case k2 => k_asm); (case k3 => k_asm); (case k4 => k_asm); (case k5 => k_asm); (case k6 => k_is); (case k7 => k_is); (case k8 => ktr_room); (case k9 => exact BindsTo.of_eq rfl); (case kB => exact rfl); (case kD => decide +kernel); (case c2 => exact rfl); (case c3 => exact rfl); (case c4 => exact rfl); k_whole; intro g' L' h' tk' cells' FG' F' N' Y' B' X' T' l1; (obtain ⟨oS, oP, hE, dS, dP⟩ := CellsAre.two Y'; subst hE; clear Y'); (try simp only [List.cons_append, List.nil_append] at N'); (try dsimp only); (try k_fold))
  k_with_none
  k_steps
  rename Fr _ _ _ _ => F9
  refine For_turns F9 ?_
  k_steps
  rename Fr _ _ _ _ => F8
  rename News _ _ _ _ => N8
  rename IsRange _ _ _ _ _ _ _ _ => R8
  have dP' : oP.data = Data.cell (some (Value.str part tp)) := dP
  refine turns_range (Jc part _ _ _ _) rfl R8 (small_one (by omega) (by omega) (by omega) (by omega)) (n := n + 1) (by rw [rangeSize_nat]; omega) F8 (fun p hp => N8 p (List.mem_cons_of_mem _ hp)) (jc0 rfl rfl rfl (by omega) dS) ?_ ?_
  · intro i t m₁ news₁ I oI h tk hi hJ hoff F₁ N₁
    obtain ⟨lw, nw, lackV, endV, wv, oS, v₀, e1, e2, e3, rfl, hlw, hl, he, hw, hdS⟩ := hJ
    rw [map3 e1 e2 e3] at F₁
    have hofn := off5 hoff
    k_steps
    refine LCg.CompSrc.ledger rfl (by assumption) (by assumption) (by k_mem) ?_ ?_
    · rw [List.size_toArray, hw.len_eq, wordsN_count, PySem.sizeLine_eq]
      exact Nat.le_trans (Nat.pow_le_pow_right (by decide) (show i ≤ 7 by omega)) (by decide)
    intro g9
    refine comp_strs (fun x => fnd x part) hw (fun k' t' I' oI' C' oC' D' m' ys' h' tk' E' hk' hC' hx' F' N' off' ne' => ?_) (fun ys hys => ?_)
    · have hkl := wordsN_len _ _ hk'
      simp only [LCg.Off3, and_true] at off'
      k_steps
      exact ⟨rfl, _, rfl⟩
    · have hpl : ys.length = 2 ^ i := by rw [hys.length, List.length_map, wordsN_count]
      have hzl : lackV.toArray.size ≤ sizeLine := by rw [List.size_toArray, hl.length, List.length_map, List.length_range, PySem.sizeLine_eq]; omega
      have hze : endV.toArray.size ≤ sizeLine := by rw [List.size_toArray, he.length, List.length_map, List.length_range, PySem.sizeLine_eq]; omega
      have h2i : 2 ^ i ≤ 64 := Nat.le_trans (Nat.pow_le_pow_right (by decide) (show i ≤ 6 by omega)) (by decide)
      k_steps
      refine LCt.CompSrcT.ledger rfl (by assumption) (by assumption) (by k_mem) ?_ ?_
      · rw [List.size_toArray, hpl, PySem.sizeLine_eq]; omega
      intro g8
      refine comp_filter isZero hys (by lcg_src) (fun k' t' I' oI' C' oC' D' m' ys' h' tk' E' hk' hC' hx' F' N' off' ne' => ?_) (fun ys2 hys2 => ?_) (fun _ => rfl) (fun _ => rfl) (by decide)
      · simp only [LCg.Off3, and_true] at off'
        k_steps
        all_goals assumption
      · have hfl : (((wordsN i).map fun x => fnd x part).filter isZero).length ≤ 64 := Nat.le_trans (List.length_filter_le _ _) (by rw [List.length_map, wordsN_count]; exact h2i)
        k_steps
        refine LCt.CompSrcT.ledger (ax := _) (its := ys.toArray) rfl (by assumption) (by assumption) (by k_mem) ?_ ?_
        · rw [List.size_toArray, hpl, PySem.sizeLine_eq]; omega
        intro g7
        refine comp_filter (isEnd part (i : Int)) hys (by lcg_src) (fun k' t' I' oI' C' oC' D' m' ys' h' tk' E' hk' hC' hx' F' N' off' ne' => ?_) (fun ys3 hys3 => ?_) (fun _ => rfl) (fun _ => rfl) (by decide)
        · simp only [LCg.Off3, and_true] at off'
          k_steps
          all_goals first | assumption | exact isEnd_t (by assumption) (by assumption) | exact isEnd_f (by assumption) | exact isEnd_g (by assumption)
        · have hfe : (((wordsN i).map fun x => fnd x part).filter (isEnd part (i : Int))).length ≤ 64 := Nat.le_trans (List.length_filter_le _ _) (by rw [List.length_map, wordsN_count]; exact h2i)
          k_steps
          refine Assign_ListComp_N (by assumption) rfl (by with_unfolding_all rfl) (by with_unfolding_all rfl) (by decide) rfl (by decide) rfl rfl (by decide) rfl rfl ?_
          k_steps
          refine NSrc.intro rfl (by assumption) (by assumption) (by k_mem) hw ?_ ?_ ?_
          · rw [wordsN_count, PySem.sizeLine_eq]
            have : (Str.ofString "AB").cps.size = 2 := by decide +kernel
            rw [this]; omega
          · intro k' c' t1' tc' I' oI' J' oJ' C' oC' D' m₂' ys' h' tk' E' hk' hc' hC' hx' hy' F' N'
            have hkl := wordsN_len _ _ hk'
            have hkl' : k'.length ≤ 100 := by omega
            have hcl : (⟨#[c']⟩ : Str).length ≤ 100 := Nat.le_of_ble_eq_true rfl
            k_steps
            all_goals assumption
          · intro D' h' tk' ys4 F' N' hlt' hys4
            k_steps
            rename (Obj.data _ = Data.cell (some (Value.int (0 + (i : Int)) t))) => dS9
            exact jcS F' N' rfl rfl rfl hoff hlt' hl he hys4 (by first | rfl | exact List.push_toArray _ _) (by first | rfl | exact List.push_toArray _ _) rfl rfl rfl rfl dS9
  · intro m₁ news₁ h tk hJ F₁ N₁
    obtain ⟨lw, nw, lackV, endV, wv, oS9, v₀, e1, e2, e3, rfl, hlw, hl, he, hw, hdS⟩ := hJ
    rw [map3 e1 e2 e3] at F₁
    k_steps
    rename News _ _ _ _ => kN9
    rename Fr _ _ _ _ => kF9
    exact hret _ _ _ lackV endV _ _ kF9 (fun p hp => kN9 p (mem4 hp)) hl he (lt_tail l1 (by omega)) (by omega) (by omega)
end Mine
namespace Mine
def qSame (p : Str) (k : Int) : Bool := Txt.slice p none (some k) == Txt.slice p (some (if 0 > (p.length : Int) - k then 0 else (p.length : Int) - k)) none
def parts2 : List Str := [⟨#[65, 65]⟩, ⟨#[65, 66]⟩, ⟨#[66, 65]⟩, ⟨#[66, 66]⟩]
def parts3 : List Str := [⟨#[65, 65, 65]⟩, ⟨#[65, 65, 66]⟩, ⟨#[65, 66, 65]⟩, ⟨#[65, 66, 66]⟩, ⟨#[66, 65, 65]⟩, ⟨#[66, 65, 66]⟩, ⟨#[66, 66, 65]⟩, ⟨#[66, 66, 66]⟩]
def tabL (n : Nat) (p : Str) : List Int := match n, qSame p 1, qSame p 2 with
  | 2, true, _ => [1, 2, 3, 5, 8, 13, 21]
  | 2, false, _ => [1, 2, 3, 4, 5, 6, 7]
  | _, true, true => [1, 2, 4, 7, 13, 24, 44]
  | _, true, false => [1, 2, 4, 7, 12, 21, 37]
  | _, false, _ => [1, 2, 4, 7, 12, 20, 33]
def tabE (n : Nat) (p : Str) : List Int := (List.range 7).map fun i => if i = 0 then 0 else 2 * (tabL n p).getD (i - 1) 0 - (tabL n p).getD i 0
def tabB (n : Nat) (p : Str) : Bool := decide ((List.range 7).map (lackN p) = tabL n p) && decide ((List.range 7).map (endN p) = tabE n p)
theorem tabB_out {n : Nat} {p : Str} (h : tabB n p = true) : (List.range 7).map (lackN p) = tabL n p ∧ (List.range 7).map (endN p) = tabE n p := by
  unfold tabB at h
  rw [Bool.and_eq_true, decide_eq_true_eq, decide_eq_true_eq] at h
  exact h
theorem tab2a : tabB 2 ⟨#[65, 65]⟩ = true := by decide +kernel
theorem tab2b : tabB 2 ⟨#[65, 66]⟩ = true := by decide +kernel
theorem tab2c : tabB 2 ⟨#[66, 65]⟩ = true := by decide +kernel
theorem tab2d : tabB 2 ⟨#[66, 66]⟩ = true := by decide +kernel
theorem tab2 : ∀ p ∈ parts2, (List.range 7).map (lackN p) = tabL 2 p ∧ (List.range 7).map (endN p) = tabE 2 p := by
  intro p hp
  simp only [parts2, List.mem_cons, List.not_mem_nil, or_false] at hp
  rcases hp with rfl | rfl | rfl | rfl
  · exact tabB_out tab2a
  · exact tabB_out tab2b
  · exact tabB_out tab2c
  · exact tabB_out tab2d
theorem tab3a : tabB 3 ⟨#[65, 65, 65]⟩ = true := by decide +kernel
theorem tab3b : tabB 3 ⟨#[65, 65, 66]⟩ = true := by decide +kernel
theorem tab3c : tabB 3 ⟨#[65, 66, 65]⟩ = true := by decide +kernel
theorem tab3d : tabB 3 ⟨#[65, 66, 66]⟩ = true := by decide +kernel
theorem tab3e : tabB 3 ⟨#[66, 65, 65]⟩ = true := by decide +kernel
theorem tab3f : tabB 3 ⟨#[66, 65, 66]⟩ = true := by decide +kernel
theorem tab3g : tabB 3 ⟨#[66, 66, 65]⟩ = true := by decide +kernel
theorem tab3h : tabB 3 ⟨#[66, 66, 66]⟩ = true := by decide +kernel
theorem tab3 : ∀ p ∈ parts3, (List.range 7).map (lackN p) = tabL 3 p ∧ (List.range 7).map (endN p) = tabE 3 p := by
  intro p hp
  simp only [parts3, List.mem_cons, List.not_mem_nil, or_false] at hp
  rcases hp with rfl | rfl | rfl | rfl | rfl | rfl | rfl | rfl
  · exact tabB_out tab3a
  · exact tabB_out tab3b
  · exact tabB_out tab3c
  · exact tabB_out tab3d
  · exact tabB_out tab3e
  · exact tabB_out tab3f
  · exact tabB_out tab3g
  · exact tabB_out tab3h
def CountsAre (part : Str) (n : Nat) (LK EK : List Int) : Prop := (List.range n).map (lackN part) = LK ∧ (List.range n).map (endN part) = EK
theorem CountsAre.six {p : Str} {LK EK : List Int} (h : CountsAre p 7 LK EK) : CountsAre p 6 (LK.take 6) (EK.take 6) := by
  obtain ⟨rfl, rfl⟩ := h
  exact ⟨by rw [← List.map_take]; rfl, by rw [← List.map_take]; rfl⟩
def F2 (p : Str) (L E : List Int) : Prop := p.length = 2 ∧ L.length = 7 ∧ E.length = 7 ∧ List.take (2 + 1 : Int).toNat L = List.map (fun k' => (2 : Int) ^ k'.toNat) (rangeKs 0 (2 - 0 : Int).toNat) ++ [2 ^ Int.toNat 2 - 1] ∧
  (∀ i : Nat, i < 6 → 2 * L.getD (0 + (i : Int)).toNat 0 = L.getD (0 + (i : Int) + 1).toNat 0 + E.getD (0 + (i : Int) + 1).toNat 0) ∧
  (∀ i : Nat, i < 6 → 0 + (i : Int) + 2 ≤ 6 → L.getD (0 + (i : Int)).toNat 0 = (((rangeKs 1 2).filter (qSame p)).map fun k => E.getD (0 + (i : Int) + k).toNat 0).sum) ∧
  turnT p 2 2 ∈ parts2 ∧ (turnT p 2 2).length = 2 ∧ tabL 2 (turnT p 2 2) = L ∧ tabE 2 (turnT p 2 2) = E
def F3 (p : Str) (L E : List Int) : Prop := p.length = 3 ∧ L.length = 7 ∧ E.length = 7 ∧ List.take (3 + 1 : Int).toNat L = List.map (fun k' => (2 : Int) ^ k'.toNat) (rangeKs 0 (3 - 0 : Int).toNat) ++ [2 ^ Int.toNat 3 - 1] ∧
  (∀ i : Nat, i < 6 → 2 * L.getD (0 + (i : Int)).toNat 0 = L.getD (0 + (i : Int) + 1).toNat 0 + E.getD (0 + (i : Int) + 1).toNat 0) ∧
  (∀ i : Nat, i < 6 → 0 + (i : Int) + 3 ≤ 6 → L.getD (0 + (i : Int)).toNat 0 = (((rangeKs 1 3).filter (qSame p)).map fun k => E.getD (0 + (i : Int) + k).toNat 0).sum) ∧
  turnT p 3 3 ∈ parts3 ∧ (turnT p 3 3).length = 3 ∧ tabL 3 (turnT p 3 3) = L ∧ tabE 3 (turnT p 3 3) = E
theorem f2 : ∀ p ∈ parts2, F2 p (tabL 2 p) (tabE 2 p) := by unfold F2; decide +kernel
theorem f3 : ∀ p ∈ parts3, F3 p (tabL 3 p) (tabE 3 p) := by unfold F3; decide +kernel
theorem facts2 {p : Str} (hp : p ∈ parts2) : ∃ L E, CountsAre p 7 L E ∧ F2 p L E ∧ CountsAre (turnT p 2 2) 6 (L.take 6) (E.take 6) := by
  have h := f2 p hp
  refine ⟨_, _, tab2 p hp, h, ?_⟩
  obtain ⟨_, _, _, _, _, _, h1, _, h2, h3⟩ := h
  have h4 := tab2 _ h1
  rw [h2, h3] at h4
  exact CountsAre.six h4
theorem facts3 {p : Str} (hp : p ∈ parts3) : ∃ L E, CountsAre p 7 L E ∧ F3 p L E ∧ CountsAre (turnT p 3 3) 6 (L.take 6) (E.take 6) := by
  have h := f3 p hp
  refine ⟨_, _, tab3 p hp, h, ?_⟩
  obtain ⟨_, _, _, _, _, _, h1, _, h2, h3⟩ := h
  have h4 := tab3 _ h1
  rw [h2, h3] at h4
  exact CountsAre.six h4
end Mine
namespace Mine
structure Hid (P : Prop) : Prop where
  out : P
theorem execs_two {M : Model} {A : Around} {E : Value → Shared → Prop} {s : Shared} {env : Env} {s1 s2 : Stmt} {rest : List Stmt} {Q : Flow → Shared → Prop} (P : Shared → Prop)
    (h : wpAny M A (exec s1 env) (fun f s₁ => f = .next ∧ wpAny M A (exec s2 env) (fun f' s₂ => f' = .next ∧ P s₂) E s₁) E s)
    (tail : ∀ s', P s' → wpAny M A (execs rest env) Q E s') : wpAny M A (execs (s1 :: s2 :: rest) env) Q E s :=
  wpAny_execs_cons (wpAny_mono h (fun f s₁ h₁ => by
    obtain ⟨rfl, h₁⟩ := h₁
    exact wpAny_execs_cons (wpAny_mono h₁ (fun f' s₂ h₂ => by
      obtain ⟨rfl, h₂⟩ := h₂
      exact tail s₂ h₂) fun _ _ e => e)) fun _ _ e => e)
def parts : List Str := parts2 ++ parts3
def PartIs (h₀ : Heap) (L : Addr) (m : Str → Option Value) (cM cE cP cB : Addr) (s : Shared) (s' : Shared) : Prop :=
  ∃ p t h tk oM oE oP oB vM vE, p ∈ parts ∧ s' = { s with heap := h, toks := tk } ∧ Fr h₀ L h m ∧ News h₀ L h [(cM, oM), (cE, oE), (cP, oP), (cB, oB)] ∧ Obj.data oM = .cell vM ∧ Obj.data oE = .cell vE ∧ oP.data = .cell (some (.str p t))
theorem bits_parts : ∀ bits : List Int, (bits.length = 2 ∨ bits.length = 3) → (∀ b ∈ bits, b = 0 ∨ b = 1) → Txt.join (Str.ofString "") (bits.map bitStr) ∈ parts
  | [a, b], _, h => by
    rcases h a (by simp) with rfl | rfl <;> rcases h b (by simp) with rfl | rfl <;> decide +kernel
  | [a, b, c], _, h => by
    rcases h a (by simp) with rfl | rfl <;> rcases h b (by simp) with rfl | rfl <;> rcases h c (by simp) with rfl | rfl <;> decide +kernel
  | [], h, _ => by simp at h
  | [_], h, _ => by simp at h
  | _ :: _ :: _ :: _ :: _, h, _ => by simp at h
theorem PartIs.intro {h₀ h : Heap} {L : Addr} {m : Str → Option Value} {cM cE cP cB : Addr} {s : Shared} {bits : List Int} {t : Tok} {tk : Nat} {oM oE oP oB : Obj} {vM vE : Option Value} {all : List (Addr × Obj)}
    (hl : bits.length = 2 ∨ bits.length = 3) (hb : ∀ b ∈ bits, b = 0 ∨ b = 1) (F : Fr h₀ L h m) (N : News h₀ L h all) (sub : ∀ p ∈ [(cM, oM), (cE, oE), (cP, oP), (cB, oB)], p ∈ all) (hM : oM.data = .cell vM) (hE : oE.data = .cell vE)
    (hP : oP.data = .cell (some (.str (Txt.join (Str.ofString "") (bits.map bitStr)) t))) : PartIs h₀ L m cM cE cP cB s { s with heap := h, toks := tk } :=
  ⟨_, t, h, tk, oM, oE, oP, oB, vM, vE, bits_parts bits hl hb, rfl, F, fun p hp => N p (sub p hp), hM, hE, hP⟩
theorem law_two {M : Model} {A : Around} {E : Value → Shared → Prop} {s : Shared} {env : Env} {s1 s2 : Stmt} {rest : List Stmt} {Q : Flow → Shared → Prop} {h₀ : Heap} {L : Addr} {m : Str → Option Value} {cM cE cP cB : Addr} {oM oE oP oB : Obj}
    (F : Fr h₀ L s.heap m) (N : News h₀ L s.heap [(cM, oM), (cE, oE), (cP, oP), (cB, oB)])
    (h : wpAny M A (exec s1 env) (fun f s₁ => f = .next ∧ wpAny M A (exec s2 env) (fun f' s₂ => f' = .next ∧ PartIs h₀ L m cM cE cP cB s s₂) E s₁) E s)
    (tail : ∀ s', PartIs h₀ L m cM cE cP cB s s' → wpAny M A (execs rest env) Q E s') : wpAny M A (execs (s1 :: s2 :: rest) env) Q E s := execs_two _ h tail
theorem c_counts6 {w : World} {mean : ExcName → Option Value} {mg mb : Str → Option Value} {news : List (Addr × Obj)} {part : Str} {LK EK : List Int} {tp tm : Tok}
  {dp un : Nat} {gd : Option (List Code)} {cn : Str} {cs : Scope} {a : Addr} {ccd : Value} {cl : List (Str × Addr)} {outer : List Env} {A₀ : Around} {base h₀ : Heap} {L : Addr} {m : Str → Option Value} {s : Shared} {Q E : Value → Shared → Prop}
  (B : Below A₀ base outer h₀) (F : Fr h₀ L s.heap m) (X : (Mine.hd.heap_39 w.params).In h₀) (N : News h₀ L s.heap news) (T : Top Mine.hd.view_39 (looseW Mine.hd.view_39 [Str.ofString "BasicError"]) mean mg mb h₀) (hk : cs.kind = .function)
  (hC : CountsAre part 7 LK EK) (h1 : 2 ≤ part.length) (h2 : part.length ≤ 3) (hdp : dp + 5 < recursionLimit) (hun : un + 80 < cLine)
  (hret : ∀ (T l1 l2 : Addr) (lackV endV : List Value) (h' : Heap) (tk' : Nat), Fr h₀ L h' m → News h₀ L h' ((T, { cls := .type "tuple", data := .seq #[.ref l1, .ref l2] }) :: (l2, listOf endV.toArray 7) :: (l1, listOf lackV.toArray 7) :: news) →
    IntsAre lackV LK → IntsAre endV EK → (∀ p ∈ news, p.1 < l1) → @LT.lt Nat _ l1 l2 → @LT.lt Nat _ l2 T → Q (.ref T) { s with heap := h', toks := tk' }) :
  wpAny (model PySem.Challenge.rw_xm0048_01.row.prog w) (ktrTop dp un gd cn cs L a ccd cl outer) (call (.ref 140) [.str part tp, .int 6 tm]) Q E s := by
  obtain ⟨hL, hE⟩ := hC
  subst hL hE
  refine c_counts (n := 6) B F X N T hk (by decide) h1 h2 hdp hun ?_
  intro T l1 l2 lackV endV h' tk' F' N' hl he a1 a2 a3
  have e1 : lackV.length = 7 := by rw [hl.length, List.length_map, List.length_range]
  have e2 : endV.length = 7 := by rw [he.length, List.length_map, List.length_range]
  rw [e1, e2] at N'
  exact hret T l1 l2 lackV endV h' tk' F' N' hl he a1 a2 a3
theorem c_counts5 {w : World} {mean : ExcName → Option Value} {mg mb : Str → Option Value} {news : List (Addr × Obj)} {part : Str} {LK EK : List Int} {tp tm : Tok}
  {dp un : Nat} {gd : Option (List Code)} {cn : Str} {cs : Scope} {a : Addr} {ccd : Value} {cl : List (Str × Addr)} {outer : List Env} {A₀ : Around} {base h₀ : Heap} {L : Addr} {m : Str → Option Value} {s : Shared} {Q E : Value → Shared → Prop}
  (B : Below A₀ base outer h₀) (F : Fr h₀ L s.heap m) (X : (Mine.hd.heap_39 w.params).In h₀) (N : News h₀ L s.heap news) (T : Top Mine.hd.view_39 (looseW Mine.hd.view_39 [Str.ofString "BasicError"]) mean mg mb h₀) (hk : cs.kind = .function)
  (hC : CountsAre part 6 LK EK) (h1 : 2 ≤ part.length) (h2 : part.length ≤ 3) (hdp : dp + 5 < recursionLimit) (hun : un + 80 < cLine)
  (hret : ∀ (T l1 l2 : Addr) (lackV endV : List Value) (h' : Heap) (tk' : Nat), Fr h₀ L h' m → News h₀ L h' ((T, { cls := .type "tuple", data := .seq #[.ref l1, .ref l2] }) :: (l2, listOf endV.toArray 6) :: (l1, listOf lackV.toArray 6) :: news) →
    IntsAre lackV LK → IntsAre endV EK → (∀ p ∈ news, p.1 < l1) → @LT.lt Nat _ l1 l2 → @LT.lt Nat _ l2 T → Q (.ref T) { s with heap := h', toks := tk' }) :
  wpAny (model PySem.Challenge.rw_xm0048_01.row.prog w) (ktrTop dp un gd cn cs L a ccd cl outer) (call (.ref 140) [.str part tp, .int 5 tm]) Q E s := by
  obtain ⟨hL, hE⟩ := hC
  subst hL hE
  refine c_counts (n := 5) B F X N T hk (by decide) h1 h2 hdp hun ?_
  intro T l1 l2 lackV endV h' tk' F' N' hl he a1 a2 a3
  have e1 : lackV.length = 6 := by rw [hl.length, List.length_map, List.length_range]
  have e2 : endV.length = 6 := by rw [he.length, List.length_map, List.length_range]
  rw [e1, e2] at N'
  exact hret T l1 l2 lackV endV h' tk' F' N' hl he a1 a2 a3
theorem len_known {prog : Program} {w : World} {A : Around} {E : Value → Shared → Prop} {s : Shared} {x : Str} {t : Tok} {k : Int} {Q : Value → Shared → Prop} (h : (x.length : Int) = k) (hk : k ≤ 100)
    (hq : Q (.int k (s.toks + 1)) { s with toks := s.toks + 1 + 1 }) : wpAny (model prog w) A (call (.builtin "len") [.str x t]) Q E s := by
  subst h
  exact SBL.len (by omega) hq
end Mine
open Mine
local macro_rules | `(tactic| walk_at "call ref") => `(tactic| (k_here; (with_reducible show wpAny _ _ (call (Value.ref 135) [Value.ref _, Value.int _ _]) _ _ _); k_dflt (refine' c_draw ?k1 ?k2 ?k3 ?k4 ?k5 ?kK ?kU ?hs ?hne ?hi ?hn ?h1 ?h2 ?kd ?ku ?_ ?_; (case k1 => k_asm); (case k2 => k_asm); (case k3 => k_asm); (case k4 => k_asm); (case k5 => k_asm); (case kK => first | exact rfl | assumption); (case kU => k_updF); (case hs => k_mem); (case hne => k_ne); (case hi => assumption); (case hn => first | omega | (rw [List.length_take]; omega)); (case h1 => omega); (case h2 => omega); (case kd => first | ktr_room | k_room); (case ku => first | ktr_units | decide); (all_goals (intro t9 t8 h9 tk9 F9 N9; (try dsimp only); (try k_fold))))))
local macro_rules | `(tactic| walk_at "eval ListComp") => `(tactic| (k_here; (with_reducible show wpAny _ _ (eval (Expr.ListComp (Expr.Subscript (Expr.Constant _ _ _) _ _) _ _ _) _) _ _ _); k_dflt (refine ListComp_M (F₀ := by k_asm) (by with_unfolding_all rfl) (by decide) (by rfl) (by decide) (by rfl) ?_)))
local macro_rules | `(tactic| walk_at "call builtin:str.join") => `(tactic| (k_here; (with_reducible show wpAny _ _ (call (Value.builtin "str.join") [Value.str _ _, Value.ref _]) _ _ _); k_dflt (refine' join_bits ?k1 ?k2 ?k3 ?k4 ?k5 ?_; (case k1 => k_asm); (case k2 => k_mem); (case k3 => assumption); (case k4 => assumption); (case k5 => decide)); intro t' tk'))
local macro_rules | `(tactic| walk_at "call ref") => `(tactic| (k_here; (with_reducible show wpAny _ _ (call (Value.ref 140) [Value.str _ _, Value.int _ _]) _ _ _); k_dflt (first
  | (refine' c_counts6 ?k1 ?k2 ?k3 ?k4 ?k5 ?kK ?hC ?h1 ?h2 ?kd ?ku ?_; (case k1 => k_asm); (case k2 => k_asm); (case k3 => k_asm); (case k4 => k_asm); (case k5 => k_asm); (case kK => first | exact rfl | assumption); (case hC => with_reducible assumption); (case h1 => omega); (case h2 => omega); (case kd => first | ktr_room | k_room); (case ku => first | ktr_units | decide))
  | (refine' c_counts5 ?k1 ?k2 ?k3 ?k4 ?k5 ?kK ?hC ?h1 ?h2 ?kd ?ku ?_; (case k1 => k_asm); (case k2 => k_asm); (case k3 => k_asm); (case k4 => k_asm); (case k5 => k_asm); (case kK => first | exact rfl | assumption); (case hC => with_reducible assumption); (case h1 => omega); (case h2 => omega); (case kd => first | ktr_room | k_room); (case ku => first | ktr_units | decide))); (intro T9 l8 l9 v8 v9 h9 tk9 F9 N9 hl9 he9 a1 a2 a3; k_lt a1; (try dsimp only); (try k_fold))))
local macro_rules | `(tactic| walk_at "call builtin:len") => `(tactic| (k_here; (with_reducible show wpAny _ _ (call (Value.builtin "len") [Value.str _ _]) _ _ _); k_dflt (refine' len_known ?k1 ?k2 ?_; (case k1 => assumption); (case k2 => decide))))
local macro_rules | `(tactic| walk_at "call ref") => `(tactic| (k_here; (with_reducible show wpAny _ _ (call (Value.ref 107) [Value.none, Value.ref _]) _ _ _); k_dflt (refine' c_left ?k1 ?k2 ?k3 ?k4 ?k5 ?kK ?hl ?h1 ?h2 ?h3 ?kd ?ku ?_; (case k1 => k_asm); (case k2 => k_asm); (case k3 => k_asm); (case k4 => k_asm); (case k5 => k_asm); (case kK => first | exact rfl | assumption); (case hl => k_mem); (case h1 => omega); (case h2 => omega); (case h3 => omega); (case kd => first | ktr_room | k_room); (case ku => first | ktr_units | decide)); (intro t9 h9 tk9 F9 N9; (try dsimp only); (try k_fold))))
local macro_rules | `(tactic| walk_at "call ref") => `(tactic| (k_here; (with_reducible show wpAny _ _ (call (Value.ref 114) [Value.none, Value.ref _]) _ _ _); k_dflt (refine' c_right ?k1 ?k2 ?k3 ?k4 ?k5 ?kK ?hl ?h1 ?h2 ?h3 ?kd ?ku ?_; (case k1 => k_asm); (case k2 => k_asm); (case k3 => k_asm); (case k4 => k_asm); (case k5 => k_asm); (case kK => first | exact rfl | assumption); (case hl => k_mem); (case h1 => omega); (case h2 => omega); (case h3 => omega); (case kd => first | ktr_room | k_room); (case ku => first | ktr_units | decide)); (intro t9 h9 tk9 F9 N9; (try dsimp only); (try k_fold))))
local macro_rules | `(tactic| walk_at "call ref") => `(tactic| (k_here; (with_reducible show wpAny _ _ (call (Value.ref 121) [Value.none, Value.ref _]) _ _ _); k_dflt (refine' c_mid ?k1 ?k2 ?k3 ?k4 ?k5 ?kK ?hl ?h1 ?h2 ?h3 ?kd ?ku ?_; (case k1 => k_asm); (case k2 => k_asm); (case k3 => k_asm); (case k4 => k_asm); (case k5 => k_asm); (case kK => first | exact rfl | assumption); (case hl => k_mem); (case h1 => omega); (case h2 => omega); (case h3 => omega); (case kd => first | ktr_room | k_room); (case ku => first | ktr_units | decide)); (intro t9 h9 tk9 F9 N9; (try dsimp only); (try k_fold))))
local macro_rules | `(tactic| walk_at "exec Assign cons ListComp") => `(tactic| (k_here; lct_look; k_dflt (refine Assign_ListComp_TM (F₀ := by k_asm) (by rfl) (by with_unfolding_all rfl) (by with_unfolding_all rfl) (by decide) (by rfl) (by decide) (by rfl) (by rfl) (by rfl) ?_)))
local macro_rules | `(tactic| walk_at "call ref") => `(tactic| (k_here; (with_reducible show wpAny _ _ (call (Value.ref 128) [Value.str _ _, Value.str _ _]) _ _ _); k_dflt (refine' c_joined ?k1 ?k2 ?k3 ?k4 ?k5 ?kK ?h1 ?h2 ?kd ?ku ?_; (case k1 => k_asm); (case k2 => k_asm); (case k3 => k_asm); (case k4 => k_asm); (case k5 => k_asm); (case kK => first | exact rfl | assumption); (case h1 => (first | assumption | omega)); (case h2 => (first | assumption | omega)); (case kd => first | ktr_room | k_room); (case ku => first | ktr_units | decide)); (intro t9 h9 tk9 F9 N9; (try dsimp only); (try k_fold))))
local macro_rules | `(tactic| walk_at "eval ListComp") => `(tactic| (k_here; (with_reducible show wpAny _ _ (eval (Expr.ListComp (Expr.Subscript (Expr.Name _ _) _ _) _ _ _) _) _ _ _); k_dflt (refine ListComp_M (F₀ := by k_asm) (by with_unfolding_all rfl) (by decide) (by rfl) (by decide) (by rfl) ?_)))
local macro_rules | `(tactic| walk_at "exec For Name Call cons nil") => `(tactic| (k_here; (rename Fr _ _ _ _ => lF'); with_unfolding_all refine For_M lF' ?_))
local macro_rules | `(tactic| walk_at "exec Return some") => `(tactic| (exfalso; contradiction))
local macro_rules | `(tactic| walk_at "subscriptTail") => `(tactic| (k_here; (with_reducible show wpAny _ _ (subscriptTail _ _ (Value.ref _) (Value.int _ _)) _ _ _); k_dflt (refine' item_ints ?k1 ?k2 ?k3 ?k4 ?k5 ?k7 ?_ ?k6; (case k1 => k_asm); (case k2 => k_mem); (case k3 => assumption); (case k4 => omega); (case k5 => omega); (case k7 => omega); (case k6 => with_unfolding_all rfl); k_whole); intro t8))
local macro_rules | `(tactic| walk_at "compareOp Eq ref ref") => `(tactic| (k_here; (with_reducible show wpAny _ _ (compareOp CmpOp.Eq (Value.ref _) (Value.ref _)) _ _ _); k_dflt (refine' eq_pairs ?k1 ?t1 ?t2 ?m1 ?m2 ?m3 ?m4 ?i1 ?i2 ?j1 ?j2 ?u ?_; (case k1 => k_asm); (case t1 => k_mem); (case t2 => k_mem); (case m1 => k_mem); (case m2 => k_mem); (case m3 => k_mem); (case m4 => k_mem); (case i1 => assumption); (case i2 => assumption); (case j1 => assumption); (case j2 => assumption); (case u => ke_room))))
theorem PySem.Challenge.cw_xm0048_01_holds : PySem.Challenge.rw_xm0048_01.Holds := by
  refine Mine.hd ?_
  k_with_none
  w_strict (
    k_go0
    (all_goals try k_fold)
    (rename Fr _ _ _ _ => F9)
    (rename News _ _ _ _ => N9)
    with_unfolding_all refine law_two F9 N9 ?_ ?_
    · k_steps
      · trivial
      · unfold MySrc
        refine LCg.CompSrc.range (n := 2) rfl (by assumption) (by assumption) (by assumption) (by decide) (by decide) (by decide) ?_
        intro g'
        refine comp_draws (by decide) (by decide) ?_ ?_
        · intro j tj I oI C oC D m₂ ys h tk E' hj0 hj1 hC F' N' off ne
          simp only [LCg.Off3, and_true] at off
          k_steps
          all_goals first
            | exact DrawEnd.intro 0 (.inl rfl) (by decide +kernel) (by assumption) (by assumption) rfl
            | exact DrawEnd.intro 1 (.inr rfl) (by decide +kernel) (by assumption) (by assumption) rfl
        · intro ys bits j tj hlen hbits hys
          k_steps
          · trivial
          · exact PartIs.intro (.inl hlen) hbits (by assumption) (by assumption) (by lcg_sub) (by assumption) (by assumption) (by assumption)
      · unfold MySrc
        refine LCg.CompSrc.range (n := 3) rfl (by assumption) (by assumption) (by assumption) (by decide) (by decide) (by decide) ?_
        intro g'
        refine comp_draws (by decide) (by decide) ?_ ?_
        · intro j tj I oI C oC D m₂ ys h tk E' hj0 hj1 hC F' N' off ne
          simp only [LCg.Off3, and_true] at off
          k_steps
          all_goals first
            | exact DrawEnd.intro 0 (.inl rfl) (by decide +kernel) (by assumption) (by assumption) rfl
            | exact DrawEnd.intro 1 (.inr rfl) (by decide +kernel) (by assumption) (by assumption) rfl
        · intro ys bits j tj hlen hbits hys
          k_steps
          · trivial
          · exact PartIs.intro (.inr hlen) hbits (by assumption) (by assumption) (by lcg_sub) (by assumption) (by assumption) (by assumption)
    · intro s' hs'
      obtain ⟨p, tp, h, tk, oM, oE, oP, oB, vM, vE, hp, rfl, F, N, hM, hE, hP⟩ := hs'
      clear F9 N9
      rcases List.mem_append.mp hp with hp | hp
      · obtain ⟨LK, EK, hC, hF, hC5⟩ := facts2 hp
        obtain ⟨hln, hLl, hEl, hf1, hf2, hf3, hz1, hTl, hz2, hz3⟩ := hF
        have gC5 := Hid.mk hC5
        have gf1 := Hid.mk hf1
        have gf2 := Hid.mk hf2
        have gf3 := Hid.mk hf3
        have hp100 : p.length ≤ 100 := by omega
        have hlen : (p.length : Int) = 2 := by omega
        have hT1 : 2 ≤ (turnT p 2 2).length := by omega
        have hT3 : (turnT p 2 2).length ≤ 3 := by omega
        clear hTl hp hC5 hf1 hf2 hf3 hz1 hz2 hz3
        k_steps
        unfold MySrcT
        refine LCt.CompSrcT.range (n := 2) rfl (by assumption) (by assumption) (by assumption) (by decide) (by decide) (by decide) ?_
        intro g'
        refine comp_filterR (qSame p) (fun k' t' I' oI' C' oC' D' m' ys' h' tk' E' hlo hhi hC' hx' F' N' off' ne' => ?_) (fun ysS hysS => ?_) (fun _ => rfl) (fun _ => rfl) (by decide)
        · simp only [LCg.Off3, and_true] at off'
          k_steps
          all_goals first | assumption | exact cb_drop (by assumption) (by lcg_sub)
        · have hf1 := gf1.out
          clear hC
          k_steps
          clear hf1
          unfold MyLoop
          rename Fr _ _ _ _ => F8
          rename News _ _ _ _ => N8
          rename IsRange _ _ _ _ _ _ _ _ => R8
          refine turns_many rfl R8 (by decide) (n := 6) (by decide) F8 N8 hM (by k_mem) (by k_updF) ?_ ?_
          · intro i t o v I oI h tk hi ho hoff F₁ N₁
            have hof9 := off1_of (hoff o)
            simp only [LCg.Off1, and_true] at hof9
            have hq2 := gf2.out i hi
            have hq3 := gf3.out i hi
            k_steps
            · unfold MySrc
              refine LCg.CompSrc.ledger rfl (by assumption) (by assumption) (by k_mem) ?_ ?_
              · rw [List.size_toArray, hysS.length, PySem.sizeLine_eq]
                exact Nat.le_trans (List.length_filter_le _ _) (by rw [rangeKs_length]; decide)
              intro g'
              refine comp_ints (fun k => EK.getD (0 + (i : Int) + k).toNat 0) hysS (fun k' t' I' oI' C' oC' D' m₂' ys' h' tk' E' hk' hC' hx' F' N' off' ne' => ?_) (fun ys hys => ?_)
              · have hk2 := mem_rangeKs (List.mem_filter.mp hk').1
                simp only [LCg.Off3, and_true] at off'
                k_steps
                exact ⟨rfl, _, rfl⟩
              · have hq4 := hq3 (by assumption)
                k_steps
                rename (Obj.data _ = Data.cell (some (Value.int (0 + (i : Int)) t))) => dM
                exact TurnPostR.many (by assumption) (by assumption) (by lcg_sub) hoff dM
            · rename (Obj.data _ = Data.cell (some (Value.int (0 + (i : Int)) t))) => dM
              exact TurnPostR.many (by assumption) (by assumption) (by lcg_sub) hoff dM
          · intro o v h tk ho F₁ N₁
            k_steps
            unfold MyLoop
            rename Fr _ _ _ _ => F6
            rename News _ _ _ _ => N6
            rename IsRange _ _ _ _ _ _ _ _ => R6
            refine turns_down (p := p) (n := 2) rfl R6 (by decide) (by decide) F6 N6 rfl ?_ ?_
            · intro i t t' m₁ I oI h tk hi hoff F₁ N₁
              have hof9 := off1_of hoff
              simp only [LCg.Off1, and_true] at hof9
              have hT : (turnT p 2 i).length ≤ 100 := Nat.le_trans (turnT_len p 2 i) (Nat.le_trans (Nat.mul_le_mul (show i ≤ 2 by omega) (show p.length ≤ 3 by omega)) (by decide))
              have hSl := Nat.le_trans (Txt.slice_le p (some (2 + (i : Int) * -1 - 1)) (some (2 + (i : Int) * -1 - 1 + 1))) hp100
              k_steps
              exact TurnPostR.turned (by assumption) (by assumption) (by lcg_sub) hoff rfl
            · intro t' m₁ h tk F₁ N₁
              have hC5 := gC5.out
              k_steps
      · obtain ⟨LK, EK, hC, hF, hC5⟩ := facts3 hp
        obtain ⟨hln, hLl, hEl, hf1, hf2, hf3, hz1, hTl, hz2, hz3⟩ := hF
        have gC5 := Hid.mk hC5
        have gf1 := Hid.mk hf1
        have gf2 := Hid.mk hf2
        have gf3 := Hid.mk hf3
        have hp100 : p.length ≤ 100 := by omega
        have hlen : (p.length : Int) = 3 := by omega
        have hT1 : 2 ≤ (turnT p 3 3).length := by omega
        have hT3 : (turnT p 3 3).length ≤ 3 := by omega
        clear hTl hp hC5 hf1 hf2 hf3 hz1 hz2 hz3
        k_steps
        unfold MySrcT
        refine LCt.CompSrcT.range (n := 3) rfl (by assumption) (by assumption) (by assumption) (by decide) (by decide) (by decide) ?_
        intro g'
        refine comp_filterR (qSame p) (fun k' t' I' oI' C' oC' D' m' ys' h' tk' E' hlo hhi hC' hx' F' N' off' ne' => ?_) (fun ysS hysS => ?_) (fun _ => rfl) (fun _ => rfl) (by decide)
        · simp only [LCg.Off3, and_true] at off'
          k_steps
          all_goals first | assumption | exact cb_drop (by assumption) (by lcg_sub)
        · have hf1 := gf1.out
          clear hC
          k_steps
          clear hf1
          unfold MyLoop
          rename Fr _ _ _ _ => F8
          rename News _ _ _ _ => N8
          rename IsRange _ _ _ _ _ _ _ _ => R8
          refine turns_many rfl R8 (by decide) (n := 6) (by decide) F8 N8 hM (by k_mem) (by k_updF) ?_ ?_
          · intro i t o v I oI h tk hi ho hoff F₁ N₁
            have hof9 := off1_of (hoff o)
            simp only [LCg.Off1, and_true] at hof9
            have hq2 := gf2.out i hi
            have hq3 := gf3.out i hi
            k_steps
            · unfold MySrc
              refine LCg.CompSrc.ledger rfl (by assumption) (by assumption) (by k_mem) ?_ ?_
              · rw [List.size_toArray, hysS.length, PySem.sizeLine_eq]
                exact Nat.le_trans (List.length_filter_le _ _) (by rw [rangeKs_length]; decide)
              intro g'
              refine comp_ints (fun k => EK.getD (0 + (i : Int) + k).toNat 0) hysS (fun k' t' I' oI' C' oC' D' m₂' ys' h' tk' E' hk' hC' hx' F' N' off' ne' => ?_) (fun ys hys => ?_)
              · have hk2 := mem_rangeKs (List.mem_filter.mp hk').1
                simp only [LCg.Off3, and_true] at off'
                k_steps
                exact ⟨rfl, _, rfl⟩
              · have hq4 := hq3 (by assumption)
                k_steps
                rename (Obj.data _ = Data.cell (some (Value.int (0 + (i : Int)) t))) => dM
                exact TurnPostR.many (by assumption) (by assumption) (by lcg_sub) hoff dM
            · rename (Obj.data _ = Data.cell (some (Value.int (0 + (i : Int)) t))) => dM
              exact TurnPostR.many (by assumption) (by assumption) (by lcg_sub) hoff dM
          · intro o v h tk ho F₁ N₁
            k_steps
            unfold MyLoop
            rename Fr _ _ _ _ => F6
            rename News _ _ _ _ => N6
            rename IsRange _ _ _ _ _ _ _ _ => R6
            refine turns_down (p := p) (n := 3) rfl R6 (by decide) (by decide) F6 N6 rfl ?_ ?_
            · intro i t t' m₁ I oI h tk hi hoff F₁ N₁
              have hof9 := off1_of hoff
              simp only [LCg.Off1, and_true] at hof9
              have hT : (turnT p 3 i).length ≤ 100 := Nat.le_trans (turnT_len p 3 i) (Nat.le_trans (Nat.mul_le_mul (show i ≤ 3 by omega) (show p.length ≤ 3 by omega)) (by decide))
              have hSl := Nat.le_trans (Txt.slice_le p (some (3 + (i : Int) * -1 - 1)) (some (3 + (i : Int) * -1 - 1 + 1))) hp100
              k_steps
              exact TurnPostR.turned (by assumption) (by assumption) (by lcg_sub) hoff rfl
            · intro t' m₁ h tk F₁ N₁
              have hC5 := gC5.out
              k_steps)
