import PyProof.Rows.All
import Wide.All
import OpenK.AllK
import Wide.FinOn
import PySem.Challenge.RW_ov0043_01
set_option Elab.async false
set_option maxRecDepth 100000
open PySem PySem.W PySem.Calls PyProof.Rows
namespace Mine
theorem walk_lines : True := by
  k_with "mine_w0" => (k_here; refine pow7 (fdiv0 (by assumption)) (fdiv1 (by assumption) (by assumption)) ?_; intro kwp9 kwhp9 kwhl9)
  k_with "mine_w1" => (k_here; refine floordiv_int (Int.ne_of_gt (by assumption)) ?_ (Or.inl (PyProof.noPylong_of_log2 (by assumption))))
  k_with "mine_w2" => (k_here; k_dflt (refine kin (by k_asm) (by k_mem) (by k_asm) (by k_asm) (strKind_is _ _ _ _) (by k_asm) ?_); (try dsimp only [Option.isSome]))
  k_with "mine_w3" => (k_here; k_dflt (refine knotin (by k_asm) (by k_mem) (by k_asm) (by k_asm) (strKind_is _ _ _ _) (by k_asm) ?_); (try dsimp only [Option.isSome, Bool.not_true, Bool.not_false]))
  k_with "mine_same" => (intro kwz kwh1 kwh3; have kwh4 := kwh3; dsimp only [OffL] at kwh1; (simp only [List.contains_cons, List.contains_nil, Bool.or_false, Bool.or_eq_false_iff, beq_eq_false_iff_ne, ne_eq, not_false_eq_true, and_true, true_and] at kwh4 kwh1); simp only [kwh1, kwh3, kwh4, Bool.false_eq_true, if_false])
  k_with "mine_w5" => (k_here; (with_reducible show wpAny _ _ (getMethod (Value.ref _) (Str.ofString "get") _) _ _ _); k_dflt (refine kdg_method (knd := PySem.strKind _ _) (by k_asm) (by k_mem) (by k_asm) ?_))
  k_with "mine_w6" => (k_here; k_dflt (refine kdg_get1 (knd := PySem.strKind _ _) (by k_asm) (by k_mem) (by k_asm) (by k_asm) (strKind_is _ _ _ _) _ (by first | assumption | rfl) ?_); (try dsimp only [Option.getD]))
  k_with "mine_w7" => (k_here; k_dflt (refine' kda_set (knd := PySem.strKind _ _) (by k_asm) (by k_asm) (by k_updF) (by k_asm) (strKind_is _ _ _ _) (by (rw [sizeLine_eq]; omega)) ?_); intro kwhp kwop kwFp kwNp kwhdp; (try dsimp only at kwNp))
  k_with "mine_exc" => (rename News _ _ _ _ => kwN7; exact (kwN7 _ (.head _)).1)
  k_with "mine_raise" => (refine leave1D (by assumption) (by assumption) (by assumption) (by assumption) rfl rfl ?_; intro kwh7 kwR7 kwu7; exact (by assumption : Raises _ _ _ _ _ _ _ _ _ _) _ _ _ _ _ _ _ (by assumption) kwR7.trim kwu7)
  k_with "mine_w10" => (k_here; refine raiseRefusal rfl ?_)
  k_with "mine_w11" => (k_here; (with_reducible show wpAny _ _ (call (Value.ref 51) [Value.str _ _]) _ _ _); k_dflt (refine' refusal_new (by k_asm) (by k_asm) (by k_asm) (by k_asm) (by k_asm) (by exact rfl) (by ktr_room) ?_); intro kwe9 kwD9 kwtt9 kwtk9 kwh9 kwtk9p kwF9 kwN9 kwo9 kwoo9)
  k_with "mine_w12" => (k_here; k_dflt (refine' kob_del (knd := PySem.strKind _ _) (by k_asm) (by k_asm) (by k_updF) (by k_asm) (strKind_is _ _ _ _) (by assumption) (by (rw [sizeLine_eq]; omega)) ?_); intro kwhp kwop kwFp kwNp kwhdp; (try dsimp only at kwNp))
  k_with "mine_w13" => (k_here; (with_reducible show wpAny _ _ (subscriptTail _ _ (Value.ref _) (Value.int _ _)) _ _ _); k_dflt (refine' at_sub (by k_asm) (by k_mem) (by assumption) (by exact rfl) (by assumption) ?_))
  k_with "mine_w14" => (k_here; k_dflt (refine in_list_strs (News.isList (by k_asm) (by k_mem)) (by assumption) ?_))
  k_with "mine_again" => (intro kwe7 kwD7 kwk7 kwt7 kwg7 kwh7 kwtk7 kwG7 kwR7 kwu7; refine leave2D (by assumption) kwG7 kwR7 kwu7 rfl ?_; intro kwh8 kwR8 kwu8; exact (by assumption : Raises _ _ _ _ _ _ _ _ _ _) _ _ _ _ _ _ _ (by assumption) kwR8 kwu8)
  k_with "mine_w16" => (k_here; first
  | ((with_reducible show wpAny _ _ (call (Value.ref 102) _) _ _ _); k_dflt (refine' up_holder_spec (by k_asm) (by k_asm) (by k_asm) (by k_asm) (by k_asm) (by exact rfl) (by ktr_room) (by assumption) (by assumption) (by assumption) (by assumption) (by assumption) (by assumption) (by assumption) ?_); intro kwh9 kwtk9 kwF9 kwN9; (have kwhg9 := (by assumption : Option.getD _ _ = _); rw [kwhg9]))
  | ((with_reducible show wpAny _ _ (call (Value.ref 95) _) _ _ _); k_dflt (refine' define_spec (by k_asm) (by k_asm) (by k_asm) (by k_asm) (by k_asm) (by exact rfl) (by ktr_room) (by assumption) (by assumption) (by assumption) (by assumption) (by assumption) (by assumption) (by assumption) (by assumption) (by assumption) (by assumption) (by assumption) ?_ ?_ ?_)))
  k_with "mine_w17" => (k_here; (with_reducible show wpAny _ _ (subscriptTail _ _ (Value.ref _) (Value.int _ _)) _ _ _); k_dflt (first | (refine' at_sub (by k_asm) (by k_mem) (by assumption) (by exact rfl) (by assumption) ?_) | (refine' at_sub0 (by k_asm) (by k_mem) (by first | exact Nat.le_of_ble_eq_true rfl | assumption) ?_)))
  k_with "mine_w18" => (k_here; (with_reducible show wpAny _ _ (subscriptTail _ _ (Value.ref _) (Value.str _ _)) _ _ _); k_dflt (refine' kda_item (knd := PySem.strKind _ _) (by k_asm) (by k_mem) (by assumption) (strKind_is _ _ _ _) (by assumption) ?_))
  k_with "mine_w19" => (intro kwz kwh3; (have kwh5 := congrFun (upds_self (by assumption : HoldsL _ _)) kwz); dsimp only [upds] at kwh5; (simp only [List.contains_cons, List.contains_nil, Bool.or_false, Bool.or_eq_false_iff, beq_eq_false_iff_ne, ne_eq] at kwh3); simp only [kwh3, if_false]; exact kwh5)
  k_with "mine_w20" => (k_here; first
  | ((with_reducible show wpAny _ _ (call (Value.ref 67) _) _ _ _); k_dflt (refine' lookup_use (by k_asm) (by k_asm) (by k_asm) (by k_asm) (by k_asm) (by exact rfl) (by assumption) (by assumption) (by decide) (by decide) ?_); intro kwh9 kwtk9 kwF9 kwN9; (try dsimp only [Option.getD]); (try k_sweep))
  | ((with_reducible show wpAny _ _ (call (Value.ref 60) _) _ _ _); k_dflt (refine' lookup_here_use (by k_asm) (by k_asm) (by k_asm) (by k_asm) (by k_asm) (by exact rfl) (by assumption) (by assumption) (by assumption) (by assumption) (by assumption) (by assumption) (by decide) (by decide) ?_); intro kwh9 kwtk9 kwF9 kwN9; (try dsimp only [Option.getD]); (try k_sweep))
  | ((with_reducible show wpAny _ _ (call (Value.ref 74) _) _ _ _); k_dflt (refine' holder_use (by k_asm) (by k_asm) (by k_asm) (by k_asm) (by k_asm) (by exact rfl) (by assumption) (by assumption) (by decide) ?_); intro kwh9 kwtk9 kwF9 kwN9; (try dsimp only [Option.elim]); (try k_sweep)))
  k_with "mine_w21" => (k_here; (with_reducible show wpAny _ _ (call (Value.ref 81) _) _ _ _); k_dflt (refine' ancestors_spec (by k_asm) (by k_asm) (by k_asm) (by k_asm) (by k_asm) (by exact rfl) (by assumption) (by assumption) (by decide) ?_); intro kwlA9 kwnA9 kwh9 kwtk9 kwF9 kwN9; (try k_sweep))
  k_with "mine_w22" => (k_here; (with_reducible show wpAny _ _ (call (Value.builtin "len") [Value.ref _]) _ _ _); k_dflt (refine' len_at (by k_asm) (by k_mem) (by assumption) ?_))
  k_with "mine_w23" => (intro kwz kwh3; (have kwh5 := congrFun (upds_self (by assumption : HoldsL _ _)) kwz); dsimp only [upds] at kwh5; (simp only [List.contains_cons, List.contains_nil, Bool.or_false, Bool.or_eq_false_iff, beq_eq_false_iff_ne, ne_eq] at kwh3); simp only [kwh3, if_false, List.contains_nil, Bool.false_eq_true] at kwh5 ⊢; exact kwh5)
  k_with "mine_w24" => (k_here; first
  | ((with_reducible show wpAny _ _ (call (Value.ref 188) _) _ _ _); k_dflt (refine' law_set_no (by k_asm) (by k_asm) (by k_asm) (by k_asm) (by k_asm) (by exact rfl) (by decide) (by k_mem) (by k_mem) (by k_mem) (by k_mem) (by k_mem) (by assumption) (by assumption) (by assumption) (by assumption) (by assumption) (by assumption) (by k_ne) (by k_ne) (by k_ne) (by assumption) (by assumption) (by assumption) ?_); intro kwh9 kwtk9 kwtt9 kwF9 kwN9; (try k_sweep))
  | ((with_reducible show wpAny _ _ (call (Value.ref 188) _) _ _ _); k_dflt (refine' law_set_yes (by k_asm) (by k_asm) (by k_asm) (by k_asm) (by k_asm) rfl (by decide) ?_ (by k_mem) (by k_mem) (by k_mem) (by k_mem) (by assumption) (by assumption) (by assumption) (by assumption) (by assumption) (by assumption) (by k_ne) (by k_ne) (by k_ne) (by assumption) (by assumption) (by assumption) (by assumption) ?_; (any_goals (k_updF))); intro kwho9 kwh9 kwtk9 kwtt9 kwhd9 kwF9 kwN9; (try dsimp only at kwN9); (try k_sweep))
  | ((with_reducible show wpAny _ _ (call (Value.ref 174) _) _ _ _); k_dflt (refine' whole_spec (by k_asm) (by k_asm) (by k_asm) (by k_asm) (by k_asm) (by exact rfl) (by decide) ?_); intro kwv9 kwd9 kwit9 kwT9 kwh9 kwtk9 kwF9 kwN9 kwa9 kwb9 kwl9; (have kwl8 := LtAll.mk kwl9); (try k_lt kwl9); (try k_lt2 kwa9); (try k_lt2 kwb9); (try k_sweep))
  | ((with_reducible show wpAny _ _ (call (Value.ref 95) _) _ _ _); k_dflt (refine' define_no (by k_asm) (by k_asm) (by k_asm) (by k_asm) (by k_asm) (by exact rfl) (by decide) (by k_mem) (by k_mem) (by k_mem) (by k_mem) (by assumption) (by assumption) (by assumption) (by assumption) (by k_ne) (by k_ne) (by k_ne) (by assumption) (by assumption) (by assumption) (by assumption) ?_))
  | ((with_reducible show wpAny _ _ (call (Value.ref 95) _) _ _ _); k_dflt (refine' define_yes (by k_asm) (by k_asm) (by k_asm) (by k_asm) (by k_asm) (by exact rfl) (by decide) (by k_updF) (by k_mem) (by k_mem) (by k_mem) (by assumption) (by assumption) (by assumption) (by assumption) (by k_ne) (by k_ne) (by k_ne) (by assumption) (by assumption) (by assumption) (by assumption) ?_); intro kwfo9 kwh9 kwtk9 kwhd9 kwF9 kwN9; (try dsimp only at kwN9); (try k_sweep)))
  k_with "mine_w25" => (k_here; k_dflt (refine' max_at (by exact rfl) (by k_asm) (by k_asm) (by assumption) ?_); intro kwh9 kwtk9 kwtt9 kwF9 kwN9; (try k_sweep))
  k_with "mine_to109" => (repeat' (first | ((fail_if_success (with_reducible show wpAny _ _ (call (Value.ref 109) _) _ _ _)); first | (k_unfold; (try dsimp only)) | (k_end; wrow_close) | walk1 | (dsimp only; walk1))))
  k_with "mine_toWhile" => (repeat' (first | ((fail_if_success (with_reducible show wpAny _ _ (exec (Stmt.While _ _ _ _) _) _ _ _)); first | (k_unfold; (try dsimp only)) | (k_end; wrow_close) | walk1 | (dsimp only; walk1))))
  k_with "mine_keep3" => (intro kwz kwh3; (have kwh5 := congrFun (upds_self (by assumption : HoldsL ((Str.ofString "spot", _) :: _) _)) kwz); dsimp only [upds] at kwh5; (simp only [List.contains_cons, List.contains_nil, Bool.or_false, Bool.or_eq_false_iff, beq_eq_false_iff_ne, ne_eq] at kwh3); simp only [kwh3, if_false, List.contains_nil, Bool.false_eq_true] at kwh5 ⊢; exact kwh5)
  k_with "mine_w29" => (k_here; (with_reducible show wpAny _ _ (subscriptTail _ _ (Value.ref _) (Value.int _ _)) _ _ _); k_dflt (first | (refine' at_sub (by k_asm) (by k_mem) (by assumption) rfl (by assumption) ?_) | (refine' at_sub (i := 0) (by k_asm) (by k_mem) (by assumption) rfl (by assumption) ?_)))
  k_with "mine_w30" => (k_here; first
  | ((with_reducible show wpAny _ _ (call (Value.ref 116) _) _ _ _); k_dflt (refine' remove_no (by k_asm) (by k_asm) (by k_asm) (by k_asm) (by k_asm) (by exact rfl) (by decide) (by k_mem) (by k_mem) (by k_mem) (by k_mem) (by assumption) (by assumption) (by assumption) (by assumption) (by k_ne) (by k_ne) (by k_ne) (by k_ne) (by k_ne) (by k_ne) (by assumption) (by assumption) (by assumption) ?_ ?_))
  | ((with_reducible show wpAny _ _ (call (Value.ref 116) _) _ _ _); k_dflt (refine' remove_yes (by k_asm) (by k_asm) (by k_asm) (by k_asm) (by k_asm) rfl (by decide) ?_ ?_ (by k_mem) (by k_mem) (by k_mem) (by assumption) (by assumption) (by assumption) (by assumption) (by k_ne) (by k_ne) (by k_ne) (by k_ne) (by k_ne) (by k_ne) (by assumption) (by assumption) (by assumption) (by assumption) ?_; (any_goals (k_updF)); (any_goals ((intro kwfop; (try dsimp only); k_updF)))); intro kwfo9 kwlo9 kwh9 kwtk9 kwhd9 kwhe9 kwF9 kwN9; (try dsimp only at kwN9); (try k_sweep)))
  k_with "mine_w31" => (k_here; (with_reducible show wpAny _ _ (getMethod (Value.ref _) (Str.ofString "pop") _) _ _ _); k_dflt (refine kob_method (knd := PySem.strKind _ _) PySem.F.slot_dict_pop PySem.F.type_dict_pop (by k_asm) (by k_mem) (by assumption) ?_))
  k_with "mine_w32" => (k_here; (with_reducible show wpAny _ _ (call (Value.builtin "dict.pop") [Value.ref _, Value.str _ _]) _ _ _); k_dflt (refine' kob_pop (knd := PySem.strKind _ _) (more := []) (by k_asm) (by k_asm) (by k_updF) (by assumption) (strKind_is _ _ _ _) (.inl rfl) (by rfl) (PySem.F.args_dict_pop_2 _ _) (by assumption) (by (rw [sizeLine_eq]; omega)) ?_); intro kwh9 kwho9 kwF9 kwN9 kwhd9; (try dsimp only at kwN9); (try k_sweep))
  k_with "mine_w33" => (k_here; (with_reducible show wpAny _ _ (call (Value.builtin "list.remove") [Value.ref _, Value.str _ _]) _ _ _); k_dflt (refine' rem_at (by k_asm) (by k_asm) (by k_updF) (by assumption) (by assumption) (by assumption) ?_); intro kwus9 kwh9 kwhs9 kwF9 kwN9; (try dsimp only at kwN9); (try k_sweep))
  k_with "mine_w34" => (k_here; k_dflt (refine' in_strs (by k_asm) (by k_mem) (by assumption) (by assumption) ?_))
  k_with "mine_w35" => (k_here; k_dflt (refine' notin_strs (by k_asm) (by k_mem) (by assumption) (by assumption) ?_); (try dsimp only [Bool.not_true, Bool.not_false]))
  k_with "mine_w36" => (k_here; k_dflt (refine' kda_set (knd := PySem.strKind _ _) (by k_asm) (by k_asm) (by k_updF) (by assumption) (strKind_is _ _ _ _) (by (rw [sizeLine_eq]; omega)) ?_); intro kwh9 kwlo9 kwF9 kwN9 kwhd9; (try dsimp only at kwN9); (try k_sweep))
  k_with "mine_w37" => (k_here; (with_reducible show wpAny _ _ (call (Value.builtin _) [Value.ref _, _]) _ _ _); k_dflt (refine' append_K (by k_asm) (by k_asm) (by k_upd) ?_ (by (rw [sizeLine_eq]; simp; omega)); k_whole); intro kwhp kwFp kwNp; (try k_sweep))
  k_with "mine_to181" => (repeat' (first | ((fail_if_success (with_reducible show wpAny _ _ (call (Value.ref 181) _) _ _ _)); first | (k_unfold; (try dsimp only)) | (k_end; wrow_close) | walk1 | (dsimp only; walk1))))
  k_with "mine_toFor" => (repeat' (first | ((fail_if_success (with_reducible show wpAny _ _ (exec (Stmt.For _ _ _ _ _) _) _ _ _)); first | (k_unfold; (try dsimp only)) | (k_end; wrow_close) | walk1 | (dsimp only; walk1))))
  k_with "mine_toTry" => (repeat' (first | ((fail_if_success (with_reducible show wpAny _ _ (exec (Stmt.Try _ _ _ _ _) _) _ _ _)); first | (k_unfold; (try dsimp only)) | (k_end; wrow_close) | walk1 | (dsimp only; walk1))))
  k_with "mine_toRange" => (repeat' (first | ((fail_if_success (with_reducible show wpAny _ _ (call (Value.type "range") _) _ _ _)); first | (k_unfold; (try dsimp only)) | (k_end; wrow_close) | walk1 | (dsimp only; walk1))))
  k_with "mine_keep2" => (intro kwz kwh3; (have kwh5 := congrFun (upds_self (by assumption : HoldsL ((Str.ofString "state", _) :: _) _)) kwz); dsimp only [upds] at kwh5; (simp only [List.contains_cons, List.contains_nil, Bool.or_false, Bool.or_eq_false_iff, beq_eq_false_iff_ne, ne_eq] at kwh3); simp only [kwh3, if_false, List.contains_nil, Bool.false_eq_true] at kwh5 ⊢; exact kwh5)
  k_with "mine_w43" => (k_here; (with_reducible show wpAny _ _ (call (Value.builtin _) [Value.ref _, _]) _ _ _); k_dflt (refine' append_K (by k_asm) (by k_asm) (by k_upd) ?_ (by (rw [sizeLine_eq]; omega)); k_whole); intro kwhp kwFp kwNp; (try k_sweep))
  k_with "mine_to163" => (repeat' (first | ((fail_if_success (with_reducible show wpAny _ _ (call (Value.ref 163) _) _ _ _)); first | (k_unfold; (try dsimp only)) | (k_end; wrow_close) | walk1 | (dsimp only; walk1))))
  k_with "mine_toAssign" => (repeat' (first | ((fail_if_success (with_reducible show wpAny _ _ (exec (Stmt.Assign _ _ _) _) _ _ _)); first | (k_unfold; (try dsimp only)) | (k_end; wrow_close) | walk1 | (dsimp only; walk1))))
  trivial
/-! part Z1 -/
section
open PySem PySem.W PySem.W.X PyProof.Rows
set_option maxRecDepth 100000 in
set_option maxHeartbeats 8000000 in
open_top hd for PySem.Challenge.rw_ov0043_01
end
/-! part A0 -/
theorem part_A0 : True := by w_top off; (try walk1); trivial
section
noncomputable def upds : List (Str × Value) → (Str → Option Value) → Str → Option Value
  | [], m => m
  | (x, v) :: r, m => fun y => if y = x then some v else upds r m y
noncomputable def fg (st : List Str) (u m : Str → Option Value) : Str → Option Value := fun x => if st.contains x then u x else m x
noncomputable def HoldsL : List (Str × Value) → (Str → Option Value) → Prop
  | [], _ => True
  | (x, v) :: r, m => m x = some v ∧ HoldsL r m
noncomputable def OffL (x : Str) : List (Str × Value) → Prop
  | [] => True
  | (y, _) :: r => x ≠ y ∧ OffL x r
noncomputable def Same (st : List Str) (bs : List (Str × Value)) (m' m₀ : Str → Option Value) : Prop := ∀ x, OffL x bs → st.contains x = false → m' x = m₀ x
theorem upds_eq {st : List Str} {m' m₀ : Str → Option Value} : ∀ {bs : List (Str × Value)}, HoldsL bs m' → Same st bs m' m₀ → upds bs (fg st m' m₀) = m' := by
  intro bs H S
  have key : ∀ (l : List (Str × Value)) (x : Str), HoldsL l m' → (OffL x l → fg st m' m₀ x = m' x) → upds l (fg st m' m₀) x = m' x := by
    intro l
    induction l with
    | nil => intro x _ h; exact h trivial
    | cons p r ih =>
      intro x H h
      obtain ⟨y, v⟩ := p
      obtain ⟨h1, h2⟩ := H
      show (if x = y then some v else upds r (fg st m' m₀) x) = m' x
      by_cases e : x = y
      · rw [if_pos e, e, h1]
      · rw [if_neg e]
        exact ih x h2 fun o => h ⟨e, o⟩
  funext x
  refine key bs x H fun o => ?_
  show (if st.contains x then m' x else m₀ x) = m' x
  cases hc : st.contains x with
  | true => simp
  | false => simp only [Bool.false_eq_true, if_false]; exact (S x o hc).symm
theorem news_sub {g h : Heap} {L : Addr} {l l' : List (Addr × Obj)} (N : News g L h l') (hs : ∀ p ∈ l, p ∈ l') : News g L h l := fun q hq => N q (hs q hq)
theorem news_tail {g h : Heap} {L : Addr} {p : Addr × Obj} {l : List (Addr × Obj)} (N : News g L h (p :: l)) : News g L h l := fun q hq => N q (List.mem_cons_of_mem _ hq)
section
variable {prog : Program} {w : World} {A : Around} {E : Value → Shared → Prop} {Q : Flow → Shared → Prop} {s : Shared} {env : Env} {h₀ : Heap} {L : Addr}
noncomputable def WEnd {α : Type} (h₀ : Heap) (L : Addr) (s : Shared) (st : List Str) (m₀ : Str → Option Value) (P : Nat → α → Prop) (bs : α → List (Str × Value)) (nw : α → List (Addr × Obj)) (n : Nat) (s₂ : Shared) : Prop :=
  ∃ h' tk m' a' n' news', s₂ = { s with heap := h', toks := tk } ∧ Fr h₀ L h' m' ∧ News h₀ L h' news' ∧ (∀ p ∈ nw a', p ∈ news') ∧ n' < n ∧ P n' a' ∧ HoldsL (bs a') m' ∧ Same st (bs a') m' m₀
noncomputable def WPost {α : Type} (h₀ : Heap) (L : Addr) (s : Shared) (st : List Str) (m₀ : Str → Option Value) (P : Nat → α → Prop) (bs : α → List (Str × Value)) (nw : α → List (Addr × Obj)) (Q : Flow → Shared → Prop) (n : Nat) (f : Flow) (s₂ : Shared) : Prop :=
  match f with
  | .ret v => Q (.ret v) s₂
  | .brk => Q .next s₂
  | _ => WEnd h₀ L s st m₀ P bs nw n s₂
theorem WEnd.intro {α : Type} {st : List Str} {m₀ m' : Str → Option Value} {P : Nat → α → Prop} {bs : α → List (Str × Value)} {nw : α → List (Addr × Obj)} {n n' : Nat} {h' : Heap} {tk : Nat} {news' : List (Addr × Obj)} (a' : α)
    (F : Fr h₀ L h' m') (N : News h₀ L h' news') (hn : ∀ p ∈ nw a', p ∈ news') (hlt : n' < n) (hP : P n' a') (hH : HoldsL (bs a') m') (hS : Same st (bs a') m' m₀) :
    WEnd h₀ L s st m₀ P bs nw n { s with heap := h', toks := tk } := ⟨h', tk, m', a', n', news', rfl, F, N, hn, hlt, hP, hH, hS⟩
theorem while_rule {α : Type} {test : Expr} {body : List Stmt} {pos : Pos} {m₀ : Str → Option Value} (st : List Str) (P : Nat → α → Prop) (bs : α → List (Str × Value)) (nw : α → List (Addr × Obj)) {n₀ : Nat} (a₀ : α)
    (F : Fr h₀ L s.heap m₀) (N : News h₀ L s.heap (nw a₀)) (hm : HoldsL (bs a₀) m₀) (hP : P n₀ a₀)
    (turn : ∀ n a u h tk, P n a → Fr h₀ L h (upds (bs a) (fg st u m₀)) → News h₀ L h (nw a) →
      wpAny (model prog w) A (isTrue test env (eval test env)) (fun b s₂ =>
        if b = true then wpAny (model prog w) A (execs body env) (WPost h₀ L s st m₀ P bs nw Q n) E s₂ else Q .next s₂) E { s with heap := h, toks := tk })
    (hE : PassesOwn (model prog w) A env E := by passes_own) :
    wpAny (model prog w) A (exec (.While test body [] pos) env) Q E s := by
  refine While_inv2 (fun n m nx => ∃ a, nx = nw a ∧ P n a ∧ HoldsL (bs a) m ∧ Same st (bs a) m m₀) F N ⟨a₀, rfl, hP, hm, fun _ _ _ => rfl⟩ ?_ hE
  rintro n m₁ nx h tk F₁ N₁ ⟨a, rfl, hPa, hH, hS⟩
  have F₂ : Fr h₀ L h (upds (bs a) (fg st m₁ m₀)) := by rw [upds_eq hH hS]; exact F₁
  refine wpAny_mono (turn n a m₁ h tk hPa F₂ N₁) (fun b s₂ p => ?_) fun _ _ x => x
  cases b with
  | false => simpa using p
  | true =>
    simp only [if_true] at p ⊢
    refine wpAny_mono p (fun f s₃ q => ?_) fun _ _ x => x
    cases f with
    | ret v => exact q
    | brk => exact q
    | next =>
      obtain ⟨h', tk', m', a', n', news', rfl, F', N', hn, hlt, hP', hH', hS'⟩ := q
      exact ⟨h', tk', m', nw a', n', rfl, F', fun p hp => N' p (hn p hp), hlt, a', rfl, hP', hH', hS'⟩
    | cont =>
      obtain ⟨h', tk', m', a', n', news', rfl, F', N', hn, hlt, hP', hH', hS'⟩ := q
      exact ⟨h', tk', m', nw a', n', rfl, F', fun p hp => N' p (hn p hp), hlt, a', rfl, hP', hH', hS'⟩
end
/-- an environment object's own dict, as __init__ leaves it -/
noncomputable abbrev envD (w : World) (T : Nat → Tok) (num : Value) (par : Value) (f l : Addr) (lk : Bool) : List DictEntry :=
  [⟨PyData.keyHash w.params (Str.ofString "kind"), .str (Str.ofString "kind") (T 0), .str (Str.ofString "environment") (T 1)⟩,
   ⟨PyData.keyHash w.params (Str.ofString "number"), .str (Str.ofString "number") (T 2), num⟩,
   ⟨PyData.keyHash w.params (Str.ofString "parent"), .str (Str.ofString "parent") (T 3), par⟩,
   ⟨PyData.keyHash w.params (Str.ofString "attrs"), .str (Str.ofString "attrs") (T 4), .none⟩,
   ⟨PyData.keyHash w.params (Str.ofString "frame"), .str (Str.ofString "frame") (T 5), .ref f⟩,
   ⟨PyData.keyHash w.params (Str.ofString "locked"), .str (Str.ofString "locked") (T 6), .bool lk⟩,
   ⟨PyData.keyHash w.params (Str.ofString "locks"), .str (Str.ofString "locks") (T 7), .ref l⟩]
/-- an environment: its addresses, its number and parent, its frame -/
structure Nd where
  e : Addr
  d : Addr
  f : Addr
  l : Addr
  T : Nat → Tok
  num : Int
  nt : Tok
  par : Value
  lk : Bool
  fo : Obj
  fk : List (Str × Value)
noncomputable abbrev Nd.dct (w : World) (c : Nd) : Obj := dictOf (envD w c.T (.int c.num c.nt) c.par c.f c.l c.lk) 7
noncomputable def Nd.has (x : Str) (c : Nd) : Bool := (valueAt c.fk x).isSome
theorem Nd.has_none {x : Str} {c : Nd} (h : valueAt c.fk x = none) : c.has x = false := by unfold Nd.has; rw [h]; rfl
theorem Nd.has_some {x : Str} {c : Nd} {v : Value} (h : valueAt c.fk x = some v) : c.has x = true := by unfold Nd.has; rw [h]; rfl
/-- the chain of environments from a value upward, as the ledger bears it -/
inductive Chain (w : World) (wl : List (Addr × Obj)) : Value → List Nd → Prop
  | nil : Chain w wl .none []
  | cons {c : Nd} {r : List Nd} : (c.e, instObj 163 c.d) ∈ wl → (c.d, c.dct w) ∈ wl → (c.f, c.fo) ∈ wl → c.fo.IsDictOf (PySem.strKind PySem.Challenge.rw_ov0043_01.row.prog w) c.fk → (c.f == sysModules) = false →
      (∀ x v, valueAt c.fk x = some v → ∃ b, v = .ref b) → (c.num = 0 → r = []) → Chain w wl c.par r → Chain w wl (.ref c.e) (c :: r)
theorem Chain.mono {w : World} {wl wl' : List (Addr × Obj)} {v : Value} {r : List Nd} (h : Chain w wl v r) (hs : ∀ p ∈ wl, p ∈ wl') : Chain w wl' v r := by
  induction h with
  | nil => exact .nil
  | cons h1 h2 h3 h4 h5 h6 h7 _ ih => exact .cons (hs _ h1) (hs _ h2) (hs _ h3) h4 h5 h6 h7 ih
theorem Chain.handed {w : World} {wl : List (Addr × Obj)} {v : Value} {r : List Nd} (h : Chain w wl v r) : handedIn v = true := by
  cases h <;> rfl
end
/-! part A1 -/
theorem part_A1 : True := by w_top off; (try walk1); trivial
section
local macro_rules | `(tactic| k_all) => `(tactic| assumption)
section
variable {w : World} {mean : ExcName → Option Value} {mg mb : Str → Option Value} {dp un : Nat} {gd : Option (List Code)} {cn : Str} {cs : Scope} {a : Addr} {ccd : Value} {cl : List (Str × Addr)} {outer : List Env} {A₀ : Around} {base h₀ : Heap} {L : Addr} {m : Str → Option Value} {s : Shared} {Q E : Value → Shared → Prop}
theorem fdiv0 {x : Int} {n : Nat} (h : 0 ≤ x) : 0 ≤ x.fdiv (n : Int) := Int.fdiv_nonneg h (Int.natCast_nonneg n)
theorem fdiv1 {x b : Int} {n : Nat} (h : 0 ≤ x) (h1 : x ≤ b) : x.fdiv (n : Int) ≤ b := by
  rw [Int.fdiv_eq_ediv_of_nonneg _ (Int.natCast_nonneg n)]
  exact Int.le_trans (Int.ediv_le_self _ h) h1
theorem pow7 {prog : Program} {A : Around} {t u : Tok} {k : Int} (h0 : 0 ≤ k) (h1 : k ≤ 1000) (h : ∀ p : Int, 0 < p → p.natAbs.log2 < 9000 → Q (.int p s.toks) { s with toks := s.toks + 1 }) :
    wpAny (model prog w) A (binaryOp .Pow (.int 7 t) (.int k u)) Q E s := by
  refine pow_int_small h0 (by omega) (by decide) (h _ (Int.pow_pos (by decide)) ?_)
  have e : (7 ^ k.toNat : Int).natAbs = 7 ^ k.toNat := by rw [Int.natAbs_pow]; rfl
  rw [e]
  have h9 : (7 ^ k.toNat : Nat) ≠ 0 := Nat.ne_of_gt (Nat.pow_pos (by decide))
  refine (Nat.log2_lt h9).mpr ?_
  calc 7 ^ k.toNat ≤ 8 ^ k.toNat := Nat.pow_le_pow_left (by decide) _
    _ = 2 ^ (3 * k.toNat) := by rw [Nat.pow_mul]
    _ < 2 ^ 9000 := Nat.pow_lt_pow_right (by decide) (by omega)
local macro_rules | `(tactic| walk_at "binaryOp Pow int int") => `(tactic| k_extra "mine_w0")
local macro_rules | `(tactic| walk_at "binaryOp FloorDiv int int") => `(tactic| k_extra "mine_w1")
set_option maxHeartbeats 4000000 in
theorem take_spec 
    {S R : Addr} {rvs : List Value} {ns : List Int} {nS nR : Nat} {at_ most : Int} {tA tM : Tok} {rest : List (Addr × Obj)}
    (B : Below A₀ base outer h₀) (F : Fr h₀ L s.heap m) (X : (hd.heap_39 w.params).In h₀) (N : News h₀ L s.heap ((S, W.listOf #[.ref R, .int at_ tA] nS) :: (R, W.listOf rvs.toArray nR) :: rest))
    (T : Top hd.view_39 (looseW hd.view_39 []) mean mg mb h₀) (hk : cs.kind = .function) (hI : IntsAre rvs ns) (hlen : ns.length ≤ 40) (h0 : 0 ≤ at_) (h1 : at_ ≤ 1000) (hm : 0 < most) (hm2 : most ≤ 1000)
    (hoff : ∀ p ∈ rest, p.1 ≠ S) (hRS : R ≠ S)
    (hdp : dp + 20 < recursionLimit) (hun : un + 100 < cLine)
    (ret : ∀ r t tA' h' tk', 0 ≤ r → r < most → Fr h₀ L h' m → News h₀ L h' ((S, W.listOf #[.ref R, .int (at_ + 1) tA'] (nS)) :: (R, W.listOf rvs.toArray nR) :: rest) → Q (.int r t) { s with heap := h', toks := tk' }) :
    wpAny (model PySem.Challenge.rw_ov0043_01.row.prog w) (ktrTop dp un gd cn cs L a ccd cl outer) (call (.ref 181) [.ref S, .int most tM]) Q E s := by
  revert X; k_fill; intro X
  refine wpAny_call ?_
  k_dflt ktr_enter
  k_steps
  all_goals first
    | exact ret _ _ _ _ _ (by omega) (by omega) (by assumption) (news_tail (by assumption))
    | exact ret _ _ _ _ _ (Int.fmod_nonneg_of_pos _ (by assumption)) (Int.fmod_lt_of_pos _ (by assumption)) (by assumption) (news_tail (by assumption))
    | (exfalso; (rename decide (ns = []) = false => hne); have h9 : ns ≠ [] := of_decide_eq_false hne; have h8 := List.length_pos_iff.mpr h9; omega)
end
end
/-! part A3 -/
theorem part_A3 : True := by w_top off; (try walk1); trivial
section
open PySem PySem.W PySem.Calls PyProof.Rows Builtin Builtin.ObjectAttr
section
variable {prog : Program} {w : World} {A : Around} {E : Value → Shared → Prop} {h : Heap} {g : Array GenState} {d : Drawn} {t : Nat} {os : OsState}
variable {nm q : Str} {C N : Addr} {bs bm bmB : List Value} {hdct : Bool} {sn : List Str} {sub : List Value} {ab : Bool} {col : Option Bool} {dd : Option Addr} {k0 k1 k2 k3 k5 : Option Value} {B newId initId : String}
/-- an own exception class over own classes, with an __init__ of its own: the machine's call of the class -/
theorem ownInit_run (F : ExcBaseFacts B newId initId bmB) (T : OwnTail h bmB bm) {mN : Str → Option Value} {rest : List Value} {fI : Addr} {oI : Obj} {Q : Fin → Shared → Prop}
    (hC : h.get? C = some (excClassObj nm q C N bs bm hdct sn sub ab col dd k0 k1 k2 k3 k5 newId)) (hn : h.Ns N mN) (hi : mN "__init__" = some (.ref fI)) (hfI : h.get? fI = some oI) (hfc : oI.cls = .type "function") (hrest : rest.length ≤ sizeLine)
    (hq : ∀ h' e, Heap.MadeExcOf h h' e (.ref C) rest → wpAny (model prog w) A (call (.ref fI) (.ref e :: rest)) (fun r s' => r = .none ∧ Q (.done (.ret (.ref e))) s') E ⟨h', g, d, t, os⟩) :
    wpAny (model prog w) A (Builtin.«type.__call__» ⟨.ref C :: rest, []⟩) Q E ⟨h, g, d, t, os⟩ := by
  have kp : ∀ b o, h.get? b = some o → ((h.push { cls := .type "tuple", data := .seq rest.toArray }).push { cls := .ref C, data := .fields #[.ref h.objs.size, .none, .none, .none, .bool false, .none] }).get? b = some o :=
    fun b o e => Heap.get?_push_of_some _ (Heap.get?_push_of_some _ e)
  have he : ((h.push { cls := .type "tuple", data := .seq rest.toArray }).push { cls := .ref C, data := .fields #[.ref h.objs.size, .none, .none, .none, .bool false, .none] }).get? (h.objs.size + 1) = some
      { cls := .ref C, data := .fields #[.ref h.objs.size, .none, .none, .none, .bool false, .none] } := by heap_get
  have hself : (Value.ref C :: bm).contains (.ref C) = true := by simp
  repeat (first | with_reducible refine wpAny_loadPart_at hC ?_ | with_reducible refine wpAny_madeBy_exc hC ?_ | wp_step)
  refine codeAny_call_builtin_code (Code.quiet_builtin _ F.quiet) (wpAny_check_new_subT F T hC (codeAny_exc_new_subT F T hC ?_ hrest))
  show wpAny _ _ _ _ _ _
  unfold isInstance
  repeat (first | with_reducible refine wpAny_loadPart_at he ?_ | (with_reducible refine wpAny_isSubtype_exc (kp _ _ hC) ?_; rw [hself]) | wp_step)
  show wpAny _ _ (typeLookup (.ref C) _) _ _ _
  refine wpAny_typeLookup_tail (kp _ _ hC) (hn.keeps kp) (T.keeps kp) F.mroIs F.init.lookup ?_
  rw [hi]
  refine wpAny_holding (wpAny_bind ?_)
  unfold bindSpecial
  refine wpAny_bind (wpAny_typeOf (T := "function") ⟨_, kp _ _ hfI, hfc⟩ ?_)
  rw [if_pos (by decide)]
  have made : Heap.MadeExcOf h _ (h.objs.size + 1) (.ref C) rest :=
    ⟨kp, Heap.get?_none_of_le (Nat.le_succ _), h.objs.size, he, Heap.get?_none_of_le (Nat.le_refl _), Heap.get?_push_of_some _ (Heap.get?_push_at rfl rfl)⟩
  refine wpAny_pure (wpAny_bind (wpAny_mono (hq _ _ made) (fun r s' hr => ?_) fun _ _ x => x))
  obtain ⟨rfl, hQ⟩ := hr
  wp_walk
  exact hQ
theorem ownInit_call (F : ExcBaseFacts B newId initId bmB) (T : OwnTail h bmB bm) {mN : Str → Option Value} {rest : List Value} {fI : Addr} {oI : Obj} {Q : Value → Shared → Prop}
    (hC : h.get? C = some (excClassObj nm q C N bs bm hdct sn sub ab col dd k0 k1 k2 k3 k5 newId)) (hn : h.Ns N mN) (hi : mN "__init__" = some (.ref fI)) (hfI : h.get? fI = some oI) (hfc : oI.cls = .type "function") (hrest : rest.length ≤ sizeLine)
    (hq : ∀ h' e, Heap.MadeExcOf h h' e (.ref C) rest →
      wpAny (model prog w) (A.under (.builtin "type.__call__" ⟨.ref C :: rest, []⟩)) (call (.ref fI) (.ref e :: rest)) (fun r s' => r = .none ∧ Q (.ref e) s') E ⟨h', g, d, t, os⟩) :
    wpAny (model prog w) A (call (.ref C) rest) Q E ⟨h, g, d, t, os⟩ := by
  have f1 := tc_lookup
  have f2 := tc_bind (.ref C)
  have hT : (⟨h, g, d, t, os⟩ : Shared).TypeIs (.ref C) "type" := ⟨_, hC, rfl⟩
  refine wpAny_call (codeAny_of_tree ?_)
  show wpAny _ _ (callAny (.ref C) _) _ _ _
  repeat (any_goals (first | assumption | with_reducible refine wpAny_loadPart_at hC ?_ | wp_step))
  exact ⟨rfl, codeAny_call_builtin_at (Code.quiet_builtin _ (by decide +kernel)) entry_typeCall (wpAny_check_type_call_sub hC (ownInit_run F T hC hn hi hfI hfc hrest fun h' e hm => hq h' e hm))⟩
end
section
variable {w : World} {A : Around} {E : Value → Shared → Prop} {s : Shared}
noncomputable abbrev msgDict (w : World) (tk : Tok) (v : Value) : Obj := dictOf [⟨PyData.keyHash w.params (Str.ofString "message"), .str (Str.ofString "message") tk, v⟩] 1
set_option maxHeartbeats 2000000 in
/-- the first store into an own exception's dict -/
theorem setMsg {x : Addr} {vs : Array Value} {v : Value} {Q : Unit → Shared → Prop} (X : (hd.heap_39 w.params).In s.heap) (he : s.heap.get? x = some { cls := .ref 51, data := .fields vs })
    (h : ∀ h' D tk tk', h'.get? x = some { cls := .ref 51, dict := some D, data := .fields vs } → h'.get? D = some (msgDict w tk v) → s.heap.get? D = none → D ≠ x → (∀ b o, b ≠ x → s.heap.get? b = some o → h'.get? b = some o) → Q () { s with heap := h', toks := tk' }) :
    wpAny (model PySem.Challenge.rw_ov0043_01.row.prog w) A (setAttr (.ref x) (Str.ofString "message") v) Q E s := by
  revert X; k_fill; intro X
  have I : InstAt s.heap x { cls := .ref 51, data := .fields vs } 51 none := ⟨he, rfl, rfl, trivial⟩
  refine set_plain X I (by k_is) ?_
  have SF := PySem.F.store_object
  have sub : Looks (model PySem.Challenge.rw_ov0043_01.row.prog w) s.heap (isInstance (.ref x) (.type "object")) true := I.type.andThen (looks_mroIn X (by k_is))
  refine codeAny_call_builtin SF.slot.plain SF.entry (@check_slot (model PySem.Challenge.rw_ov0043_01.row.prog w) _ _ { s with toks := s.toks + 1 } "object.__setattr__" "object" "__setattr__" (.ref x) [.str (Str.ofString "message") s.toks, v] [] _ SF.kind SF.split sub (SF.args (.ref x) (.str (Str.ofString "message") s.toks) v) ?_)
  have hm : Looks (model PySem.Challenge.rw_ov0043_01.row.prog w) s.heap (mroOf (.ref 51)) [.ref 51, .ref 31, .type "Exception", .type "BaseException", .type "object"] := (looks_clsIn X (by k_is)).andThen .now
  rw [osa_eq, refuse_eq]
  refine wpAny_bind (wpAny_bind (I.type _ _ _ _ (fun _ _ e => e) (wpAny_bind (hm _ _ _ _ (fun _ _ e => e) ?_))))
  rw [refuseLoop_ref, refuseLoop_ref, PySem.F.store_Exception.passes]
  refine wpAny_pure (wpAny_bind (I.type _ _ _ _ (fun _ _ e => e) (wpAny_bind (looks_findIn X (r := none) (by k_is) _ _ _ _ (fun _ _ e => e) (wpAny_bind (wpAny_pure ?_))))))
  show wpAny _ _ (storeInOwnDict (.ref x) (.ref 51) _ _ _ _) _ _ _
  have hcd := looks_clsIn (M := model PySem.Challenge.rw_ov0043_01.row.prog w) (C := 51) X (by k_is)
  have hxs : x ≠ s.heap.objs.size := Nat.ne_of_lt (Heap.lt_size he)
  have hx1 : (s.heap.push { cls := .type "dict", data := .dict #[] }).get? x = some { cls := .ref 51, data := .fields vs } := Heap.get?_push_of_some _ he
  refine wpAny_bind (wpAny_pure (wpAny_bind (wpAny_bind (wpAny_loadPart he (wpAny_bind (hcd _ _ _ _ (fun _ _ e => e) ?_))))))
  refine wpAny_bind (wpAny_alloc' (wpAny_bind (wpAny_update' hx1 (wpAny_pure ?_))))
  have hD : ((s.heap.push { cls := .type "dict", data := .dict #[] }).update x fun o => { cls := o.cls, dict := some s.heap.objs.size, data := o.data, slots := o.slots }).get? s.heap.objs.size = some (dictOf [] 0) :=
    (Heap.get?_update_ne _ _ _ _ hxs.symm).trans (Heap.get?_push_at rfl rfl)
  have hD2 : (((s.heap.push { cls := .type "dict", data := .dict #[] }).update x fun o => { cls := o.cls, dict := some s.heap.objs.size, data := o.data, slots := o.slots }).update s.heap.objs.size (Obj.putName (Str.ofString "message") (PyData.keyHash w.params (Str.ofString "message")) (.str (Str.ofString "message") (s.toks + 1)) v)).get? s.heap.objs.size = some (msgDict w (s.toks + 1) v) := by
    rw [Heap.get?_update_self _ hD (by rw [putName_dict]; rfl), putName_dict]; rfl
  show wpAny _ _ (storeInDict s.heap.objs.size _ _ _) _ _ _
  refine wpAny_bind (wpAny_pure (wpAny_bind ?_))
  unfold nsSet
  refine wpAny_bind (wpAny_bind (wpAny_askSetting (wpAny_pure (wpAny_bind (wpAny_mkText (wpAny_bind (wpAny_loadPart hD ?_)))))))
  dsimp only
  rw [aRefKeyMayBeTheName_at, show ∀ z : Str, (!([] : List DictEntry).toArray.any (fun e => e.key.isStr z) && ([] : List DictEntry).toArray.any (fun e => e.refKey)) = false from fun _ => by simp]
  refine wpAny_updatePart hD ?_
  refine wpAny_bind (wpAny_lookBehind hD2 rfl ?_)
  refine wpAny_pure (h _ s.heap.objs.size _ _ ?_ hD2 (Heap.get?_none_of_le (Nat.le_refl _)) hxs.symm fun b o hb e => ?_)
  · refine (Heap.get?_update_ne _ _ _ _ hxs).trans (Heap.get?_update_self _ hx1 rfl)
  · rw [Heap.get?_update_ne _ _ _ _ (Nat.ne_of_lt (Heap.lt_size e)), Heap.get?_update_ne _ _ _ _ hb]
    exact Heap.get?_push_of_some _ e
end
noncomputable def strKeyB (e : DictEntry) : Bool := match e.key with | .str _ _ => true | _ => false
theorem strKeys_of {es : Array DictEntry} (hk : es.toList.all strKeyB = true) : StrKeys es := fun x hx => by
  have h1 := List.all_eq_true.mp hk x (Array.mem_toList_iff.mpr hx)
  unfold strKeyB at h1
  split at h1
  · rename_i n t e; exact ⟨n, t, e⟩
  · cases h1
theorem ns_of {h : Heap} {a : Addr} {c : Value} {d : Option Addr} {es : Array DictEntry} {n : Nat} {sl : Array (Option Value)} (e : h.get? a = some ⟨c, d, .dict es n, sl⟩) (hk : es.toList.all strKeyB = true) : h.Ns a (nsFind es) :=
  ⟨_, es, n, e, rfl, strKeys_of hk, fun _ => rfl⟩
noncomputable abbrev excO (D tt : Addr) : Obj := { cls := .ref 51, dict := some D, data := .fields #[.ref tt, .none, .none, .none, .bool false, .none] }
noncomputable abbrev tupO (vs : List Value) : Obj := { cls := .type "tuple", data := .seq vs.toArray }
theorem none_of_fr {g h : Heap} {L : Addr} {m : Str → Option Value} (F : Fr g L h m) {b : Addr} (e : h.get? b = none) : g.get? b = none := by
  cases q : g.get? b with
  | none => rfl
  | some o => have := F.keep b o q; rw [e] at this; cases this
theorem fr_one {g h h' : Heap} {L x : Addr} {m : Str → Option Value} (F : Fr g L h m) (hk : ∀ b o, b ≠ x → h.get? b = some o → h'.get? b = some o) (hL : x ≠ L) (hx : g.get? x = none) : Fr g L h' m :=
  ⟨F.ns.at' fun o e => hk L o (Ne.symm hL) e, fun b o e => hk b o (fun q => by rw [q, hx] at e; cases e) (F.keep b o e), F.above⟩
theorem off_locals {h : Heap} {L e : Addr} {m : Str → Option Value} {o : Obj} (hn : h.Ns L m) (he : h.get? e = some o) (hd : ∀ es n, o.data ≠ .dict es n) : e ≠ L := fun q => by
  obtain ⟨o', es, n, ho, hd', _⟩ := hn
  rw [← q, he] at ho
  cases ho
  exact hd _ _ hd'
section
variable {w : World} {mean : ExcName → Option Value} {mg mb : Str → Option Value} {dp un : Nat} {gd : Option (List Code)} {cn : Str} {cs : Scope} {a : Addr} {ccd : Value} {cl : List (Str × Addr)} {outer : List Env} {A₀ : Around} {base h₀ : Heap} {L : Addr} {m : Str → Option Value} {s : Shared} {Q E : Value → Shared → Prop}
set_option maxHeartbeats 4000000 in
theorem refusal_new {news : List (Addr × Obj)} {x : Str} {tx : Tok}
    (B : Below A₀ base outer h₀) (F : Fr h₀ L s.heap m) (X : (hd.heap_39 w.params).In h₀) (N : News h₀ L s.heap news)
    (T : Top hd.view_39 (looseW hd.view_39 []) mean mg mb h₀) (hk : cs.kind = .function) (hdp : dp + 20 < recursionLimit)
    (ret : ∀ e D tt tk h' tk', Fr h₀ L h' m → News h₀ L h' ((e, excO D tt) :: (D, msgDict w tk (.str x tx)) :: (tt, tupO [.str x tx]) :: news) → (∀ p ∈ (D, msgDict w tk (.str x tx)) :: (tt, tupO [.str x tx]) :: news, p.1 ≠ e) → (∀ p ∈ news, p.1 ≠ D) → Q (.ref e) { s with heap := h', toks := tk' }) :
    wpAny (model PySem.Challenge.rw_ov0043_01.row.prog w) (ktrTop dp un gd cn cs L a ccd cl outer) (call (.ref 51) [.str x tx]) Q E s := by
  revert X; k_fill; intro X
  obtain ⟨h, g, d, t, os⟩ := s
  have X1 := X.keeps F.keep
  have hC := X1 51 _ (by k_is)
  have hN := X1 50 _ (by k_is)
  have hA := X1 31 _ (by k_is)
  have hM := X1 30 _ (by k_is)
  have hI := X1 48 _ (by k_is)
  refine ownInit_call (mN := nsFind _) PySem.F.excBase_Exception (.own hA (ns_of hM (by rfl)) (by rfl) .base) hC (ns_of hN (by rfl)) (by rfl) hI rfl (by rw [sizeLine_eq]; exact Nat.le_of_ble_eq_true rfl) fun h' e made => ?_
  obtain ⟨tt, he, htn, htt⟩ := made.there
  have hen := made.new
  have het : e ≠ tt := fun q => by rw [q, htt] at he; cases he
  have F1 : Fr h₀ L h' m := F.keeps made.keeps
  have L1 : News h₀ L h' ((e, { cls := .ref 51, data := .fields #[.ref tt, .none, .none, .none, .bool false, .none] }) :: (tt, tupO [.str x tx]) :: news) := fun p hp => by
    rcases List.mem_cons.mp hp with rfl | hp
    · exact ⟨he, off_locals F1.ns he (fun _ _ q => by cases q), none_of_fr F hen⟩
    rcases List.mem_cons.mp hp with rfl | hp
    · exact ⟨htt, off_locals F1.ns htt (fun _ _ q => by cases q), none_of_fr F htn⟩
    · exact ⟨made.keeps _ _ (N p hp).1, (N p hp).2⟩
  have hoe : ∀ p ∈ news, p.1 ≠ e := fun p hp q => by have := (N p hp).1; rw [q, hen] at this; cases this
  clear hC hN hA hM hI X1
  refine wpAny_call ?_
  k_dflt ktr_enter
  k_steps
  rename Fr _ _ _ _ => lF; rename News _ _ _ _ => lN; rename Frag.In _ _ => lX
  refine setMsg (lX.keeps lF.keep) (lN.get (.head _)) fun h2 D tk2 tk3 k1 k2 k3 k4 k5 => ?_
  have ge := lN.fresh (.head _)
  have eL := (lN _ (.head _)).2.1
  have F2 := fr_one lF k5 eL ge
  have hoD : ∀ p ∈ news, p.1 ≠ D := fun p hp q => by have := (lN p (.tail _ (.tail _ hp))).1; rw [q, k3] at this; cases this
  have httD : tt ≠ D := fun q => by have := (lN _ (.tail _ (.head _))).1; rw [q, k3] at this; cases this
  have N2 : News _ _ h2 ((e, excO D tt) :: (D, msgDict w tk2 (.str x tx)) :: (tt, tupO [.str x tx]) :: news) := fun p hp => by
    rcases List.mem_cons.mp hp with rfl | hp
    · exact ⟨k1, eL, ge⟩
    rcases List.mem_cons.mp hp with rfl | hp
    · refine ⟨k2, fun q => ?_, none_of_fr lF k3⟩
      obtain ⟨o', _, _, ho, _⟩ := lF.ns
      rw [← q, k3] at ho
      cases ho
    · have n1 := lN p (.tail _ hp)
      refine ⟨k5 _ _ (fun q => ?_) n1.1, n1.2⟩
      rcases List.mem_cons.mp hp with rfl | hp
      · exact het q.symm
      · exact hoe p hp q
  clear lF lN k1 k2 k5
  k_steps
  refine ret _ _ _ _ _ _ (by assumption) (by assumption) (fun p hp => ?_) hoD
  rcases List.mem_cons.mp hp with rfl | hp
  · exact k4
  rcases List.mem_cons.mp hp with rfl | hp
  · exact het.symm
  · exact hoe p hp
end
end
/-! part A4 -/
theorem part_A4 : True := by w_top off; (try walk1); trivial
section
/-- a Refusal on its way: its dict, its traceback's head -/
noncomputable def TrD (h B : Heap) (e D : Addr) (fl : Value) : Prop :=
  ∃ oe vs T oT ts, h.get? e = some oe ∧ oe.cls = .ref 51 ∧ oe.dict = some D ∧ oe.data = .fields vs ∧ vs[1]? = some (.ref T) ∧ B.get? T = none ∧ T ≠ e ∧ h.get? T = some oT ∧ oT.data = .fields ts ∧ ts[3]? = some fl
structure FlyD (B : Heap) (l : List Env) (e D : Addr) (fl : Value) (h : Heap) : Prop where
  keep : B.StaysIn h
  new : B.get? e = none
  frames : h.FunFrames B l
  tr : TrD h B e D fl
theorem dict_mapFields (o : Obj) (f : Array Value → Array Value) : (o.mapFields f).dict = o.dict := by
  obtain ⟨c, d, dt, sl⟩ := o; cases dt <;> rfl
theorem FlyD.tail {B h : Heap} {env : Env} {l : List Env} {e D : Addr} {fl : Value} (x : FlyD B (env :: l) e D fl h) : FlyD B l e D fl h := ⟨x.keep, x.new, x.frames.2.2, x.tr⟩
section
variable {M : Model} {A : Around} {E : Value → Shared → Prop} {s : Shared} {B : Heap} {env : Env} {outer l : List Env} {L e D : Addr} {fl : Value} {Q : Unit → Shared → Prop}
theorem entryD {oe : Obj} {vs : Array Value} {head : Value} {hadNext : Bool} (hfr : A.frames = some (env :: outer)) (hl : s.heap.FunFrames B (env :: outer)) (hf : env.frame = some L)
    (he : s.heap.get? e = some oe) (hc : oe.cls = .ref 51) (hdd : oe.dict = some D) (hd : oe.data = .fields vs) (h1 : 1 < vs.size) (hk : B.StaysIn s.heap) (hn : B.get? e = none)
    (h : ∀ h', FlyD B (env :: outer) e D (rawInt L) h' → s.heap.UpToSlots h' → Q () { s with heap := h' }) :
    wpAny M A (do let a ← frameOf env; let pl ← entryPlaceOf L hadNext; let b ← EntryCells.newEntry head a .none (rawInt L) .none pl; setField (.ref e) 1 b) Q E s := by
  have ne : e ∉ (env :: outer).filterMap (·.frame) := fun hm => by
    obtain ⟨_, o, ho, hnf⟩ := hl.mem hm
    rw [he] at ho
    cases ho
    exact hnf _ hd
  refine wpAny_bind (wpAny_frameOf_fun hfr hl hf fun h₁ hs => wpAny_bind (wpAny_entryPlaceOf fun pl hpl => ?_))
  unfold EntryCells.newEntry newFields
  refine wpAny_bind (wpAny_newObj_type ?_ (hpl.sizeOk5 _ _ _ _ _))
  have e1 : h₁.get? e = some oe := (hs.2.1 e ne).trans he
  have nT : h₁.objs.size ≠ e := Nat.ne_of_gt (Heap.lt_size e1)
  have noRec : ∀ b o, s.heap.get? b = some o → (∀ vs, o.data ≠ .fields vs) → b ≠ e := fun b o hb hnf q => by
    rw [q, he] at hb
    cases hb
    exact hnf _ hd
  refine wpAny_setField (Heap.get?_push_of_some _ e1) hd h1 ?_
  have same : ∀ (tb : Obj) (f : Obj → Obj) b o, b ≠ e → h₁.get? b = some o → ((h₁.push tb).update e f).get? b = some o := fun tb f b o hb ho => by
    rw [Heap.get?_update_other _ _ (Ne.symm hb)]
    exact Heap.get?_push_of_some _ ho
  have kB : ∀ b o, B.get? b = some o → b ≠ e ∧ h₁.get? b = some o := fun b o ho =>
    ⟨fun q => (by rw [q, hn] at ho; cases ho), (hs.2.1 b fun hm => by rw [(hl.mem hm).1] at ho; cases ho).trans (hk b o ho)⟩
  refine h _ ⟨fun b o ho => same _ _ b o (kB b o ho).1 (kB b o ho).2, hn, hl.of_keeps fun b o hb hnf => ?_, ?_⟩ fun b o hb hnf => ?_
  · obtain ⟨sl, q⟩ := hs.2.2 b o hb
    exact ⟨_, same _ _ b _ (noRec b o hb hnf) q, rfl⟩
  · refine ⟨_, _, h₁.objs.size, { cls := .type "traceback", dict := none, data := .fields ([head, .ref L, .none, rawInt L, .none] ++ (if pl.isEmpty then List.replicate 6 Value.none else pl)).toArray }, ([head, .ref L, .none, rawInt L, .none] ++ (if pl.isEmpty then List.replicate 6 Value.none else pl)).toArray, Heap.get?_update_self _ (Heap.get?_push_of_some _ e1) (Obj.isFreed_of_fields (Obj.data_mapFields hd _)), (Obj.cls_mapFields _ _).trans hc, (dict_mapFields _ _).trans hdd, Obj.data_mapFields hd _, by simp [h1], ?g1, nT, ?g2, ?g3, ?g4⟩
    case g1 =>
      cases q : B.get? h₁.objs.size with
      | none => rfl
      | some o => exact absurd (Heap.lt_size (kB _ o q).2) (Nat.lt_irrefl _)
    case g2 =>
      rw [Heap.get?_update_other _ _ (Ne.symm nT)]
      exact Heap.get?_push_size _ rfl
    case g3 => exact rfl
    case g4 => rcases hpl with rfl | ⟨_, _, _, _, _, _, _, rfl⟩ <;> simp
  · obtain ⟨sl, q⟩ := hs.2.2 b o hb
    exact ⟨sl, same _ _ b _ (noRec b o hb hnf) q⟩
/-- the frame is noted on a fresh Refusal -/
theorem noteFirst {oe : Obj} {vs : Array Value} (hfr : A.frames = some (env :: outer)) (hl : s.heap.FunFrames B (env :: outer)) (hf : env.frame = some L)
    (he : s.heap.get? e = some oe) (hc : oe.cls = .ref 51) (hdd : oe.dict = some D) (hd : oe.data = .fields vs) (h1 : vs[1]? = some .none) (hk : B.StaysIn s.heap) (hn : B.get? e = none)
    (h : ∀ h', FlyD B (env :: outer) e D (rawInt L) h' → s.heap.UpToSlots h' → Q () { s with heap := h' }) : wpAny M A (noteFrame (.ref e) env) Q E s := by
  unfold noteFrame
  simp only [hf]
  refine wpAny_bind (wpAny_field he hd h1 ?_)
  rw [if_neg (by decide)]
  exact entryD hfr hl hf he hc hdd hd (Array.getElem?_eq_some_iff.mp h1).1 hk hn h
theorem noteNext (hfr : A.frames = some (env :: outer)) (hf : env.frame = some L) (R : FlyD B (env :: outer) e D .none s.heap)
    (h : ∀ h', FlyD B (env :: outer) e D (rawInt L) h' → s.heap.UpToSlots h' → Q () { s with heap := h' }) : wpAny M A (noteFrame (.ref e) env) Q E s := by
  obtain ⟨k1, k2, k3, oe, vs, T, oT, ts, he, hc, hdd, hd, h1, hB, hTe, hT, hdT, h3⟩ := R
  unfold noteFrame
  simp only [hf]
  refine wpAny_bind (wpAny_field he hd h1 ?_)
  rw [if_pos (show (Value.ref T != Value.none) = true from by simp)]
  refine wpAny_bind (wpAny_field hT hdT h3 ?_)
  rw [if_neg (show ¬ ((Value.none == rawInt L) = true) from by simp [rawInt])]
  refine wpAny_bind (wpAny_setField hT hdT (Array.getElem?_eq_some_iff.mp h3).1 ?_)
  have off : ∀ b, b ≠ T → (s.heap.update T (Obj.mapFields (·.setIfInBounds 3 Value.none))).get? b = s.heap.get? b := fun b hb => Heap.get?_update_other _ _ (Ne.symm hb)
  have noRec : ∀ b o, s.heap.get? b = some o → (∀ vs, o.data ≠ .fields vs) → b ≠ T := fun b o hb hnf q => by
    rw [q, hT] at hb
    cases hb
    exact hnf _ hdT
  refine entryD hfr (k3.of_keeps fun b o hb hnf => ⟨o, (off b (noRec b o hb hnf)).trans hb, rfl⟩) hf ((off e hTe.symm).trans he) hc hdd hd (Array.getElem?_eq_some_iff.mp h1).1
    (fun b o ho => (off b fun q => by rw [q, hB] at ho; cases ho).trans (k1 b o ho)) k2 fun h' x1 x2 => h h' x1 fun b o hb hnf => x2 b o ((off b (noRec b o hb hnf)).trans hb) hnf
/-- the flight's mark is wiped -/
theorem landD (R : FlyD B l e D fl s.heap) (h : ∀ h', FlyD B l e D .none h' → s.heap.UpToSlots h' → Q () { s with heap := h' }) : wpAny M A (setFlight (.ref e) none) Q E s := by
  obtain ⟨k1, k2, k3, oe, vs, T, oT, ts, he, hc, hdd, hd, h1, hB, hTe, hT, hdT, h3⟩ := R
  have sz : 3 < ts.size := (Array.getElem?_eq_some_iff.mp h3).1
  have off : ∀ b, b ≠ T → (s.heap.update T (Obj.mapFields (·.setIfInBounds 3 ((none : Option Addr).elim Value.none fun f => rawInt f)))).get? b = s.heap.get? b := fun b hb => Heap.get?_update_other _ _ (Ne.symm hb)
  have noRec : ∀ b o, s.heap.get? b = some o → (∀ vs, o.data ≠ .fields vs) → b ≠ T := fun b o hb hnf q => by
    rw [q, hT] at hb
    cases hb
    exact hnf _ hdT
  unfold setFlight
  refine wpAny_bind (wpAny_field he hd h1 ?_)
  rw [if_pos (show (Value.ref T != Value.none) = true from by simp)]
  refine wpAny_setField hT hdT sz (h _ ⟨fun b o ho => (off b fun q => by rw [q, hB] at ho; cases ho).trans (k1 b o ho), k2, k3.of_keeps fun b o hb hnf => ⟨o, (off b (noRec b o hb hnf)).trans hb, rfl⟩, ?_⟩
    fun b o hb hnf => ⟨o.slots, (off b (noRec b o hb hnf)).trans hb⟩)
  exact ⟨oe, vs, T, _, _, (off e hTe.symm).trans he, hc, hdd, hd, h1, hB, hTe, Heap.get?_update_self _ hT (Obj.isFreed_of_fields (Obj.data_mapFields hdT _)), Obj.data_mapFields hdT _, by simp [sz]⟩
theorem leaveFirst {oe : Obj} {vs : Array Value} (hfr : A.frames = some (env :: outer)) (hl : s.heap.FunFrames B (env :: outer)) (hf : env.frame = some L)
    (he : s.heap.get? e = some oe) (hc : oe.cls = .ref 51) (hdd : oe.dict = some D) (hd : oe.data = .fields vs) (h1 : vs[1]? = some .none) (hk : B.StaysIn s.heap) (hn : B.get? e = none)
    (h : ∀ h', FlyD B outer e D .none h' → s.heap.UpToSlots h' → Q () { s with heap := h' }) : wpAny M A (leaving env (.ref e)) Q E s := by
  unfold leaving
  refine wpAny_bind (noteFirst hfr hl hf he hc hdd hd h1 hk hn fun h₁ R u => landD R fun h₂ R₂ u₂ => h h₂ R₂.tail (u.trans u₂))
theorem leaveNext (hfr : A.frames = some (env :: outer)) (hf : env.frame = some L) (R : FlyD B (env :: outer) e D .none s.heap)
    (h : ∀ h', FlyD B outer e D .none h' → s.heap.UpToSlots h' → Q () { s with heap := h' }) : wpAny M A (leaving env (.ref e)) Q E s := by
  unfold leaving
  refine wpAny_bind (noteNext hfr hf R fun h₁ R₁ u => landD R₁ fun h₂ R₂ u₂ => h h₂ R₂.tail (u.trans u₂))
end
section
variable {w : World} {A : Around} {E : Value → Shared → Prop} {s : Shared} {env : Env}
theorem raiseRefusal {x : Expr} {pos : Pos} {Q : Flow → Shared → Prop} (hh : A.handled = none)
    (h : wpAny (model PySem.Challenge.rw_ov0043_01.row.prog w) A (eval x env) (fun v s₁ => ∃ e D tt, v = .ref e ∧ (hd.heap_39 w.params).In s₁.heap ∧ s₁.heap.get? e = some (excO D tt) ∧ E (.ref e) s₁) E s) :
    wpAny (model PySem.Challenge.rw_ov0043_01.row.prog w) A (exec (.Raise (some x) none pos) env) Q E s := by
  rw [arm_exec_Raise]
  show wpAny _ _ (do standAt pos; raiseStmt env (some (do let v ← eval x env; standAt pos; pure v)) none) Q E s
  refine wpAny_bind (wpAny_standAt ?_)
  unfold raiseStmt
  refine wpAny_bind (wpAny_bind (wpAny_mono h (fun v s₁ h₁ => wpAny_bind (wpAny_standAt (wpAny_pure ?_))) fun _ _ x => x))
  obtain ⟨e, D, tt, rfl, X, he, hE⟩ := h₁
  have hq : ktsIn (hd.heap_39 w.params) 51 "BaseException" = true := by
    revert X; k_fill; intro X
    kernel_rfl
  obtain ⟨nm, q', N, bs, bm, hdct, sn, sub, ab, col, dd, k0, k1, k2, k3, k5, newId, hC, hbase, _⟩ := kts_cls X hq
  obtain ⟨hp, g, d, tk, os⟩ := s₁
  have hcB : (Value.ref 51 :: bm).contains (.type "BaseException") = true := by rw [List.contains_cons, hbase, Bool.or_true]
  repeat (first | with_reducible refine wpAny_loadPart_at he ?_ | with_reducible refine wpAny_loadPart_at hC ?_ | (with_reducible refine wpAny_isSubtype_exc hC ?_; rw [hcB]) | wp_step)
  exact wpAny_raiseNew_none hh hE
end
end
/-! part A5 -/
theorem part_A5 : True := by w_top off; (try walk1); trivial
section
open PySem PySem.W PySem.Calls PyProof.Rows Builtin Builtin.ObjectAttr
section
variable {w : World} {A : Around} {E : Value → Shared → Prop} {s : Shared}
set_option maxHeartbeats 2000000 in
/-- a Refusal's message, read -/
theorem getMsg {e D : Addr} {oe : Obj} {tk : Tok} {v : Value} {expr : Bool} {Q : Value → Shared → Prop} (X : (hd.heap_39 w.params).In s.heap) (he : s.heap.get? e = some oe) (hc : oe.cls = .ref 51) (hdd : oe.dict = some D) (hno : notCls oe = true)
    (hD : s.heap.get? D = some (msgDict w tk v)) (hv : handedIn v = true) (h : Q v { s with toks := s.toks + 1 }) :
    wpAny (model PySem.Challenge.rw_ov0043_01.row.prog w) A (getAttr (.ref e) (Str.ofString "message") expr) Q E s := by
  revert X; k_fill; intro X
  have I : InstAt s.heap e oe 51 (some (msgDict w tk v)) := ⟨he, hc, hno, by rw [hdd]; exact hD⟩
  have L0 := I.type (M := model PySem.Challenge.rw_ov0043_01.row.prog w)
  have L1 : Looks (model PySem.Challenge.rw_ov0043_01.row.prog w) s.heap (typeLookup (.ref 51) "__getattribute__") (some (.builtin "BaseException.__getattribute__")) := looks_findIn X (by k_is)
  have L2 : Looks (model PySem.Challenge.rw_ov0043_01.row.prog w) s.heap (hookBefore (.ref 51)) none := looks_hook X (by rw [if_pos (by rfl)]; k_is)
  have L3 : Looks (model PySem.Challenge.rw_ov0043_01.row.prog w) s.heap (find (.ref e) (.ref 51) (Str.ofString "message")) (.value v) := looks_find X I (findObj_own (attr := none) (by k_is) (by k_is) rfl rfl)
  have f3 := PySem.F.attrBase_Exception.ga.bind (.ref e)
  have sub : Looks (model PySem.Challenge.rw_ov0043_01.row.prog w) s.heap (isInstance (.ref e) (.type "BaseException")) true := L0.andThen (looks_mroIn X (by k_is))
  obtain ⟨hp, g, d, t, os⟩ := s
  unfold getAttr getAttrBy
  refine wpAny_bind (wpAny_mkText (wpAny_holding (wpAny_bind (L0.at (wpAny_bind (L1.at ?_))))))
  dsimp only
  rw [if_neg (by decide +kernel)]
  unfold getAttrByItsOwn
  refine wpAny_bind (L2.at (wpAny_bind (wpAny_attempt (wpAny_holding ?_))))
  show wpAny _ _ (if (expr && onTheHeap (.builtin "BaseException.__getattribute__")) = true then _ else boundAndCalled (.builtin "BaseException.__getattribute__") (.ref e) _) _ _ _
  rw [if_neg (by cases expr <;> decide)]
  unfold boundAndCalled
  rw [f3]
  refine wpAny_bind (wpAny_pure ?_)
  dsimp only
  refine wpAny_call (codeAny_call_builtin PySem.F.attrBase_Exception.ga.plain PySem.F.entry_bexc_ga (@check_slot (model PySem.Challenge.rw_ov0043_01.row.prog w) _ _ ⟨hp, g, d, t + 1, os⟩ "BaseException.__getattribute__" "BaseException" "__getattribute__" (.ref e) [.str (Str.ofString "message") t] [] _ (by decide +kernel) (by decide +kernel) sub (PySem.F.args_bexc_ga _ _) ?_))
  unfold Builtin.«object.__getattribute__»
  refine wpAny_bind (wpAny_pure ?_)
  dsimp only
  refine wpAny_bind (wpAny_pure (wpAny_bind (L0.at (wpAny_bind (L3.at ?_)))))
  refine wpAny_pure ?_
  show wpAny _ _ (handedOut v) _ _ _
  rw [handedOut_of hv]
  exact wpAny_pure h
end
/-- a Refusal underway, the ledger as it stood -/
noncomputable def RaisedD (base G : Heap) (l : List Env) (e D : Addr) (news : List (Addr × Obj)) (h : Heap) : Prop :=
  ∃ B, base.StaysIn B ∧ (∀ b o, G.get? b = some o → b ∉ l.filterMap (·.frame) → B.get? b = some o) ∧ (∀ q ∈ news, B.get? q.1 = some q.2 ∧ G.get? q.1 = none ∧ base.get? q.1 = none) ∧ FlyD B l e D .none h
theorem RaisedD.sub {base G : Heap} {l : List Env} {e D : Addr} {news news' : List (Addr × Obj)} {h : Heap} (R : RaisedD base G l e D news h) (hs : ∀ p ∈ news', p ∈ news) : RaisedD base G l e D news' h := by
  obtain ⟨B, h1, h2, h3, h4⟩ := R
  exact ⟨B, h1, h2, fun q hq => h3 q (hs q hq), h4⟩
theorem RaisedD.trim {base G : Heap} {l : List Env} {e D : Addr} {p q : Addr × Obj} {news : List (Addr × Obj)} {h : Heap} (R : RaisedD base G l e D (p :: q :: news) h) : RaisedD base G l e D (p :: news) h :=
  R.sub fun _ hp => by
    rcases List.mem_cons.mp hp with rfl | hp
    · exact .head _
    · exact .tail _ (.tail _ hp)
/-- what a caller must bear of a Refusal with this text -/
noncomputable def Raises (w : World) (base h₀ : Heap) (L : Addr) (m : Str → Option Value) (l : List Env) (text : Str) (wl : List (Addr × Obj)) (E : Value → Shared → Prop) (s : Shared) : Prop :=
  ∀ e D tk t g h' tk', Fr h₀ L g m → RaisedD base g l e D ((D, msgDict w tk (.str text t)) :: wl) h' → g.UpToSlots h' → E (.ref e) { s with heap := h', toks := tk' }
section
variable {M : Model} {A : Around} {E : Value → Shared → Prop} {s : Shared} {base g g₂ : Heap} {env : Env} {outer : List Env} {L e D tt : Addr} {m : Str → Option Value} {Q : Unit → Shared → Prop} {news : List (Addr × Obj)}
theorem leave1D (K : Below A base outer g) (F : Fr g L s.heap m) (N : News g L s.heap ((e, excO D tt) :: news)) (hoe : ∀ p ∈ news, p.1 ≠ e) (hf : env.frame = some L) (hk : env.scope.kind = .function)
    (hQ : ∀ h', RaisedD base g outer e D news h' → g.UpToSlots h' → Q () { s with heap := h' }) : wpAny M (A.deeper env) (leaving env (.ref e)) Q E s := by
  have K' := pushX K F hf hk
  have he := (N _ (.head _)).1
  have ge := N.fresh (.head _)
  have be := fresh_of_stays K.stays ge
  have nf : ∀ b, b ∈ (env :: outer).filterMap (·.frame) → b = L ∨ b ∈ outer.filterMap (·.frame) := fun b hb => by
    obtain ⟨x, hx, hb2⟩ := List.mem_filterMap.mp hb
    rcases List.mem_cons.mp hx with rfl | hx
    · exact .inl (Option.some.inj (hb2.symm.trans hf))
    · exact .inr (List.mem_filterMap.mpr ⟨x, hx, hb2⟩)
  have base_in : ∀ b o, base.get? b = some o → b ∉ e :: (env :: outer).filterMap (·.frame) := fun b o ho hb => by
    rcases List.mem_cons.mp hb with q | q
    · rw [q, be] at ho; cases ho
    · rw [(K'.frames.mem q).1] at ho; cases ho
  have g_in : ∀ b o, g.get? b = some o → b ∉ outer.filterMap (·.frame) → b ∉ e :: (env :: outer).filterMap (·.frame) := fun b o ho hn hb => by
    rcases List.mem_cons.mp hb with q | q
    · rw [q, ge] at ho; cases ho
    · rcases nf b q with q | q
      · rw [q, kts_self F] at ho; cases ho
      · exact hn q
  have n_in : ∀ q ∈ news, q.1 ∉ e :: (env :: outer).filterMap (·.frame) := fun q hq hb => by
    have n1 := N q (.tail _ hq)
    rcases List.mem_cons.mp hb with z | z
    · exact hoe q hq z
    · rcases nf _ z with z | z
      · exact n1.2.1 z
      · obtain ⟨_, o, ho, _⟩ := K.frames.mem z
        rw [n1.2.2] at ho; cases ho
  refine leaveFirst (B := hideAll s.heap (e :: (env :: outer).filterMap (·.frame))) K'.stack
    (funFrames_hide K'.frames fun x hx b hb => .tail _ (List.mem_filterMap.mpr ⟨x, hx, hb⟩)) hf he rfl rfl rfl rfl (fun b o q => of_hideAll _ q) (hideAll_none _ (.head _)) fun h' R u => ?_
  exact hQ h' ⟨_, fun b o ho => hideAll_get _ (K'.stays b o ho) (base_in b o ho), fun b o ho hn => hideAll_get _ (F.keep b o ho) (g_in b o ho hn),
    fun q hq => ⟨hideAll_get _ (N q (.tail _ hq)).1 (n_in q hq), (N q (.tail _ hq)).2.2, fresh_of_stays K.stays (N q (.tail _ hq)).2.2⟩, R⟩ ((Heap.UpToSlots.of_keeps F.keep).trans u)
theorem leave2D (K : Below A base outer g) (F : Fr g L g₂ m) (R : RaisedD base g₂ (env :: outer) e D news s.heap) (hsm : g₂.UpToSlots s.heap) (hf : env.frame = some L)
    (hQ : ∀ h', RaisedD base g outer e D news h' → g.UpToSlots h' → Q () { s with heap := h' }) : wpAny M (A.deeper env) (leaving env (.ref e)) Q E s := by
  obtain ⟨B, hB, hBG, hl, hfl⟩ := R
  refine leaveNext (Around.frames_deeper K.stack) hf hfl fun h' R' u => hQ h' ⟨B, hB, fun b o q nm => hBG b o (F.keep b o q) fun hm => ?_, fun q hq => ⟨(hl q hq).1, none_of_fr F (hl q hq).2.1, (hl q hq).2.2⟩, R'⟩
    ((Heap.UpToSlots.of_keeps F.keep).trans (hsm.trans u))
  obtain ⟨x, hx, hb⟩ := List.mem_filterMap.mp hm
  rcases List.mem_cons.mp hx with rfl | hx
  · rw [Option.some.inj (hb.symm.trans hf), kts_self F] at q; cases q
  · exact nm (List.mem_filterMap.mpr ⟨x, hx, hb⟩)
end
section
variable {w : World} {A₀ : Around} {E : Value → Shared → Prop} {s : Shared} {h₀ g : Heap} {L a e D : Addr} {m : Str → Option Value} {cn : Str} {cs : Scope} {ccd : Value} {cl : List (Str × Addr)} {news : List (Addr × Obj)} {Q : Flow → Shared → Prop}
  {mean : ExcName → Option Value} {mg mb : Str → Option Value} {n : Str} {b₀ : Stmt} {suite : List Stmt} {pos np : Pos} {rest : List ExceptHandler}
theorem caughtD (K : Below A₀ h₀ [] h₀) (F : Fr h₀ L g m) (hsm : g.UpToSlots s.heap) (R : RaisedD h₀ g [envX cn cs L a ccd cl] e D news s.heap) (X : (hd.heap_39 w.params).In h₀) (T : Top hd.view_39 (looseW hd.view_39 []) mean mg mb h₀)
    (hk : cs.kind = .function) (hlo : (envX cn cs L a ccd cl).kindOf n = some .local) (hx : (envX cn cs L a ccd cl).kindOf (Str.ofString "Refusal") = some .globalImplicit)
    (k : ∀ h' oe tk, Fr h₀ L h' (fun y => if y = n then some (.ref e) else m y) → News h₀ L h' ((e, oe) :: news) → oe.cls = .ref 51 → oe.dict = some D → notCls oe = true →
      wpAny (model PySem.Challenge.rw_ov0043_01.row.prog w) ((A₀.deeper (envX cn cs L a ccd cl)).mark (some (.ref e))) (execs (b₀ :: suite) (envX cn cs L a ccd cl))
        (fun f s₄ => wpAny (model PySem.Challenge.rw_ov0043_01.row.prog w) (A₀.deeper (envX cn cs L a ccd cl)) (do bindName (envX cn cs L a ccd cl) n .none; unbindBehindTheSuite (envX cn cs L a ccd cl) n pos) (fun _ s₅ => Q f s₅) E s₄)
        (AsSuiteRaised (model PySem.Challenge.rw_ov0043_01.row.prog w) ((A₀.deeper (envX cn cs L a ccd cl)).mark (some (.ref e))) (envX cn cs L a ccd cl) n pos (notedBy (model PySem.Challenge.rw_ov0043_01.row.prog w) ((A₀.deeper (envX cn cs L a ccd cl)).mark (some (.ref e))) (envX cn cs L a ccd cl) (cameBackBy (model PySem.Challenge.rw_ov0043_01.row.prog w) (A₀.deeper (envX cn cs L a ccd cl)) (envX cn cs L a ccd cl) E)))
        { s with heap := h', toks := tk }) :
    wpAny (model PySem.Challenge.rw_ov0043_01.row.prog w) (A₀.deeper (envX cn cs L a ccd cl)) (noteFrame (.ref e) (envX cn cs L a ccd cl))
      (fun _ s₂ => wpAny (model PySem.Challenge.rw_ov0043_01.row.prog w) (A₀.deeper (envX cn cs L a ccd cl)) (setFlight (.ref e) none) (fun _ s₃ =>
        wpAny (model PySem.Challenge.rw_ov0043_01.row.prog w) (A₀.deeper (envX cn cs L a ccd cl)) (handleBy (.ref e) (envX cn cs L a ccd cl) (.ExceptHandler (some (.Name (Str.ofString "Refusal") np)) (some n) (b₀ :: suite) pos :: rest)) Q E s₃) E s₂) E s := by
  revert X; k_fill; intro X
  obtain ⟨B, hB, hBG, hl, hfl⟩ := R
  have hL : B.get? L = none := by
    obtain ⟨_, ⟨L', _, hf, hn', _⟩, _⟩ := hfl.frames
    obtain rfl : L = L' := Option.some.inj hf
    exact hn'
  have nr := topRead_of T
  refine noteNext (Around.frames_deeper K.stack) rfl hfl fun h₁ R₁ u₁ => landD R₁ fun h₂ R₂ u₂ => ?_
  have b2 : h₀.StaysIn h₂ := fun b o e => R₂.keep b o (hB b o e)
  have F₂ : Fr h₀ L h₂ m := F.of_stays b2 (hsm.trans (u₁.trans u₂))
  have X₂ := X.keeps b2
  have hT : Looks (model PySem.Challenge.rw_ov0043_01.row.prog w) h₂ (typeOf (.ref e)) (.ref 51) := by
    obtain ⟨oe, _, _, _, _, he, hc, _⟩ := R₂.tr
    exact hc ▸ (Looks.ld he).andThen .now
  refine wpAny_handleBy_cons (codeAny_handlers_test (nameX_K F₂ X nr (v := .ref 51) (by k_is) (exm_one X₂ hT (b := true) (by kernel_rfl) _ _ _ _ (fun _ _ e => e) ?_) hk hx (by decide))) (by intro q; cases q)
  refine codeAny_handlers_suite_as (landD R₂ fun h₃ R₃ u₃ => ?_)
  have b3 : h₀.StaysIn h₃ := fun b o e => R₃.keep b o (hB b o e)
  have F₃ : Fr h₀ L h₃ m := F.of_stays b3 ((hsm.trans (u₁.trans u₂)).trans u₃)
  obtain ⟨oe, vs, _, _, _, he, hc, hdd, hda, _⟩ := R₃.tr
  have N₃ : News h₀ L h₃ ((e, oe) :: news) := fun p hp => by
    rcases List.mem_cons.mp hp with rfl | hp
    · refine ⟨he, off_locals F₃.ns he (fun _ _ q => by rw [hda] at q; cases q), ?_⟩
      cases q : h₀.get? e with
      | none => rfl
      | some o => have := hB _ _ q; rw [R₃.new] at this; cases this
    · exact ⟨R₃.keep _ _ (hl p hp).1, (fun z => by have := (hl p hp).1; rw [z, hL] at this; cases this), (hl p hp).2.2⟩
  exact storeX_L F₃ N₃ (fun h₄ F₄ N₄ => k h₄ oe _ F₄ N₄ hc hdd (by unfold notCls; rw [hda])) hk hlo
end
end
theorem kin {prog : Program} {w : World} {A : Around} {E : Value → Shared → Prop} {s : Shared} {h₀ : Heap} {L d : Addr} {news : List (Addr × Obj)} {o : Obj} {kvs : List (Str × Value)} {k : Str} {key : Value} {Q : Value → Shared → Prop} {ov : Option Value}
    (N : News h₀ L s.heap news) (hp : (d, o) ∈ news) (hd : o.IsDictOf (PySem.strKind prog w) kvs) (lo : (d == sysModules) = false) (hkey : (PySem.strKind prog w).is k key = true) (hv : valueAt kvs k = ov) (h : Q (.bool ov.isSome) { s with toks := s.toks + 1 }) :
    wpAny (model prog w) A (compareOp .In key (.ref d)) Q E s := kda_in N hp hd lo hkey _ (congrArg Option.isSome hv) h
theorem knotin {prog : Program} {w : World} {A : Around} {E : Value → Shared → Prop} {s : Shared} {h₀ : Heap} {L d : Addr} {news : List (Addr × Obj)} {o : Obj} {kvs : List (Str × Value)} {k : Str} {key : Value} {Q : Value → Shared → Prop} {ov : Option Value}
    (N : News h₀ L s.heap news) (hp : (d, o) ∈ news) (hd : o.IsDictOf (PySem.strKind prog w) kvs) (lo : (d == sysModules) = false) (hkey : (PySem.strKind prog w).is k key = true) (hv : valueAt kvs k = ov) (h : Q (.bool (!ov.isSome)) { s with toks := s.toks + 1 }) :
    wpAny (model prog w) A (compareOp .NotIn key (.ref d)) Q E s := kdg_notin N hp hd lo hkey _ (congrArg Option.isSome hv) h
local macro_rules | `(tactic| k_all) => `(tactic| assumption)
local macro_rules | `(tactic| walk_at "WPost") => `(tactic| (dsimp only [WPost]))
local macro_rules | `(tactic| k_mem) => `(tactic| first | assumption | (refine' List.Mem.tail _ ?_; k_mem))
local macro_rules | `(tactic| k_room) => `(tactic| ktr_room)
local macro_rules | `(tactic| k_handed) => `(tactic| assumption)
local macro_rules | `(tactic| walk_at "compareOp In str ref") => `(tactic| k_extra "mine_w2")
local macro_rules | `(tactic| walk_at "compareOp NotIn str ref") => `(tactic| k_extra "mine_w3")
section
local macro_rules | `(tactic| walk_at "getMethod ref") => `(tactic| k_extra "mine_w5")
local macro_rules | `(tactic| walk_at "call builtin:dict.get") => `(tactic| k_extra "mine_w6")
/-! part A2 -/
theorem part_A2 : True := by w_top off; (try walk1); trivial
section
section
variable {w : World} {mean : ExcName → Option Value} {mg mb : Str → Option Value} {dp un : Nat} {gd : Option (List Code)} {cn : Str} {cs : Scope} {a : Addr} {ccd : Value} {cl : List (Str × Addr)} {outer : List Env} {A₀ : Around} {base h₀ : Heap} {L : Addr} {m : Str → Option Value} {s : Shared} {Q E : Value → Shared → Prop}
set_option maxHeartbeats 4000000 in
theorem lookup_here_spec {wl : List (Addr × Obj)} {c : Nd} {x : Str} {tx : Tok}
    (B : Below A₀ base outer h₀) (F : Fr h₀ L s.heap m) (X : (hd.heap_39 w.params).In h₀) (N : News h₀ L s.heap wl)
    (T : Top hd.view_39 (looseW hd.view_39 []) mean mg mb h₀) (hk : cs.kind = .function) 
    (m1 : (c.e, instObj 163 c.d) ∈ wl) (m2 : (c.d, c.dct w) ∈ wl) (m3 : (c.f, c.fo) ∈ wl) (hf : c.fo.IsDictOf (PySem.strKind PySem.Challenge.rw_ov0043_01.row.prog w) c.fk) (lo : (c.f == sysModules) = false)
    (hdp : dp + 20 < recursionLimit) (hun : un + 100 < cLine)
    (ret : ∀ h' tk', Fr h₀ L h' m → News h₀ L h' wl → Q ((valueAt c.fk x).getD .none) { s with heap := h', toks := tk' }) :
    wpAny (model PySem.Challenge.rw_ov0043_01.row.prog w) (ktrTop dp un gd cn cs L a ccd cl outer) (call (.ref 60) [.ref c.e, .str x tx]) Q E s := by
  revert X; k_fill; intro X
  refine wpAny_call ?_
  k_dflt ktr_enter
  k_steps
  all_goals first
    | exact ret _ _ (by assumption) (by assumption)
section
set_option maxHeartbeats 4000000 in
theorem lookup_spec {wl : List (Addr × Obj)} {v : Value} {r : List Nd} {x : Str} {tx : Tok}
    (B : Below A₀ base outer h₀) (F : Fr h₀ L s.heap m) (X : (hd.heap_39 w.params).In h₀) (N : News h₀ L s.heap wl)
    (T : Top hd.view_39 (looseW hd.view_39 []) mean mg mb h₀) (hk : cs.kind = .function) (hC : Chain w wl v r)
    (hdp : dp + 20 < recursionLimit) (hun : un + 100 < cLine)
    (ret : ∀ h' tk', Fr h₀ L h' m → News h₀ L h' wl → Q ((r.findSome? fun c => valueAt c.fk x).getD .none) { s with heap := h', toks := tk' }) :
    wpAny (model PySem.Challenge.rw_ov0043_01.row.prog w) (ktrTop dp un gd cn cs L a ccd cl outer) (call (.ref 67) [v, .str x tx]) Q E s := by
  revert X; k_fill; intro X
  refine wpAny_call ?_
  k_dflt ktr_enter
  walk1; walk1
  rename Fr _ _ _ _ => lF; rename News _ _ _ _ => lN
  with_unfolding_all refine while_rule (α := Value × List Nd) [Str.ofString "found"] (fun n a => Chain w wl a.1 a.2 ∧ a.2.length = n ∧ a.2.findSome? (fun c => valueAt c.fk x) = r.findSome? (fun c => valueAt c.fk x)) (fun a => [(Str.ofString "env", a.1)]) (fun _ => wl) (v, r) lF lN ⟨rfl, trivial⟩ ⟨hC, rfl, rfl⟩ ?_
  clear lF lN
  intro n9 a9 u9 h9 tk9 hP9 F9 N9; obtain ⟨v9, r9⟩ := a9; obtain ⟨hC9, hl9, hq9⟩ := hP9; dsimp only [upds, fg] at F9 hC9 hl9 hq9 N9
  cases hC9 with
  | nil =>
    k_steps
    rw [← hq9] at ret
    exact ret _ _ (by assumption) (by assumption)
  | @cons c r2 m1 m2 m3 hf lo hr hz hC2 =>
    have hd9 := hC2.handed
    cases hv : valueAt c.fk x with
    | none =>
      k_steps
      refine WEnd.intro (c.par, r2) (by assumption) (by assumption) (fun _ h => h) (by rw [← hl9]; exact Nat.lt_succ_self _) ⟨hC2, rfl, ?_⟩ ⟨rfl, trivial⟩ ?_
      · rw [← hq9, List.findSome?_cons, hv]
      · walk_at "mine_same"
    | some y =>
      obtain ⟨b, rfl⟩ := hr _ _ hv
      k_steps
      rw [← hq9, List.findSome?_cons, hv] at ret
      exact ret _ _ (by assumption) (by assumption)
set_option maxHeartbeats 4000000 in
theorem holder_spec {wl : List (Addr × Obj)} {v : Value} {r : List Nd} {x : Str} {tx : Tok}
    (B : Below A₀ base outer h₀) (F : Fr h₀ L s.heap m) (X : (hd.heap_39 w.params).In h₀) (N : News h₀ L s.heap wl)
    (T : Top hd.view_39 (looseW hd.view_39 []) mean mg mb h₀) (hk : cs.kind = .function) (hC : Chain w wl v r)
    (hdp : dp + 20 < recursionLimit)
    (ret : ∀ h' tk', Fr h₀ L h' m → News h₀ L h' wl → Q ((r.find? (Nd.has x)).elim .none fun c => .ref c.e) { s with heap := h', toks := tk' }) :
    wpAny (model PySem.Challenge.rw_ov0043_01.row.prog w) (ktrTop dp un gd cn cs L a ccd cl outer) (call (.ref 74) [v, .str x tx]) Q E s := by
  revert X; k_fill; intro X
  refine wpAny_call ?_
  k_dflt ktr_enter
  walk1; walk1
  rename Fr _ _ _ _ => lF; rename News _ _ _ _ => lN
  with_unfolding_all refine while_rule (α := Value × List Nd) [] (fun n a => Chain w wl a.1 a.2 ∧ a.2.length = n ∧ a.2.find? (Nd.has x) = r.find? (Nd.has x)) (fun a => [(Str.ofString "env", a.1)]) (fun _ => wl) (v, r) lF lN ⟨rfl, trivial⟩ ⟨hC, rfl, rfl⟩ ?_
  clear lF lN
  intro n9 a9 u9 h9 tk9 hP9 F9 N9; obtain ⟨v9, r9⟩ := a9; obtain ⟨hC9, hl9, hq9⟩ := hP9; dsimp only [upds, fg] at F9 hC9 hl9 hq9 N9
  cases hC9 with
  | nil =>
    k_steps
    rw [← hq9] at ret
    exact ret _ _ (by assumption) (by assumption)
  | @cons c r2 m1 m2 m3 hf lo hr hz hC2 =>
    have hd9 := hC2.handed
    cases hv : valueAt c.fk x with
    | none =>
      k_steps
      refine WEnd.intro (c.par, r2) (by assumption) (by assumption) (fun _ h => h) (by rw [← hl9]; exact Nat.lt_succ_self _) ⟨hC2, rfl, ?_⟩ ⟨rfl, trivial⟩ ?_
      · rw [← hq9, List.find?_cons, Nd.has_none hv]
      · walk_at "mine_same"
    | some y =>
      k_steps
      rw [← hq9, List.find?_cons, Nd.has_some hv] at ret
      exact ret _ _ (by assumption) (by assumption)
set_option maxHeartbeats 4000000 in
theorem ancestors_spec {wl : List (Addr × Obj)} {v : Value} {r : List Nd}
    (B : Below A₀ base outer h₀) (F : Fr h₀ L s.heap m) (X : (hd.heap_39 w.params).In h₀) (N : News h₀ L s.heap wl)
    (T : Top hd.view_39 (looseW hd.view_39 []) mean mg mb h₀) (hk : cs.kind = .function) (hC : Chain w wl v r) (hlen : r.length ≤ 100)
    (hdp : dp + 20 < recursionLimit)
    (ret : ∀ lA nA h' tk', Fr h₀ L h' m → News h₀ L h' ((lA, W.listOf (r.map fun c => Value.int c.num c.nt).toArray nA) :: wl) → Q (.ref lA) { s with heap := h', toks := tk' }) :
    wpAny (model PySem.Challenge.rw_ov0043_01.row.prog w) (ktrTop dp un gd cn cs L a ccd cl outer) (call (.ref 81) [v]) Q E s := by
  revert X; k_fill; intro X
  refine wpAny_call ?_
  k_dflt ktr_enter
  iterate 9 walk1
  rename_i lA hA1 l1 hA2 lF lN
  have hne : ∀ p ∈ wl, p.1 ≠ lA := fun p hp => Nat.ne_of_lt (l1 p hp)
  with_unfolding_all refine while_rule (α := Value × List Nd × Array Value × Nat) [] (fun n a => Chain w wl a.1 a.2.1 ∧ a.2.1.length = n ∧ a.2.2.1.toList ++ a.2.1.map (fun c => Value.int c.num c.nt) = r.map (fun c => Value.int c.num c.nt)) (fun a => [(Str.ofString "env", a.1)]) (fun a => (lA, W.listOf a.2.2.1 a.2.2.2) :: wl) (v, r, #[], 0) lF lN ⟨rfl, trivial⟩ ⟨hC, rfl, rfl⟩ ?_
  clear lF lN
  intro n9 a9 u9 h9 tk9 hP9 F9 N9; obtain ⟨v9, r9, arr, k9⟩ := a9; obtain ⟨hC9, hl9, hq9⟩ := hP9; dsimp only [upds, fg] at F9 hC9 hl9 hq9 N9
  have hsz : arr.size ≤ 100 := by
    have := congrArg List.length hq9
    simp only [List.length_append, List.length_map, Array.length_toList] at this
    omega
  cases hC9 with
  | nil =>
    k_steps
    rw [← hq9, List.map_nil, List.append_nil] at ret
    exact ret _ _ _ _ (by assumption) (by assumption)
  | @cons c r2 m1 m2 m3 hf lo hr hz hC2 =>
    have hd9 := hC2.handed
    k_steps
    refine WEnd.intro (c.par, r2, arr.push (.int c.num c.nt), _) (by assumption) (by assumption) (fun _ h => h) (by rw [← hl9]; exact Nat.lt_succ_self _) ⟨hC2, rfl, ?_⟩ ⟨rfl, trivial⟩ ?_
    · rw [← hq9]; simp
    · walk_at "mine_same"
end
end
end
local macro_rules | `(tactic| walk_at "setItem ref str") => `(tactic| k_extra "mine_w7")
local macro_rules | `(tactic| walk_at "exec Raise some none") => `(tactic| k_extra "mine_w10")
local macro_rules | `(tactic| walk_at "call ref") => `(tactic| k_extra "mine_w11")
/-! part A6 -/
theorem part_A6 : True := by w_top off; (try walk1); trivial
section
section
variable {w : World} {mean : ExcName → Option Value} {mg mb : Str → Option Value} {dp un : Nat} {gd : Option (List Code)} {cn : Str} {cs : Scope} {a : Addr} {ccd : Value} {cl : List (Str × Addr)} {outer : List Env} {A₀ : Around} {base h₀ : Heap} {L : Addr} {m : Str → Option Value} {s : Shared} {Q E : Value → Shared → Prop}
set_option maxHeartbeats 4000000 in
theorem define_spec {c : Nd} {lo : Obj} {lkv : List (Str × Value)} {rest : List (Addr × Obj)} {x : Str} {tx : Tok} {v : Value}
    (B : Below A₀ base outer h₀) (F : Fr h₀ L s.heap m) (X : (hd.heap_39 w.params).In h₀) (N : News h₀ L s.heap ((c.e, instObj 163 c.d) :: (c.d, c.dct w) :: (c.f, c.fo) :: (c.l, lo) :: rest))
    (T : Top hd.view_39 (looseW hd.view_39 []) mean mg mb h₀) (hk : cs.kind = .function) (hdp : dp + 40 < recursionLimit)
    (hf : c.fo.IsDictOf (PySem.strKind PySem.Challenge.rw_ov0043_01.row.prog w) c.fk) (hl : lo.IsDictOf (PySem.strKind PySem.Challenge.rw_ov0043_01.row.prog w) lkv) (nf : (c.f == sysModules) = false) (nl : (c.l == sysModules) = false)
    (n1 : c.e ≠ c.f) (n2 : c.d ≠ c.f) (n3 : c.l ≠ c.f) (hoff : ∀ p ∈ rest, p.1 ≠ c.f) (hsz : c.fk.length ≤ 1000) (hx : x.length ≤ 1000)
    (hlk : ∀ v, valueAt lkv x = some v → v = .bool true ∧ ∃ y, valueAt c.fk x = some y)
    (er1 : (valueAt lkv x).isSome = true → Raises w base h₀ L m (envX cn cs L a ccd cl :: outer) (Str.ofString "cannot change value of locked binding for '" ++ x ++ Str.ofString "'") ((c.e, instObj 163 c.d) :: (c.d, c.dct w) :: (c.f, c.fo) :: (c.l, lo) :: rest) E s)
    (er2 : valueAt c.fk x = none → c.lk = true → Raises w base h₀ L m (envX cn cs L a ccd cl :: outer) (Str.ofString "cannot add bindings to a locked environment") ((c.e, instObj 163 c.d) :: (c.d, c.dct w) :: (c.f, c.fo) :: (c.l, lo) :: rest) E s)
    (ret : ∀ fo' h' tk', valueAt lkv x = none → (c.lk = true → (valueAt c.fk x).isSome = true) → fo'.IsDictOf (PySem.strKind PySem.Challenge.rw_ov0043_01.row.prog w) (stored c.fk x v) → Fr h₀ L h' m →
      News h₀ L h' ((c.e, instObj 163 c.d) :: (c.d, c.dct w) :: (c.f, fo') :: (c.l, lo) :: rest) → Q .none { s with heap := h', toks := tk' }) :
    wpAny (model PySem.Challenge.rw_ov0043_01.row.prog w) (ktrTop dp un gd cn cs L a ccd cl outer) (call (.ref 95) [.ref c.e, .str x tx, v]) Q E s := by
  revert X; k_fill; intro X
  refine wpAny_call ?_
  k_dflt ktr_enter
  cases hv : valueAt lkv x with
  | some y =>
    obtain ⟨rfl, z, hz⟩ := hlk _ hv
    rw [hv] at er1
    have er3 := er1 rfl
    clear er1 er2
    k_steps
    · walk_at "mine_exc"
    · walk_at "mine_raise"
  | none =>
    cases hz : valueAt c.fk x with
    | none =>
      cases hlc : c.lk with
      | true =>
        have er3 := er2 hz hlc
        clear er1 er2
        k_steps
        · walk_at "mine_exc"
        · walk_at "mine_raise"
      | false =>
        k_steps
        exact ret _ _ _ hv (by intro q; rw [hlc] at q; cases q) (by assumption) (by assumption) (by assumption)
    | some z =>
      cases hlc : c.lk with
      | true =>
        k_steps
        exact ret _ _ _ hv (by intro q; rw [hz]; rfl) (by assumption) (by assumption) (by assumption)
      | false =>
        k_steps
        exact ret _ _ _ hv (by intro q; rw [hz]; rfl) (by assumption) (by assumption) (by assumption)
end
end
/-! part A8 -/
theorem part_A8 : True := by w_top off; (try walk1); trivial
section
theorem va_stored (kvs : List (Str × Value)) (k : Str) (v : Value) (x : Str) : valueAt (stored kvs k v) x = if x = k then some v else valueAt kvs x := by
  have hm : ∀ kvs : List (Str × Value), valueAt (kvs.map fun kv => if kv.1 = k then (kv.1, v) else kv) x = if x = k then (valueAt kvs x).map (fun _ => v) else valueAt kvs x := by
    intro kvs
    induction kvs with
    | nil => by_cases h : x = k <;> simp [valueAt, h]
    | cons p r ih =>
      obtain ⟨y, u⟩ := p
      simp only [valueAt, List.map_cons, List.find?_cons] at ih ⊢
      by_cases hy : y = k
      · subst hy
        by_cases hx : y = x
        · subst hx; simp
        · simp only [if_true, decide_eq_false hx]; exact ih
      · by_cases hx : y = x
        · subst hx; simp [hy]
        · simp only [if_neg hy, decide_eq_false hx]; exact ih
  have ha : valueAt (kvs ++ [(k, v)]) x = (valueAt kvs x).or (if x = k then some v else none) := by
    simp only [valueAt, List.find?_append]
    by_cases h : x = k
    · subst h
      cases List.find? (fun kv : Str × Value => decide (kv.1 = x)) kvs <;> simp
    · have h' : ¬ k = x := fun e => h e.symm
      cases List.find? (fun kv : Str × Value => decide (kv.1 = x)) kvs <;> simp [h, h']
  unfold stored
  have hs := valueAt_isSome_eq_any kvs k
  by_cases h : x = k
  · subst h
    cases hq : kvs.any (fun kv => decide (kv.1 = x)) with
    | true =>
      rw [hq] at hs
      rw [if_pos rfl, hm, if_pos rfl, if_pos rfl]
      cases hv : valueAt kvs x with
      | none => rw [hv] at hs; cases hs
      | some y => rfl
    | false =>
      rw [hq] at hs
      rw [if_neg (by simp), ha, if_pos rfl, if_pos rfl]
      cases hv : valueAt kvs x with
      | none => rfl
      | some y => rw [hv] at hs; cases hs
  · rw [if_neg h]
    split
    · rw [hm, if_neg h]
    · rw [ha, if_neg h]; cases valueAt kvs x <;> rfl
theorem va_without (kvs : List (Str × Value)) (k : Str) (x : Str) : valueAt (without kvs k) x = if x = k then none else valueAt kvs x := by
  induction kvs with
  | nil => by_cases h : x = k <;> simp [valueAt, without, h]
  | cons p r ih =>
    obtain ⟨y, u⟩ := p
    simp only [valueAt, without, List.filter_cons, List.find?_cons] at ih ⊢
    by_cases hy : y = k
    · subst hy
      simp only [ne_eq, not_true_eq_false, decide_false, Bool.false_eq_true, if_false]
      rw [ih]
      by_cases hx : x = y
      · subst hx; simp
      · rw [if_neg hx, if_neg hx, decide_eq_false (fun e => hx e.symm)]
    · simp only [ne_eq, hy, not_false_eq_true, decide_true, if_true, List.find?_cons]
      by_cases hx : y = x
      · subst hx; simp [hy]
      · rw [decide_eq_false hx]; exact ih
theorem len_stored (kvs : List (Str × Value)) (k : Str) (v : Value) : (stored kvs k v).length ≤ kvs.length + 1 := by
  unfold stored; split <;> simp
theorem len_without (kvs : List (Str × Value)) (k : Str) : (without kvs k).length ≤ kvs.length := List.length_filter_le _ _
theorem without_none {kvs : List (Str × Value)} {k : Str} (h : valueAt kvs k = none) : without kvs k = kvs := by
  unfold without
  refine List.filter_eq_self.mpr fun p hp => ?_
  have hs := valueAt_isSome_eq_any kvs k
  rw [h] at hs
  have := (List.any_eq_false.mp hs.symm) p hp
  simpa using this
local macro_rules | `(tactic| walk_at "delItem ref str") => `(tactic| k_extra "mine_w12")
section
variable {w : World} {mean : ExcName → Option Value} {mg mb : Str → Option Value} {dp un : Nat} {gd : Option (List Code)} {cn : Str} {cs : Scope} {a : Addr} {ccd : Value} {cl : List (Str × Addr)} {outer : List Env} {A₀ : Around} {base h₀ : Heap} {L : Addr} {m : Str → Option Value} {s : Shared} {Q E : Value → Shared → Prop}
set_option maxHeartbeats 4000000 in
theorem remove_spec {c : Nd} {lo : Obj} {lkv : List (Str × Value)} {rest : List (Addr × Obj)} {x : Str} {tx : Tok}
    (B : Below A₀ base outer h₀) (F : Fr h₀ L s.heap m) (X : (hd.heap_39 w.params).In h₀) (N : News h₀ L s.heap ((c.e, instObj 163 c.d) :: (c.d, c.dct w) :: (c.f, c.fo) :: (c.l, lo) :: rest))
    (T : Top hd.view_39 (looseW hd.view_39 []) mean mg mb h₀) (hk : cs.kind = .function) (hdp : dp + 40 < recursionLimit)
    (hf : c.fo.IsDictOf (PySem.strKind PySem.Challenge.rw_ov0043_01.row.prog w) c.fk) (hl : lo.IsDictOf (PySem.strKind PySem.Challenge.rw_ov0043_01.row.prog w) lkv) (nf : (c.f == sysModules) = false) (nl : (c.l == sysModules) = false)
    (n1 : c.e ≠ c.f) (n2 : c.d ≠ c.f) (n3 : c.l ≠ c.f) (hoff : ∀ p ∈ rest, p.1 ≠ c.f) (n4 : c.e ≠ c.l) (n5 : c.d ≠ c.l) (n6 : c.f ≠ c.l) (hoff2 : ∀ p ∈ rest, p.1 ≠ c.l)
    (hsz : c.fk.length ≤ 1000) (hsz2 : lkv.length ≤ 1000)
    (er : (valueAt c.fk x).isSome = true → c.lk = true → Raises w base h₀ L m (envX cn cs L a ccd cl :: outer) (Str.ofString "cannot remove bindings from a locked environment") ((c.e, instObj 163 c.d) :: (c.d, c.dct w) :: (c.f, c.fo) :: (c.l, lo) :: rest) E s)
    (ret0 : ∀ h' tk', valueAt c.fk x = none → Fr h₀ L h' m → News h₀ L h' ((c.e, instObj 163 c.d) :: (c.d, c.dct w) :: (c.f, c.fo) :: (c.l, lo) :: rest) → Q (.bool false) { s with heap := h', toks := tk' })
    (ret : ∀ fo' lo' h' tk', (valueAt c.fk x).isSome = true → c.lk = false → fo'.IsDictOf (PySem.strKind PySem.Challenge.rw_ov0043_01.row.prog w) (without c.fk x) → lo'.IsDictOf (PySem.strKind PySem.Challenge.rw_ov0043_01.row.prog w) (without lkv x) → Fr h₀ L h' m →
      News h₀ L h' ((c.e, instObj 163 c.d) :: (c.d, c.dct w) :: (c.f, fo') :: (c.l, lo') :: rest) → Q (.bool true) { s with heap := h', toks := tk' }) :
    wpAny (model PySem.Challenge.rw_ov0043_01.row.prog w) (ktrTop dp un gd cn cs L a ccd cl outer) (call (.ref 116) [.ref c.e, .str x tx]) Q E s := by
  revert X; k_fill; intro X
  refine wpAny_call ?_
  k_dflt ktr_enter
  cases hz : valueAt c.fk x with
  | none =>
    k_steps
    exact ret0 _ _ hz (by assumption) (by assumption)
  | some z =>
    have hzs : (valueAt c.fk x).isSome = true := by rw [hz]; rfl
    cases hlc : c.lk with
    | true =>
      have er3 := er hzs hlc
      k_steps
      · walk_at "mine_exc"
      · walk_at "mine_raise"
    | false =>
      cases hv : valueAt lkv x with
      | none =>
        rw [without_none hv] at ret
        k_steps
        exact ret _ _ _ _ hzs hlc (by assumption) hl (by assumption) (by assumption)
      | some y =>
        have hvs : (valueAt lkv x).isSome = true := by rw [hv]; rfl
        k_steps
        exact ret _ _ _ _ hzs hlc (by assumption) (by assumption) (by assumption) (by assumption)
end
end
end
/-! part A9 -/
theorem part_A9 : True := by w_top off; (try walk1); trivial
section
section
variable {prog : Program} {w : World} {A : Around} {E : Value → Shared → Prop} {s : Shared} {h₀ : Heap} {L D : Addr} {news : List (Addr × Obj)} {arr : Array Value} {n i : Nat} {k : Int} {u : Tok} {x : Value} {Q : Value → Shared → Prop}
theorem at_list (N : News h₀ L s.heap news) (hm : (D, W.listOf arr n) ∈ news) (hx : arr[i]? = some x) (hk : k = (i : Int)) (hlt : arr.size ≤ 1000) (h : Q x s) :
    wpAny (model prog w) A (getItem (.ref D) (.int k u)) Q E s := by
  subst hk
  have := (Array.getElem?_eq_some_iff.mp hx).1
  exact wpAny_getItem_list (PySem.IsL.isList (n := n) (N _ hm).1) (by omega) (by omega) (by simpa using hx) h
theorem at_sub {value slice : PySem.Expr} (N : News h₀ L s.heap news) (hm : (D, W.listOf arr n) ∈ news) (hx : arr[i]? = some x) (hk : k = (i : Int)) (hlt : arr.size ≤ 1000) (h : Q x s)
    (hs : subscripted slice false (.ref D) (.int k u) = operate [.ref D, .int k u] (getItem (.ref D) (.int k u)) := by with_unfolding_all rfl) :
    wpAny (model prog w) A (subscriptTail value slice (.ref D) (.int k u)) Q E s :=
  tail_any (PySem.IsL.isList (n := n) (N _ hm).1).typeIs slot_list_getitem.lookup (at_list N hm hx hk hlt h) hs
end
local macro_rules | `(tactic| walk_at "subscriptTail") => `(tactic| k_extra "mine_w13")
local macro_rules | `(tactic| walk_at "compareOp In str ref") => `(tactic| k_extra "mine_w14")
local macro_rules | `(tactic| walk_at "compareOp In str ref") => `(tactic| k_extra "mine_w2")
local macro_rules | `(tactic| walk_at "setItem ref str") => `(tactic| k_extra "mine_w7")
local macro_rules | `(tactic| walk_at "delItem ref str") => `(tactic| k_extra "mine_w12")
section
variable {w : World} {mean : ExcName → Option Value} {mg mb : Str → Option Value} {dp un : Nat} {gd : Option (List Code)} {cn : Str} {cs : Scope} {a : Addr} {ccd : Value} {cl : List (Str × Addr)} {outer : List Env} {A₀ : Around} {base h₀ : Heap} {L : Addr} {m : Str → Option Value} {s : Shared} {Q E : Value → Shared → Prop}
set_option maxHeartbeats 4000000 in
theorem law_set_spec {Wa t h b sh : Addr} {wa : Array Value} {nW nt nb ns i : Nat} {ho : Obj} {hkv : List (Str × Value)} {bvs : List Value} {bd : List Str} {lk : Bool} {rest : List (Addr × Obj)} {x : Str} {tx ta tf : Tok} {fig : Int}
    (B : Below A₀ base outer h₀) (F : Fr h₀ L s.heap m) (X : (hd.heap_39 w.params).In h₀) (N : News h₀ L s.heap ((Wa, W.listOf wa nW) :: (t, W.listOf #[.ref h, .ref b, .ref sh] nt) :: (h, ho) :: (b, W.listOf bvs.toArray nb) :: (sh, W.listOf #[.bool lk] ns) :: rest))
    (T : Top hd.view_39 (looseW hd.view_39 []) mean mg mb h₀) (hk : cs.kind = .function) (hdp : dp + 40 < recursionLimit) 
    (hi : wa[i]? = some (.ref t)) (hws : wa.size ≤ 1000) (hh : ho.IsDictOf (PySem.strKind PySem.Challenge.rw_ov0043_01.row.prog w) hkv) (hb : StrsAre bvs bd) (nh : (h == sysModules) = false)
    (n1 : Wa ≠ h) (n2 : t ≠ h) (n3 : b ≠ h) (n4 : sh ≠ h) (hoff : ∀ p ∈ rest, p.1 ≠ h) (hsz : hkv.length ≤ 1000) (hx : x.length ≤ 1000)
    (ret1 : ∀ h' tk' tt, (valueAt hkv x).isSome = true → bd.any (· == x) = true → Fr h₀ L h' m → News h₀ L h' ((Wa, W.listOf wa nW) :: (t, W.listOf #[.ref h, .ref b, .ref sh] nt) :: (h, ho) :: (b, W.listOf bvs.toArray nb) :: (sh, W.listOf #[.bool lk] ns) :: rest) →
      Q (.str (Str.ofString "cannot change value of locked binding for '" ++ x ++ Str.ofString "'") tt) { s with heap := h', toks := tk' })
    (ret2 : ∀ h' tk' tt, valueAt hkv x = none → lk = true → Fr h₀ L h' m → News h₀ L h' ((Wa, W.listOf wa nW) :: (t, W.listOf #[.ref h, .ref b, .ref sh] nt) :: (h, ho) :: (b, W.listOf bvs.toArray nb) :: (sh, W.listOf #[.bool lk] ns) :: rest) →
      Q (.str (Str.ofString "cannot add bindings to a locked environment") tt) { s with heap := h', toks := tk' })
    (ret3 : ∀ ho' h' tk' tt, ((valueAt hkv x).isSome = true → bd.any (· == x) = false) → (valueAt hkv x = none → lk = false) → ho'.IsDictOf (PySem.strKind PySem.Challenge.rw_ov0043_01.row.prog w) (stored hkv x (.int fig tf)) → Fr h₀ L h' m →
      News h₀ L h' ((Wa, W.listOf wa nW) :: (t, W.listOf #[.ref h, .ref b, .ref sh] nt) :: (h, ho') :: (b, W.listOf bvs.toArray nb) :: (sh, W.listOf #[.bool lk] ns) :: rest) →
      Q (.str (Str.ofString "") tt) { s with heap := h', toks := tk' }) :
    wpAny (model PySem.Challenge.rw_ov0043_01.row.prog w) (ktrTop dp un gd cn cs L a ccd cl outer) (call (.ref 188) [.ref Wa, .int (i : Int) ta, .str x tx, .int fig tf]) Q E s := by
  revert X; k_fill; intro X
  refine wpAny_call ?_
  k_dflt ktr_enter
  cases hv : valueAt hkv x with
  | none =>
    cases lk with
    | true =>
      k_steps
      exact ret2 _ _ _ hv rfl (by assumption) (by assumption)
    | false =>
      k_steps
      exact ret3 _ _ _ _ (by rw [hv]; intro q; cases q) (fun _ => rfl) (by assumption) (by assumption) (by assumption)
  | some y =>
    cases hbx : bd.any (· == x) with
    | true =>
      k_steps
      exact ret1 _ _ _ (by rw [hv]; rfl) hbx (by assumption) (by assumption)
    | false =>
      k_steps
      exact ret3 _ _ _ _ (fun _ => hbx) (by rw [hv]; intro q; cases q) (by assumption) (by assumption) (by assumption)
end
end
/-! part A7 -/
theorem part_A7 : True := by w_top off; (try walk1); trivial
section
section
variable {w : World} {mean : ExcName → Option Value} {mg mb : Str → Option Value} {dp un : Nat} {gd : Option (List Code)} {cn : Str} {cs : Scope} {a : Addr} {ccd : Value} {cl : List (Str × Addr)} {outer : List Env} {A₀ : Around} {base h₀ : Heap} {L : Addr} {m : Str → Option Value} {s : Shared} {Q E : Value → Shared → Prop}
set_option maxHeartbeats 4000000 in
theorem up_holder_spec {wl : List (Addr × Obj)} {c t : Nd} {r : List Nd} {x : Str} {tx : Tok}
    (B : Below A₀ base outer h₀) (F : Fr h₀ L s.heap m) (X : (hd.heap_39 w.params).In h₀) (N : News h₀ L s.heap wl)
    (T : Top hd.view_39 (looseW hd.view_39 []) mean mg mb h₀) (hk : cs.kind = .function) (hdp : dp + 20 < recursionLimit)
    (m1 : (c.e, instObj 163 c.d) ∈ wl) (m2 : (c.d, c.dct w) ∈ wl) (hC : Chain w wl c.par r) (h0 : c.num = 0 → r = [])
    (t1 : (t.e, instObj 163 t.d) ∈ wl) (t2 : (t.d, t.dct w) ∈ wl) (t0 : t.num = 0)
    (ret : ∀ h' tk', Fr h₀ L h' m → News h₀ L h' wl → Q (.ref ((r.find? (Nd.has x)).getD t).e) { s with heap := h', toks := tk' }) :
    wpAny (model PySem.Challenge.rw_ov0043_01.row.prog w) (ktrTop dp un gd cn cs L a ccd cl outer) (call (.ref 102) [.ref c.e, .str x tx, .ref t.e]) Q E s := by
  revert X; k_fill; intro X
  refine wpAny_call ?_
  k_dflt ktr_enter
  have hcp := hC.handed
  iterate 18 walk1
  rename Fr _ _ _ _ => lF; rename News _ _ _ _ => lN
  with_unfolding_all refine while_rule (α := Value × List Nd × Bool) [] (fun n a => Chain w wl a.1 a.2.1 ∧ a.2.1.length = n ∧ (a.2.2 = true → a.2.1 = []) ∧ (a.2.1.find? (Nd.has x)).getD t = (r.find? (Nd.has x)).getD t) (fun a => [(Str.ofString "place", a.1), (Str.ofString "passed", .bool a.2.2)]) (fun _ => wl) (c.par, r, (c.num == t.num)) lF lN ⟨rfl, rfl, trivial⟩ ⟨hC, rfl, fun q => h0 ((eq_of_beq q).trans t0), rfl⟩ ?_
  clear lF lN hcp
  intro n9 a9 u9 h9 tk9 hP9 F9 N9; obtain ⟨v9, r9, b9⟩ := a9; obtain ⟨hC9, hl9, hb9, hq9⟩ := hP9; dsimp only [upds, fg] at F9 hC9 hl9 hb9 hq9 N9
  cases hC9 with
  | nil =>
    k_steps
    rw [← hq9] at ret
    exact ret _ _ (by assumption) (by assumption)
  | @cons c2 r2 m3 m4 m5 hf lo hr hz hC2 =>
    have hd9 := hC2.handed
    cases b9 with
    | true => cases hb9 rfl
    | false =>
      cases hv : valueAt c2.fk x with
      | none =>
        cases hq : (c2.num == t.num) with
        | true =>
          have hr2 := hz ((eq_of_beq hq).trans t0)
          k_steps
          refine WEnd.intro (c2.par, r2, true) (by assumption) (by assumption) (fun _ h => h) (by rw [← hl9]; exact Nat.lt_succ_self _) ⟨hC2, rfl, fun _ => hr2, ?_⟩ ⟨rfl, rfl, trivial⟩ ?_
          · rw [← hq9, List.find?_cons, Nd.has_none hv]
          · walk_at "mine_same"
        | false =>
          k_steps
          refine WEnd.intro (c2.par, r2, _) (by assumption) (by assumption) (fun _ h => h) (by rw [← hl9]; exact Nat.lt_succ_self _) ⟨hC2, rfl, ?_, ?_⟩ ⟨rfl, rfl, trivial⟩ ?_
          · intro q; cases q
          · rw [← hq9, List.find?_cons, Nd.has_none hv]
          · walk_at "mine_same"
      | some y =>
        k_steps
        rw [← hq9, List.find?_cons, Nd.has_some hv] at ret
        exact ret _ _ (by assumption) (by assumption)
local macro_rules | `(tactic| walk_at "call ref") => `(tactic| k_extra "mine_w16")
set_option maxHeartbeats 4000000 in
theorem assign_up_spec {c t g : Nd} {lo : Obj} {lkv : List (Str × Value)} {rest : List (Addr × Obj)} {r : List Nd} {x : Str} {tx : Tok} {v : Value}
    (B : Below A₀ base outer h₀) (F : Fr h₀ L s.heap m) (X : (hd.heap_39 w.params).In h₀) (N : News h₀ L s.heap ((g.e, instObj 163 g.d) :: (g.d, g.dct w) :: (g.f, g.fo) :: (g.l, lo) :: rest))
    (T : Top hd.view_39 (looseW hd.view_39 []) mean mg mb h₀) (hk : cs.kind = .function) (hdp : dp + 60 < recursionLimit)
    (m1 : (c.e, instObj 163 c.d) ∈ (g.e, instObj 163 g.d) :: (g.d, g.dct w) :: (g.f, g.fo) :: (g.l, lo) :: rest) (m2 : (c.d, c.dct w) ∈ (g.e, instObj 163 g.d) :: (g.d, g.dct w) :: (g.f, g.fo) :: (g.l, lo) :: rest)
    (hC : Chain w ((g.e, instObj 163 g.d) :: (g.d, g.dct w) :: (g.f, g.fo) :: (g.l, lo) :: rest) c.par r) (h0 : c.num = 0 → r = [])
    (t1 : (t.e, instObj 163 t.d) ∈ (g.e, instObj 163 g.d) :: (g.d, g.dct w) :: (g.f, g.fo) :: (g.l, lo) :: rest) (t2 : (t.d, t.dct w) ∈ (g.e, instObj 163 g.d) :: (g.d, g.dct w) :: (g.f, g.fo) :: (g.l, lo) :: rest) (t0 : t.num = 0)
    (hg : (r.find? (Nd.has x)).getD t = g)
    (hf : g.fo.IsDictOf (PySem.strKind PySem.Challenge.rw_ov0043_01.row.prog w) g.fk) (hl : lo.IsDictOf (PySem.strKind PySem.Challenge.rw_ov0043_01.row.prog w) lkv) (nf : (g.f == sysModules) = false) (nl : (g.l == sysModules) = false)
    (n1 : g.e ≠ g.f) (n2 : g.d ≠ g.f) (n3 : g.l ≠ g.f) (hoff : ∀ p ∈ rest, p.1 ≠ g.f) (hsz : g.fk.length ≤ 1000) (hx : x.length ≤ 1000)
    (hlk : ∀ v, valueAt lkv x = some v → v = .bool true ∧ ∃ y, valueAt g.fk x = some y) (hv : handedIn v = true)
    (er1 : (valueAt lkv x).isSome = true → Raises w base h₀ L m (envX cn cs L a ccd cl :: outer) (Str.ofString "cannot change value of locked binding for '" ++ x ++ Str.ofString "'") ((g.e, instObj 163 g.d) :: (g.d, g.dct w) :: (g.f, g.fo) :: (g.l, lo) :: rest) E s)
    (er2 : valueAt g.fk x = none → g.lk = true → Raises w base h₀ L m (envX cn cs L a ccd cl :: outer) (Str.ofString "cannot add bindings to a locked environment") ((g.e, instObj 163 g.d) :: (g.d, g.dct w) :: (g.f, g.fo) :: (g.l, lo) :: rest) E s)
    (ret : ∀ fo' h' tk', valueAt lkv x = none → (g.lk = true → (valueAt g.fk x).isSome = true) → fo'.IsDictOf (PySem.strKind PySem.Challenge.rw_ov0043_01.row.prog w) (stored g.fk x v) → Fr h₀ L h' m →
      News h₀ L h' ((g.e, instObj 163 g.d) :: (g.d, g.dct w) :: (g.f, fo') :: (g.l, lo) :: rest) → Q .none { s with heap := h', toks := tk' }) :
    wpAny (model PySem.Challenge.rw_ov0043_01.row.prog w) (ktrTop dp un gd cn cs L a ccd cl outer) (call (.ref 109) [.ref c.e, .str x tx, v, .ref t.e]) Q E s := by
  revert X; k_fill; intro X
  refine wpAny_call ?_
  k_dflt ktr_enter
  k_steps
  · have er3 := er1 (by assumption); clear er1 er2; walk_at "mine_again"
  · have er3 := er2 (by assumption) (by assumption); clear er1 er2; walk_at "mine_again"
  · exact ret _ _ _ (by assumption) (by assumption) (by assumption) (by assumption) (by assumption)
end
end
/-! part B0 -/
theorem part_B0 : True := by w_top off; (try walk1); trivial
section
/-- a number's vector object's own dict, as __init__ leaves it -/
noncomputable abbrev vecD (w : World) (T : Nat → Tok) (it : Addr) : Obj := dictOf
  [⟨PyData.keyHash w.params (Str.ofString "kind"), .str (Str.ofString "kind") (T 0), .str (Str.ofString "integer") (T 1)⟩,
   ⟨PyData.keyHash w.params (Str.ofString "items"), .str (Str.ofString "items") (T 2), .ref it⟩,
   ⟨PyData.keyHash w.params (Str.ofString "attrs"), .str (Str.ofString "attrs") (T 3), .none⟩,
   ⟨PyData.keyHash w.params (Str.ofString "shared"), .str (Str.ofString "shared") (T 4), .bool false⟩,
   ⟨PyData.keyHash w.params (Str.ofString "loose"), .str (Str.ofString "loose") (T 5), .bool false⟩] 5
section
variable {w : World} {mean : ExcName → Option Value} {mg mb : Str → Option Value} {dp un : Nat} {gd : Option (List Code)} {cn : Str} {cs : Scope} {a : Addr} {ccd : Value} {cl : List (Str × Addr)} {outer : List Env} {A₀ : Around} {base h₀ : Heap} {L : Addr} {m : Str → Option Value} {s : Shared} {Q E : Value → Shared → Prop}
set_option maxHeartbeats 4000000 in
theorem whole_spec {wl : List (Addr × Obj)} {tf : Tok} {fig : Int}
    (B : Below A₀ base outer h₀) (F : Fr h₀ L s.heap m) (X : (hd.heap_39 w.params).In h₀) (N : News h₀ L s.heap wl)
    (T : Top hd.view_39 (looseW hd.view_39 []) mean mg mb h₀) (hk : cs.kind = .function) (hdp : dp + 40 < recursionLimit)
    (ret : ∀ v d it T h' tk', Fr h₀ L h' m → News h₀ L h' ((v, instObj 141 d) :: (d, vecD w T it) :: (it, W.listOf #[.int fig tf] 0) :: wl) → it < d → d < v → (∀ p ∈ wl, p.1 < it) → Q (.ref v) { s with heap := h', toks := tk' }) :
    wpAny (model PySem.Challenge.rw_ov0043_01.row.prog w) (ktrTop dp un gd cn cs L a ccd cl outer) (call (.ref 174) [.int fig tf]) Q E s := by
  revert X; k_fill; intro X
  refine wpAny_call ?_
  k_dflt ktr_enter
  k_steps
  exact ret _ _ _ (fun i => [_, _, _, _, _, _].getD i 0) _ _ (by assumption) (by assumption) (by assumption : _ ∧ AllLt _ wl).1 (by assumption) (by assumption)
end
end
/-! part B1 -/
theorem part_B1 : True := by w_top off; (try walk1); trivial
section
/-- the ledger, its one entry ahead -/
theorem upd_front {d : Addr} {o : Obj} {wl : List (Addr × Obj)} {g : Obj → List (Addr × Obj)} (U : UpdF d o wl g) :
    ∃ rest : List (Addr × Obj), (∀ p ∈ rest, p.1 ≠ d) ∧ (∀ p, p ∈ wl ↔ p = (d, o) ∨ p ∈ rest) ∧ ∀ o' p, p ∈ g o' ↔ p = (d, o') ∨ p ∈ rest := by
  obtain ⟨pre, post, rfl, hg, a, b⟩ := U.split
  refine ⟨pre ++ post, fun p hp => ?_, fun p => ?_, fun o' p => ?_⟩
  · rcases List.mem_append.mp hp with h | h
    · exact a p h
    · exact b p h
  · simp only [List.mem_append, List.mem_cons]
    constructor
    · rintro (h | h | h) <;> simp [h]
    · rintro (h | h | h) <;> simp [h]
  · rw [hg]
    simp only [List.mem_append, List.mem_cons]
    constructor
    · rintro (h | h | h) <;> simp [h]
    · rintro (h | h | h) <;> simp [h]
theorem Raises.mono {w : World} {base h₀ : Heap} {L : Addr} {m : Str → Option Value} {l : List Env} {text : Str} {wl wl' : List (Addr × Obj)} {E : Value → Shared → Prop} {s : Shared} (r : Raises w base h₀ L m l text wl E s) (hs : ∀ p ∈ wl, p ∈ wl') : Raises w base h₀ L m l text wl' E s :=
  fun e D tk t g h' tk' F R u => r e D tk t g h' tk' F (R.sub fun p hp => by
    rcases List.mem_cons.mp hp with rfl | hp
    · exact .head _
    · exact .tail _ (hs p hp)) u
section
variable {w : World} {mean : ExcName → Option Value} {mg mb : Str → Option Value} {dp un : Nat} {gd : Option (List Code)} {cn : Str} {cs : Scope} {a : Addr} {ccd : Value} {cl : List (Str × Addr)} {outer : List Env} {A₀ : Around} {base h₀ : Heap} {L : Addr} {m : Str → Option Value} {s : Shared} {Q E : Value → Shared → Prop}
variable {wl : List (Addr × Obj)} {g : Obj → List (Addr × Obj)}
theorem take_gen {S R : Addr} {rvs : List Value} {ns : List Int} {nS nR : Nat} {at_ most : Int} {tA tM : Tok}
    (B : Below A₀ base outer h₀) (F : Fr h₀ L s.heap m) (X : (hd.heap_39 w.params).In h₀) (N : News h₀ L s.heap wl) (T : Top hd.view_39 (looseW hd.view_39 []) mean mg mb h₀) (hk : cs.kind = .function) (U : UpdF S (W.listOf #[.ref R, .int at_ tA] nS) wl g) (mR : (R, W.listOf rvs.toArray nR) ∈ wl) (hRS : R ≠ S)
    (hI : IntsAre rvs ns) (hlen : ns.length ≤ 40) (h0 : 0 ≤ at_) (h1 : at_ ≤ 1000) (hm : 0 < most) (hm2 : most ≤ 1000) (hdp : dp + 20 < recursionLimit) (hun : un + 100 < cLine)
    (ret : ∀ r t tA' h' tk', 0 ≤ r → r < most → Fr h₀ L h' m → News h₀ L h' (g (W.listOf #[.ref R, .int (at_ + 1) tA'] nS)) → Q (.int r t) { s with heap := h', toks := tk' }) :
    wpAny (model PySem.Challenge.rw_ov0043_01.row.prog w) (ktrTop dp un gd cn cs L a ccd cl outer) (call (.ref 181) [.ref S, .int most tM]) Q E s := by
  obtain ⟨rest, off, hw, hg⟩ := upd_front U
  have N' : News h₀ L s.heap ((S, W.listOf #[.ref R, .int at_ tA] nS) :: (R, W.listOf rvs.toArray nR) :: rest) := news_sub N fun p hp => by
    simp only [List.mem_cons] at hp
    rcases hp with rfl | rfl | hp
    · exact (hw _).mpr (.inl rfl)
    · exact mR
    · exact (hw _).mpr (.inr hp)
  refine take_spec B F X N' T hk hI hlen h0 h1 hm hm2 off hRS hdp hun fun r t tA' h' tk' a1 a2 F2 N2 => ret r t tA' h' tk' a1 a2 F2 (news_sub N2 fun p hp => ?_)
  rcases (hg _ _).mp hp with rfl | hp
  · exact .head _
  · exact .tail _ (.tail _ hp)
theorem define_gen {c : Nd} {lo : Obj} {lkv : List (Str × Value)} {x : Str} {tx : Tok} {v : Value}
    (B : Below A₀ base outer h₀) (F : Fr h₀ L s.heap m) (X : (hd.heap_39 w.params).In h₀) (N : News h₀ L s.heap wl) (T : Top hd.view_39 (looseW hd.view_39 []) mean mg mb h₀) (hk : cs.kind = .function) (hdp : dp + 40 < recursionLimit) (U : UpdF c.f c.fo wl g) (m1 : (c.e, instObj 163 c.d) ∈ wl) (m2 : (c.d, c.dct w) ∈ wl) (m4 : (c.l, lo) ∈ wl)
    (hf : c.fo.IsDictOf (PySem.strKind PySem.Challenge.rw_ov0043_01.row.prog w) c.fk) (hl : lo.IsDictOf (PySem.strKind PySem.Challenge.rw_ov0043_01.row.prog w) lkv) (nf : (c.f == sysModules) = false) (nl : (c.l == sysModules) = false)
    (n1 : c.e ≠ c.f) (n2 : c.d ≠ c.f) (n3 : c.l ≠ c.f) (hsz : c.fk.length ≤ 1000) (hx : x.length ≤ 1000)
    (hlk : ∀ v, valueAt lkv x = some v → v = .bool true ∧ ∃ y, valueAt c.fk x = some y)
    (er1 : (valueAt lkv x).isSome = true → Raises w base h₀ L m (envX cn cs L a ccd cl :: outer) (Str.ofString "cannot change value of locked binding for '" ++ x ++ Str.ofString "'") wl E s)
    (er2 : valueAt c.fk x = none → c.lk = true → Raises w base h₀ L m (envX cn cs L a ccd cl :: outer) (Str.ofString "cannot add bindings to a locked environment") wl E s)
    (ret : ∀ fo' h' tk', valueAt lkv x = none → (c.lk = true → (valueAt c.fk x).isSome = true) → fo'.IsDictOf (PySem.strKind PySem.Challenge.rw_ov0043_01.row.prog w) (stored c.fk x v) → Fr h₀ L h' m → News h₀ L h' (g fo') → Q .none { s with heap := h', toks := tk' }) :
    wpAny (model PySem.Challenge.rw_ov0043_01.row.prog w) (ktrTop dp un gd cn cs L a ccd cl outer) (call (.ref 95) [.ref c.e, .str x tx, v]) Q E s := by
  obtain ⟨rest, off, hw, hg⟩ := upd_front U
  have N' : News h₀ L s.heap ((c.e, instObj 163 c.d) :: (c.d, c.dct w) :: (c.f, c.fo) :: (c.l, lo) :: rest) := news_sub N fun p hp => by
    simp only [List.mem_cons] at hp
    rcases hp with rfl | rfl | rfl | rfl | hp
    · exact m1
    · exact m2
    · exact (hw _).mpr (.inl rfl)
    · exact m4
    · exact (hw _).mpr (.inr hp)
  have sub : ∀ p ∈ wl, p ∈ (c.e, instObj 163 c.d) :: (c.d, c.dct w) :: (c.f, c.fo) :: (c.l, lo) :: rest := fun p hp => by
    rcases (hw _).mp hp with rfl | hp
    · exact .tail _ (.tail _ (.head _))
    · exact .tail _ (.tail _ (.tail _ (.tail _ hp)))
  refine define_spec B F X N' T hk hdp hf hl nf nl n1 n2 n3 off hsz hx hlk (fun q => (er1 q).mono sub) (fun q q2 => (er2 q q2).mono sub) fun fo' h' tk' a1 a2 a3 F2 N2 => ret fo' h' tk' a1 a2 a3 F2 (news_sub N2 fun p hp => ?_)
  rcases (hg _ _).mp hp with rfl | hp
  · exact .tail _ (.tail _ (.head _))
  · exact .tail _ (.tail _ (.tail _ (.tail _ hp)))
theorem assign_up_gen {c t e : Nd} {lo : Obj} {lkv : List (Str × Value)} {r : List Nd} {x : Str} {tx : Tok} {v : Value}
    (B : Below A₀ base outer h₀) (F : Fr h₀ L s.heap m) (X : (hd.heap_39 w.params).In h₀) (N : News h₀ L s.heap wl) (T : Top hd.view_39 (looseW hd.view_39 []) mean mg mb h₀) (hk : cs.kind = .function) (hdp : dp + 60 < recursionLimit) (U : UpdF e.f e.fo wl g) (m1 : (e.e, instObj 163 e.d) ∈ wl) (m2 : (e.d, e.dct w) ∈ wl) (m4 : (e.l, lo) ∈ wl)
    (c1 : (c.e, instObj 163 c.d) ∈ wl) (c2 : (c.d, c.dct w) ∈ wl) (hC : Chain w wl c.par r) (h0 : c.num = 0 → r = []) (t1 : (t.e, instObj 163 t.d) ∈ wl) (t2 : (t.d, t.dct w) ∈ wl) (t0 : t.num = 0)
    (he : (r.find? (Nd.has x)).getD t = e)
    (hf : e.fo.IsDictOf (PySem.strKind PySem.Challenge.rw_ov0043_01.row.prog w) e.fk) (hl : lo.IsDictOf (PySem.strKind PySem.Challenge.rw_ov0043_01.row.prog w) lkv) (nf : (e.f == sysModules) = false) (nl : (e.l == sysModules) = false)
    (n1 : e.e ≠ e.f) (n2 : e.d ≠ e.f) (n3 : e.l ≠ e.f) (hsz : e.fk.length ≤ 1000) (hx : x.length ≤ 1000)
    (hlk : ∀ v, valueAt lkv x = some v → v = .bool true ∧ ∃ y, valueAt e.fk x = some y) (hv : handedIn v = true)
    (er1 : (valueAt lkv x).isSome = true → Raises w base h₀ L m (envX cn cs L a ccd cl :: outer) (Str.ofString "cannot change value of locked binding for '" ++ x ++ Str.ofString "'") wl E s)
    (er2 : valueAt e.fk x = none → e.lk = true → Raises w base h₀ L m (envX cn cs L a ccd cl :: outer) (Str.ofString "cannot add bindings to a locked environment") wl E s)
    (ret : ∀ fo' h' tk', valueAt lkv x = none → (e.lk = true → (valueAt e.fk x).isSome = true) → fo'.IsDictOf (PySem.strKind PySem.Challenge.rw_ov0043_01.row.prog w) (stored e.fk x v) → Fr h₀ L h' m → News h₀ L h' (g fo') → Q .none { s with heap := h', toks := tk' }) :
    wpAny (model PySem.Challenge.rw_ov0043_01.row.prog w) (ktrTop dp un gd cn cs L a ccd cl outer) (call (.ref 109) [.ref c.e, .str x tx, v, .ref t.e]) Q E s := by
  obtain ⟨rest, off, hw, hg⟩ := upd_front U
  have N' : News h₀ L s.heap ((e.e, instObj 163 e.d) :: (e.d, e.dct w) :: (e.f, e.fo) :: (e.l, lo) :: rest) := news_sub N fun p hp => by
    simp only [List.mem_cons] at hp
    rcases hp with rfl | rfl | rfl | rfl | hp
    · exact m1
    · exact m2
    · exact (hw _).mpr (.inl rfl)
    · exact m4
    · exact (hw _).mpr (.inr hp)
  have sub : ∀ p ∈ wl, p ∈ (e.e, instObj 163 e.d) :: (e.d, e.dct w) :: (e.f, e.fo) :: (e.l, lo) :: rest := fun p hp => by
    rcases (hw _).mp hp with rfl | hp
    · exact .tail _ (.tail _ (.head _))
    · exact .tail _ (.tail _ (.tail _ (.tail _ hp)))
  refine assign_up_spec B F X N' T hk hdp (sub _ c1) (sub _ c2) (hC.mono sub) h0 (sub _ t1) (sub _ t2) t0 he hf hl nf nl n1 n2 n3 off hsz hx hlk hv (fun q => (er1 q).mono sub) (fun q q2 => (er2 q q2).mono sub) fun fo' h' tk' a1 a2 a3 F2 N2 => ret fo' h' tk' a1 a2 a3 F2 (news_sub N2 fun p hp => ?_)
  rcases (hg _ _).mp hp with rfl | hp
  · exact .tail _ (.tail _ (.head _))
  · exact .tail _ (.tail _ (.tail _ (.tail _ hp)))
theorem remove_gen {c : Nd} {lo : Obj} {lkv : List (Str × Value)} {x : Str} {tx : Tok} {g2 : Obj → Obj → List (Addr × Obj)}
    (B : Below A₀ base outer h₀) (F : Fr h₀ L s.heap m) (X : (hd.heap_39 w.params).In h₀) (N : News h₀ L s.heap wl) (T : Top hd.view_39 (looseW hd.view_39 []) mean mg mb h₀) (hk : cs.kind = .function) (hdp : dp + 40 < recursionLimit) (U : UpdF c.f c.fo wl g) (U2 : ∀ fo', UpdF c.l lo (g fo') (g2 fo')) (m1 : (c.e, instObj 163 c.d) ∈ wl) (m2 : (c.d, c.dct w) ∈ wl) (m4 : (c.l, lo) ∈ wl)
    (hf : c.fo.IsDictOf (PySem.strKind PySem.Challenge.rw_ov0043_01.row.prog w) c.fk) (hl : lo.IsDictOf (PySem.strKind PySem.Challenge.rw_ov0043_01.row.prog w) lkv) (nf : (c.f == sysModules) = false) (nl : (c.l == sysModules) = false)
    (n1 : c.e ≠ c.f) (n2 : c.d ≠ c.f) (n3 : c.l ≠ c.f) (n4 : c.e ≠ c.l) (n5 : c.d ≠ c.l) (n6 : c.f ≠ c.l) (hsz : c.fk.length ≤ 1000) (hsz2 : lkv.length ≤ 1000)
    (er : (valueAt c.fk x).isSome = true → c.lk = true → Raises w base h₀ L m (envX cn cs L a ccd cl :: outer) (Str.ofString "cannot remove bindings from a locked environment") wl E s)
    (ret0 : ∀ h' tk', valueAt c.fk x = none → Fr h₀ L h' m → News h₀ L h' wl → Q (.bool false) { s with heap := h', toks := tk' })
    (ret : ∀ fo' lo' h' tk', (valueAt c.fk x).isSome = true → c.lk = false → fo'.IsDictOf (PySem.strKind PySem.Challenge.rw_ov0043_01.row.prog w) (without c.fk x) → lo'.IsDictOf (PySem.strKind PySem.Challenge.rw_ov0043_01.row.prog w) (without lkv x) → Fr h₀ L h' m → News h₀ L h' (g2 fo' lo') → Q (.bool true) { s with heap := h', toks := tk' }) :
    wpAny (model PySem.Challenge.rw_ov0043_01.row.prog w) (ktrTop dp un gd cn cs L a ccd cl outer) (call (.ref 116) [.ref c.e, .str x tx]) Q E s := by
  obtain ⟨rest, off, hw, hg⟩ := upd_front U
  have hr : ∀ p, p ∈ rest.filter (fun p => decide (p.1 ≠ c.l)) ↔ p ∈ rest ∧ p.1 ≠ c.l := fun p => by simp
  have N' : News h₀ L s.heap ((c.e, instObj 163 c.d) :: (c.d, c.dct w) :: (c.f, c.fo) :: (c.l, lo) :: rest.filter (fun p => decide (p.1 ≠ c.l))) := news_sub N fun p hp => by
    simp only [List.mem_cons] at hp
    rcases hp with rfl | rfl | rfl | rfl | hp
    · exact m1
    · exact m2
    · exact (hw _).mpr (.inl rfl)
    · exact m4
    · exact (hw _).mpr (.inr ((hr p).mp hp).1)
  have sub : ∀ p ∈ wl, p ∈ (c.e, instObj 163 c.d) :: (c.d, c.dct w) :: (c.f, c.fo) :: (c.l, lo) :: rest.filter (fun p => decide (p.1 ≠ c.l)) := fun p hp => by
    rcases (hw _).mp hp with rfl | hp
    · exact .tail _ (.tail _ (.head _))
    · by_cases hq : p.1 = c.l
      · obtain ⟨r2, off2, hw2, _⟩ := upd_front (U2 c.fo)
        have := (hw2 p).mp ((hg c.fo p).mpr (.inr hp))
        rcases this with rfl | h
        · exact .tail _ (.tail _ (.tail _ (.head _)))
        · exact absurd hq (off2 p h)
      · exact .tail _ (.tail _ (.tail _ (.tail _ ((hr p).mpr ⟨hp, hq⟩))))
  refine remove_spec B F X N' T hk hdp hf hl nf nl n1 n2 n3 (fun p hp => off p ((hr p).mp hp).1) n4 n5 n6 (fun p hp => ((hr p).mp hp).2) hsz hsz2 (fun q q2 => (er q q2).mono sub)
    (fun h' tk' a1 F2 N2 => ret0 h' tk' a1 F2 (news_sub N2 sub)) fun fo' lo' h' tk' a1 a2 a3 a4 F2 N2 => ret fo' lo' h' tk' a1 a2 a3 a4 F2 (news_sub N2 fun p hp => ?_)
  obtain ⟨r2, off2, hw2, hg2⟩ := upd_front (U2 fo')
  rcases (hg2 _ _).mp hp with rfl | hp
  · exact .tail _ (.tail _ (.tail _ (.head _)))
  · rcases (hg _ _).mp ((hw2 p).mpr (.inr hp)) with rfl | h
    · exact .tail _ (.tail _ (.head _))
    · exact .tail _ (.tail _ (.tail _ (.tail _ ((hr p).mpr ⟨h, off2 p hp⟩))))
theorem law_set_gen {Wa t h b sh : Addr} {wa : Array Value} {nW nt nb ns i : Nat} {ho : Obj} {hkv : List (Str × Value)} {bvs : List Value} {bd : List Str} {lk : Bool} {x : Str} {tx ta tf : Tok} {fig : Int}
    (B : Below A₀ base outer h₀) (F : Fr h₀ L s.heap m) (X : (hd.heap_39 w.params).In h₀) (N : News h₀ L s.heap wl) (T : Top hd.view_39 (looseW hd.view_39 []) mean mg mb h₀) (hk : cs.kind = .function) (hdp : dp + 40 < recursionLimit) (U : UpdF h ho wl g) (m1 : (Wa, W.listOf wa nW) ∈ wl) (m2 : (t, W.listOf #[.ref h, .ref b, .ref sh] nt) ∈ wl) (m3 : (b, W.listOf bvs.toArray nb) ∈ wl) (m4 : (sh, W.listOf #[.bool lk] ns) ∈ wl)
    (hi : wa[i]? = some (.ref t)) (hws : wa.size ≤ 1000) (hh : ho.IsDictOf (PySem.strKind PySem.Challenge.rw_ov0043_01.row.prog w) hkv) (hb : StrsAre bvs bd) (nh : (h == sysModules) = false)
    (n1 : Wa ≠ h) (n2 : t ≠ h) (n3 : b ≠ h) (n4 : sh ≠ h) (hsz : hkv.length ≤ 1000) (hx : x.length ≤ 1000)
    (ret1 : ∀ h' tk' tt, (valueAt hkv x).isSome = true → bd.any (· == x) = true → Fr h₀ L h' m → News h₀ L h' wl → Q (.str (Str.ofString "cannot change value of locked binding for '" ++ x ++ Str.ofString "'") tt) { s with heap := h', toks := tk' })
    (ret2 : ∀ h' tk' tt, valueAt hkv x = none → lk = true → Fr h₀ L h' m → News h₀ L h' wl → Q (.str (Str.ofString "cannot add bindings to a locked environment") tt) { s with heap := h', toks := tk' })
    (ret3 : ∀ ho' h' tk' tt, ((valueAt hkv x).isSome = true → bd.any (· == x) = false) → (valueAt hkv x = none → lk = false) → ho'.IsDictOf (PySem.strKind PySem.Challenge.rw_ov0043_01.row.prog w) (stored hkv x (.int fig tf)) → Fr h₀ L h' m → News h₀ L h' (g ho') → Q (.str (Str.ofString "") tt) { s with heap := h', toks := tk' }) :
    wpAny (model PySem.Challenge.rw_ov0043_01.row.prog w) (ktrTop dp un gd cn cs L a ccd cl outer) (call (.ref 188) [.ref Wa, .int (i : Int) ta, .str x tx, .int fig tf]) Q E s := by
  obtain ⟨rest, off, hw, hg⟩ := upd_front U
  have N' : News h₀ L s.heap ((Wa, W.listOf wa nW) :: (t, W.listOf #[.ref h, .ref b, .ref sh] nt) :: (h, ho) :: (b, W.listOf bvs.toArray nb) :: (sh, W.listOf #[.bool lk] ns) :: rest) := news_sub N fun p hp => by
    simp only [List.mem_cons] at hp
    rcases hp with rfl | rfl | rfl | rfl | rfl | hp
    · exact m1
    · exact m2
    · exact (hw _).mpr (.inl rfl)
    · exact m3
    · exact m4
    · exact (hw _).mpr (.inr hp)
  have sub : ∀ p ∈ wl, p ∈ (Wa, W.listOf wa nW) :: (t, W.listOf #[.ref h, .ref b, .ref sh] nt) :: (h, ho) :: (b, W.listOf bvs.toArray nb) :: (sh, W.listOf #[.bool lk] ns) :: rest := fun p hp => by
    rcases (hw _).mp hp with rfl | hp
    · exact .tail _ (.tail _ (.head _))
    · exact .tail _ (.tail _ (.tail _ (.tail _ (.tail _ hp))))
  refine law_set_spec B F X N' T hk hdp hi hws hh hb nh n1 n2 n3 n4 off hsz hx (fun h' tk' tt a1 a2 F2 N2 => ret1 h' tk' tt a1 a2 F2 (news_sub N2 sub)) (fun h' tk' tt a1 a2 F2 N2 => ret2 h' tk' tt a1 a2 F2 (news_sub N2 sub))
    fun ho' h' tk' tt a1 a2 a3 F2 N2 => ret3 ho' h' tk' tt a1 a2 a3 F2 (news_sub N2 fun p hp => ?_)
  rcases (hg _ _).mp hp with rfl | hp
  · exact .tail _ (.tail _ (.head _))
  · exact .tail _ (.tail _ (.tail _ (.tail _ (.tail _ hp))))
end
end
/-! part C0 -/
theorem part_C0 : True := by w_top off; (try walk1); trivial
section
/-! the law's own statements, by their places in the program -/
noncomputable def bodyOf : Stmt → List Stmt
  | .FunctionDef _ _ b _ _ _ _ _ _ _ => b
  | .For _ _ b _ _ => b
  | .While _ b _ _ => b
  | .Try b _ _ _ _ => b
  | _ => []
noncomputable def scopeOf : Stmt → Scope
  | .FunctionDef _ _ _ _ _ _ sc _ _ _ => sc
  | _ => default
noncomputable def nthS : List Stmt → Nat → Stmt
  | [], _ => .Pass default
  | s :: _, 0 => s
  | _ :: r, n + 1 => nthS r n
noncomputable def lawDef : Stmt := nthS PySem.Challenge.pw_ov0043_01.main.body 21
noncomputable def lawScope : Scope := scopeOf lawDef
noncomputable def lawBody : List Stmt := bodyOf lawDef
noncomputable def buildBody : List Stmt := bodyOf (nthS lawBody 3)
noncomputable def deedBody : List Stmt := bodyOf (nthS lawBody 5)
noncomputable def spotBody : List Stmt := bodyOf (nthS deedBody 9)
noncomputable def letterBody : List Stmt := bodyOf (nthS spotBody 4)
/-- one environment, and what the law holds beside it -/
structure Cl where
  c : Nd
  lo : Obj
  lkv : List (Str × Value)
  t : Addr
  h : Addr
  b : Addr
  sh : Addr
  nt : Nat
  nb : Nat
  ns : Nat
  ho : Obj
  hkv : List (Str × Value)
  bvs : List Value
  bd : List Str
noncomputable def Cl.led (w : World) (q : Cl) : List (Addr × Obj) :=
  [(q.c.e, instObj 163 q.c.d), (q.c.d, q.c.dct w), (q.c.f, q.c.fo), (q.c.l, q.lo), (q.t, PySem.W.listOf #[.ref q.h, .ref q.b, .ref q.sh] q.nt), (q.h, q.ho), (q.b, PySem.W.listOf q.bvs.toArray q.nb), (q.sh, PySem.W.listOf #[.bool q.c.lk] q.ns)]
/-- what holds of the environment number i after z deeds at most -/
structure CellOk (w : World) (fix : List (Addr × Obj)) (i z : Nat) (q : Cl) : Prop where
  num : q.c.num = (i : Int)
  hf : q.c.fo.IsDictOf (PySem.strKind PySem.Challenge.rw_ov0043_01.row.prog w) q.c.fk
  hl : q.lo.IsDictOf (PySem.strKind PySem.Challenge.rw_ov0043_01.row.prog w) q.lkv
  hh : q.ho.IsDictOf (PySem.strKind PySem.Challenge.rw_ov0043_01.row.prog w) q.hkv
  hb : StrsAre q.bvs q.bd
  nf : (q.c.f == sysModules) = false
  nl : (q.c.l == sysModules) = false
  nh : (q.h == sysModules) = false
  ord : q.c.d < q.c.e ∧ q.c.e < q.c.f ∧ q.c.f < q.c.l ∧ q.c.l < q.h ∧ q.h < q.b ∧ q.b < q.sh ∧ q.sh < q.t
  vals : ∀ x v, valueAt q.c.fk x = some v → ∃ b d it T k t t', v = .ref b ∧ (b, instObj 141 d) ∈ fix ∧ (d, vecD w T it) ∈ fix ∧ (it, PySem.W.listOf #[.int k t] 0) ∈ fix ∧ valueAt q.hkv x = some (.int k t')
  hval : ∀ x, valueAt q.c.fk x = none → valueAt q.hkv x = none
  locks : ∀ x, (valueAt q.lkv x = none ∧ q.bd.any (· == x) = false) ∨ (valueAt q.lkv x = some (.bool true) ∧ q.bd.any (· == x) = true ∧ (valueAt q.c.fk x).isSome = true)
  nd : q.bd.Nodup
  sz : q.c.fk.length ≤ z ∧ q.lkv.length ≤ z ∧ q.hkv.length ≤ z ∧ q.bd.length ≤ z
/-- the whole that the law has built -/
structure Wd where
  n : Nat
  up : Nat → Nat
  c : Nat → Cl
  fix : List (Addr × Obj)
noncomputable def AdrOff (l l' : List (Addr × Obj)) : Prop := ∀ p ∈ l, ∀ q ∈ l', p.1 ≠ q.1
structure WOk (w : World) (W : Wd) (z : Nat) (wl : List (Addr × Obj)) : Prop where
  pos : 0 < W.n
  top : W.n ≤ 5
  upl : ∀ i, 0 < i → i < W.n → W.up i < i
  par0 : (W.c 0).c.par = .none
  par : ∀ i, 0 < i → i < W.n → (W.c i).c.par = .ref (W.c (W.up i)).c.e
  ok : ∀ i, i < W.n → CellOk w W.fix i z (W.c i)
  sub : ∀ i, i < W.n → ∀ p ∈ (W.c i).led w, p ∈ wl
  subF : ∀ p ∈ W.fix, p ∈ wl
  dis : ∀ i j, i < W.n → j < W.n → i ≠ j → AdrOff ((W.c i).led w) ((W.c j).led w)
  disF : ∀ i, i < W.n → AdrOff ((W.c i).led w) W.fix
/-- the numbers from i upward to the first -/
inductive Path (W : Wd) : Nat → List Nat → Prop
  | root : Path W 0 [0]
  | up {i : Nat} {l : List Nat} : 0 < i → i < W.n → Path W (W.up i) l → Path W i (i :: l)
section
variable {w : World} {W : Wd} {z : Nat} {wl : List (Addr × Obj)}
theorem Path.lt {i : Nat} {l : List Nat} (h : Path W i l) (O : WOk w W z wl) : ∀ j ∈ l, j < W.n ∧ j ≤ i := by
  induction h with
  | root => intro j hj; rw [List.mem_singleton.mp hj]; exact ⟨O.pos, Nat.le_refl _⟩
  | up h0 hi _ ih =>
    intro j hj
    rcases List.mem_cons.mp hj with rfl | hj
    · exact ⟨hi, Nat.le_refl _⟩
    · have := O.upl _ h0 hi
      exact ⟨(ih j hj).1, Nat.le_trans (ih j hj).2 (Nat.le_of_lt this)⟩
theorem Path.len {i : Nat} {l : List Nat} (h : Path W i l) (O : WOk w W z wl) : l.length ≤ i + 1 := by
  induction h with
  | root => exact Nat.le_refl _
  | up h0 hi _ ih =>
    have := O.upl _ h0 hi
    rw [List.length_cons]
    omega
theorem Path.ex (O : WOk w W z wl) : ∀ k i, i < k → i < W.n → ∃ l, Path W i l := by
  intro k
  induction k with
  | zero => intro i h; exact absurd h (Nat.not_lt_zero _)
  | succ k ih =>
    intro i h hi
    rcases Nat.eq_zero_or_pos i with rfl | h0
    · exact ⟨_, .root⟩
    · have := O.upl _ h0 hi
      obtain ⟨l, hl⟩ := ih (W.up i) (by omega) (by omega)
      exact ⟨_, .up h0 hi hl⟩
theorem Path.head {i : Nat} {l : List Nat} (h : Path W i l) : ∃ r, l = i :: r := by
  cases h with
  | root => exact ⟨_, rfl⟩
  | up _ _ _ => exact ⟨_, rfl⟩
theorem CellOk.refs {fix : List (Addr × Obj)} {i : Nat} {q : Cl} (K : CellOk w fix i z q) : ∀ x v, valueAt q.c.fk x = some v → ∃ b, v = .ref b := fun x v h => by
  obtain ⟨b, _, _, _, _, _, _, e, _⟩ := K.vals x v h
  exact ⟨b, e⟩
theorem WOk.m1 (O : WOk w W z wl) {i : Nat} (hi : i < W.n) : ((W.c i).c.e, instObj 163 (W.c i).c.d) ∈ wl := O.sub i hi _ (.head _)
theorem WOk.m2 (O : WOk w W z wl) {i : Nat} (hi : i < W.n) : ((W.c i).c.d, (W.c i).c.dct w) ∈ wl := O.sub i hi _ (.tail _ (.head _))
theorem WOk.m3 (O : WOk w W z wl) {i : Nat} (hi : i < W.n) : ((W.c i).c.f, (W.c i).c.fo) ∈ wl := O.sub i hi _ (.tail _ (.tail _ (.head _)))
theorem WOk.m4 (O : WOk w W z wl) {i : Nat} (hi : i < W.n) : ((W.c i).c.l, (W.c i).lo) ∈ wl := O.sub i hi _ (.tail _ (.tail _ (.tail _ (.head _))))
theorem WOk.m5 (O : WOk w W z wl) {i : Nat} (hi : i < W.n) : ((W.c i).t, PySem.W.listOf #[.ref (W.c i).h, .ref (W.c i).b, .ref (W.c i).sh] (W.c i).nt) ∈ wl := O.sub i hi _ (.tail _ (.tail _ (.tail _ (.tail _ (.head _)))))
theorem WOk.m6 (O : WOk w W z wl) {i : Nat} (hi : i < W.n) : ((W.c i).h, (W.c i).ho) ∈ wl := O.sub i hi _ (.tail _ (.tail _ (.tail _ (.tail _ (.tail _ (.head _))))))
theorem WOk.m7 (O : WOk w W z wl) {i : Nat} (hi : i < W.n) : ((W.c i).b, PySem.W.listOf (W.c i).bvs.toArray (W.c i).nb) ∈ wl := O.sub i hi _ (.tail _ (.tail _ (.tail _ (.tail _ (.tail _ (.tail _ (.head _)))))))
theorem WOk.m8 (O : WOk w W z wl) {i : Nat} (hi : i < W.n) : ((W.c i).sh, PySem.W.listOf #[.bool (W.c i).c.lk] (W.c i).ns) ∈ wl := O.sub i hi _ (.tail _ (.tail _ (.tail _ (.tail _ (.tail _ (.tail _ (.tail _ (.head _))))))))
theorem WOk.chainN (O : WOk w W z wl) {i : Nat} {r : List Nd} (hi : i < W.n) (hr : (W.c i).c.num = 0 → r = []) (h : Chain w wl (W.c i).c.par r) : Chain w wl (.ref (W.c i).c.e) ((W.c i).c :: r) :=
  .cons (O.m1 hi) (O.m2 hi) (O.m3 hi) (O.ok i hi).hf (O.ok i hi).nf (O.ok i hi).refs hr h
theorem WOk.chain (O : WOk w W z wl) {i : Nat} {l : List Nat} (h : Path W i l) : Chain w wl (.ref (W.c i).c.e) (l.map fun j => (W.c j).c) := by
  induction h with
  | root =>
    refine O.chainN O.pos (fun _ => rfl) ?_
    rw [O.par0]
    exact .nil
  | @up i l h0 hi hp ih =>
    refine O.chainN hi (fun q => ?_) ?_
    · rw [(O.ok i hi).num] at q; omega
    · rw [O.par i h0 hi]
      exact ih
/-- what the nearest holder is, in both books -/
theorem WOk.having (O : WOk w W z wl) {i : Nat} {l : List Nat} (h : Path W i l) (x : Str) :
    (l.filter (fun j => (valueAt (W.c j).hkv x).isSome) = [] ∧ (l.map fun j => (W.c j).c).findSome? (fun c => valueAt c.fk x) = none ∧ (l.map fun j => (W.c j).c).find? (Nd.has x) = none ∧ valueAt (W.c i).c.fk x = none) ∨
    (∃ k r v, l.filter (fun j => (valueAt (W.c j).hkv x).isSome) = k :: r ∧ k < W.n ∧ (l.map fun j => (W.c j).c).findSome? (fun c => valueAt c.fk x) = some v ∧ (l.map fun j => (W.c j).c).find? (Nd.has x) = some (W.c k).c ∧
      valueAt (W.c k).c.fk x = some v ∧ (valueAt (W.c i).c.fk x).isSome = (k == i)) := by
  have key : ∀ j, j < W.n → (valueAt (W.c j).hkv x).isSome = (valueAt (W.c j).c.fk x).isSome := fun j hj => by
    cases hv : valueAt (W.c j).c.fk x with
    | none => rw [(O.ok j hj).hval x hv]
    | some v =>
      obtain ⟨_, _, _, _, _, _, _, _, _, _, _, e⟩ := (O.ok j hj).vals x v hv
      rw [e]; rfl
  induction h with
  | root =>
    have k0 := key 0 O.pos
    cases hv : valueAt (W.c 0).c.fk x with
    | none =>
      left
      rw [hv] at k0
      simp [hv, k0, Nd.has]
    | some v =>
      right
      rw [hv] at k0
      refine ⟨0, [], v, ?_, O.pos, ?_, ?_, hv, ?_⟩
      · simp [k0]
      · simp [hv]
      · simp [Nd.has, hv]
      · simp
  | @up i l h0 hi hp ih =>
    have ki := key i hi
    cases hv : valueAt (W.c i).c.fk x with
    | none =>
      rw [hv] at ki
      have ki' : (valueAt (W.c i).hkv x).isSome = false := ki
      have hn : Nd.has x (W.c i).c = false := Nd.has_none hv
      rcases ih with ⟨a1, a2, a3, a4⟩ | ⟨k, r, v, a1, a2, a3, a4, a5, a6⟩
      · left
        refine ⟨?_, ?_, ?_, rfl⟩
        · rw [List.filter_cons_of_neg (by simp [ki']), a1]
        · rw [List.map_cons, List.findSome?_cons, hv]; exact a2
        · rw [List.map_cons, List.find?_cons, hn]; exact a3
      · right
        refine ⟨k, r, v, ?_, a2, ?_, ?_, a5, ?_⟩
        · rw [List.filter_cons_of_neg (by simp [ki']), a1]
        · rw [List.map_cons, List.findSome?_cons, hv]; exact a3
        · rw [List.map_cons, List.find?_cons, hn]; exact a4
        · have hk : k ∈ l := by
            have : k ∈ l.filter (fun j => (valueAt (W.c j).hkv x).isSome) := by rw [a1]; exact .head _
            exact (List.mem_filter.mp this).1
          have h1 := (hp.lt O k hk).2
          have h2 := O.upl i h0 hi
          have : k ≠ i := by omega
          simp [this]
    | some v =>
      right
      rw [hv] at ki
      have ki' : (valueAt (W.c i).hkv x).isSome = true := ki
      refine ⟨i, l.filter (fun j => (valueAt (W.c j).hkv x).isSome), v, ?_, hi, ?_, ?_, hv, ?_⟩
      · rw [List.filter_cons_of_pos (by simp [ki'])]
      · rw [List.map_cons, List.findSome?_cons, hv]
      · rw [List.map_cons, List.find?_cons, Nd.has_some hv]
      · simp
end
/-- the frame, its known names ahead -/
theorem upds_self {m : Str → Option Value} : ∀ {bs : List (Str × Value)}, HoldsL bs m → upds bs m = m := by
  intro l
  induction l with
  | nil => intro _; rfl
  | cons p r ih =>
    intro H
    obtain ⟨y, v⟩ := p
    obtain ⟨h1, h2⟩ := H
    funext x
    show (if x = y then some v else upds r m x) = m x
    by_cases e : x = y
    · rw [if_pos e, e, h1]
    · rw [if_neg e, ih h2]
theorem fr_upds {h₀ h : Heap} {L : Addr} {m : Str → Option Value} {bs : List (Str × Value)} (F : Fr h₀ L h m) (H : HoldsL bs m) : Fr h₀ L h (upds bs m) := by
  rw [upds_self H]; exact F
/-- all but the names of st stand as they stood -/
noncomputable def Keep (st : List Str) (m' m : Str → Option Value) : Prop := ∀ x, st.contains x = false → m' x = m x
theorem Keep.refl {st : List Str} {m : Str → Option Value} : Keep st m m := fun _ _ => rfl
theorem Keep.trans {st : List Str} {m m' m'' : Str → Option Value} (h : Keep st m' m) (h' : Keep st m'' m') : Keep st m'' m := fun x hx => (h' x hx).trans (h x hx)
theorem Keep.more {st st' : List Str} {m m' : Str → Option Value} (h : Keep st m' m) (hs : st.all (fun x => st'.contains x) = true) : Keep st' m' m := fun x hx => h x (by
  cases hc : st.contains x with
  | false => rfl
  | true =>
    have h1 : x ∈ st := by simpa using hc
    have := List.all_eq_true.mp hs x h1
    rw [hx] at this; cases this)
theorem Keep.holds {st : List Str} {m m' : Str → Option Value} (h : Keep st m' m) : ∀ {bs : List (Str × Value)}, HoldsL bs m → bs.all (fun p => !st.contains p.1) = true → HoldsL bs m' := by
  intro bs
  induction bs with
  | nil => intro _ _; trivial
  | cons p r ih =>
    intro H hb
    obtain ⟨y, v⟩ := p
    simp only [List.all_cons, Bool.and_eq_true, Bool.not_eq_true'] at hb
    exact ⟨(h y hb.1).trans H.1, ih H.2 hb.2⟩
end
/-! part C1 -/
theorem part_C1 : True := by w_top off; (try walk1); trivial
section
noncomputable abbrev lawCl (cL cW : Addr) : List (Str × Addr) := [(Str.ofString "letter", cL), (Str.ofString "world", cW)]
noncomputable abbrev lawEnv (L a : Addr) (ccd : Value) (cL cW : Addr) : Env := envX (Str.ofString "law") lawScope L a ccd (lawCl cL cW)
section
variable {prog : Program} {w : World} {A : Around} {E : Value → Shared → Prop} {s : Shared} {h₀ : Heap} {L D : Addr} {news : List (Addr × Obj)} {n : Nat} {u : Tok} {x : Value} {r : List Value} {Q : Value → Shared → Prop}
theorem at_sub0 {value slice : PySem.Expr} (N : News h₀ L s.heap news) (hm : (D, PySem.W.listOf (x :: r).toArray n) ∈ news) (hlt : r.length ≤ 900) (h : Q x s)
    (hs : subscripted slice false (.ref D) (.int 0 u) = operate [.ref D, .int 0 u] (getItem (.ref D) (.int 0 u)) := by with_unfolding_all rfl) :
    wpAny (model prog w) A (subscriptTail value slice (.ref D) (.int 0 u)) Q E s :=
  at_sub (i := 0) N hm (by simp) rfl (by simp; omega) h hs
end
local macro_rules | `(tactic| walk_at "subscriptTail") => `(tactic| k_extra "mine_w17")
local macro_rules | `(tactic| walk_at "subscriptTail") => `(tactic| k_extra "mine_w18")
local macro_rules | `(tactic| walk_at "mine_keep") => `(tactic| k_extra "mine_w19")
noncomputable def hasJ (W : Wd) (x : Str) (j : Nat) : Bool := (valueAt (W.c j).hkv x).isSome
theorem foldl_filter (p : Nat → Bool) : ∀ (l : List Nat) (a : List Int), (l.map fun (j : Nat) => (j : Int)).foldl (fun l k => if p k.toNat = true then l ++ [k] else l) a = a ++ (l.filter p).map fun (j : Nat) => (j : Int) := by
  intro l
  induction l with
  | nil => intro a; simp
  | cons j r ih =>
    intro a
    simp only [List.map_cons, List.foldl_cons, Int.toNat_natCast]
    by_cases h : p j = true
    · rw [if_pos h, ih, List.filter_cons_of_pos h]; simp
    · rw [if_neg h, ih, List.filter_cons_of_neg h]
theorem grows_filter (p : Nat → Bool) : KPfGrows fun (l : List Int) k => if p k.toNat = true then l ++ [k] else l := by
  unfold KPfGrows
  intro l k
  dsimp only
  split <;> simp
section
variable {w : World} {mean : ExcName → Option Value} {mg mb : Str → Option Value} {a : Addr} {ccd : Value} {h₀ : Heap} {L cL cW : Addr} {m : Str → Option Value} {s : Shared} {Q : Flow → Shared → Prop} {E : Value → Shared → Prop}
theorem lookup_use {dp un : Nat} {gd : Option (List Code)} {cn : Str} {cs : Scope} {cl : List (Str × Addr)} {outer : List Env} {A₀ : Around} {base : Heap} {Q : Value → Shared → Prop} {wl : List (Addr × Obj)} {v : Value} {r : List Nd} {x : Str} {tx : Tok} {ov : Option Value}
    (B : Below A₀ base outer h₀) (F : Fr h₀ L s.heap m) (X : (hd.heap_39 w.params).In h₀) (N : News h₀ L s.heap wl)
    (T : Top hd.view_39 (looseW hd.view_39 []) mean mg mb h₀) (hk : cs.kind = .function) (hC : Chain w wl v r) (hv : r.findSome? (fun c => valueAt c.fk x) = ov)
    (hdp : dp + 20 < recursionLimit) (hun : un + 100 < cLine)
    (ret : ∀ h' tk', Fr h₀ L h' m → News h₀ L h' wl → Q (ov.getD .none) { s with heap := h', toks := tk' }) :
    wpAny (model PySem.Challenge.rw_ov0043_01.row.prog w) (ktrTop dp un gd cn cs L a ccd cl outer) (call (.ref 67) [v, .str x tx]) Q E s := by
  subst hv
  exact lookup_spec B F X N T hk hC hdp hun ret
theorem lookup_here_use {dp un : Nat} {gd : Option (List Code)} {cn : Str} {cs : Scope} {cl : List (Str × Addr)} {outer : List Env} {A₀ : Around} {base : Heap} {Q : Value → Shared → Prop} {wl : List (Addr × Obj)} {c : Nd} {x : Str} {tx : Tok} {ov : Option Value}
    (B : Below A₀ base outer h₀) (F : Fr h₀ L s.heap m) (X : (hd.heap_39 w.params).In h₀) (N : News h₀ L s.heap wl)
    (T : Top hd.view_39 (looseW hd.view_39 []) mean mg mb h₀) (hk : cs.kind = .function) 
    (m1 : (c.e, instObj 163 c.d) ∈ wl) (m2 : (c.d, c.dct w) ∈ wl) (m3 : (c.f, c.fo) ∈ wl) (hf : c.fo.IsDictOf (PySem.strKind PySem.Challenge.rw_ov0043_01.row.prog w) c.fk) (lo : (c.f == sysModules) = false) (hv : valueAt c.fk x = ov)
    (hdp : dp + 20 < recursionLimit) (hun : un + 100 < cLine)
    (ret : ∀ h' tk', Fr h₀ L h' m → News h₀ L h' wl → Q (ov.getD .none) { s with heap := h', toks := tk' }) :
    wpAny (model PySem.Challenge.rw_ov0043_01.row.prog w) (ktrTop dp un gd cn cs L a ccd cl outer) (call (.ref 60) [.ref c.e, .str x tx]) Q E s := by
  subst hv
  exact lookup_here_spec B F X N T hk m1 m2 m3 hf lo hdp hun ret
theorem holder_use {dp un : Nat} {gd : Option (List Code)} {cn : Str} {cs : Scope} {cl : List (Str × Addr)} {outer : List Env} {A₀ : Around} {base : Heap} {Q : Value → Shared → Prop} {wl : List (Addr × Obj)} {v : Value} {r : List Nd} {x : Str} {tx : Tok} {oc : Option Nd}
    (B : Below A₀ base outer h₀) (F : Fr h₀ L s.heap m) (X : (hd.heap_39 w.params).In h₀) (N : News h₀ L s.heap wl)
    (T : Top hd.view_39 (looseW hd.view_39 []) mean mg mb h₀) (hk : cs.kind = .function) (hC : Chain w wl v r) (hv : r.find? (Nd.has x) = oc)
    (hdp : dp + 20 < recursionLimit)
    (ret : ∀ h' tk', Fr h₀ L h' m → News h₀ L h' wl → Q (oc.elim .none fun c => .ref c.e) { s with heap := h', toks := tk' }) :
    wpAny (model PySem.Challenge.rw_ov0043_01.row.prog w) (ktrTop dp un gd cn cs L a ccd cl outer) (call (.ref 74) [v, .str x tx]) Q E s := by
  subst hv
  exact holder_spec B F X N T hk hC hdp ret
local macro_rules | `(tactic| walk_at "call ref") => `(tactic| k_extra "mine_w20")
set_option maxHeartbeats 4000000 in
theorem letter_turn {W : Wd} {z i nR nW nC : Nat} {l : List Nat} {wl : List (Addr × Obj)} {oL oW : Obj} {Ro Wa cA : Addr} {ti tx : Tok} {cvs : List Value} {x : Str}
    (B : Below callerA h₀ [] h₀) (X : (hd.heap_39 w.params).In h₀) (T : Top hd.view_39 (looseW hd.view_39 []) mean mg mb h₀)
    (O : WOk w W z wl) (hi : i < W.n) (hp : Path W i l)
    (F : Fr h₀ L s.heap m) (N : News h₀ L s.heap ((cL, oL) :: wl)) (hoL : oL.data = .cell (some (.str x tx))) (hoW : oW.data = .cell (some (.ref Wa)))
    (mR : (Ro, PySem.W.listOf ((List.range W.n).map fun j => Value.ref (W.c j).c.e).toArray nR) ∈ wl)
    (mW : (Wa, PySem.W.listOf ((List.range W.n).map fun j => Value.ref (W.c j).t).toArray nW) ∈ wl)
    (mcW : (cW, oW) ∈ wl) (mC : (cA, PySem.W.listOf cvs.toArray nC) ∈ wl) (hcv : IntsAre cvs (l.map fun (j : Nat) => (j : Int)))
    (H : HoldsL [(Str.ofString "rows", .ref Ro), (Str.ofString "spot", .int (i : Int) ti), (Str.ofString "chain", .ref cA)] m)
    (next : ∀ h' tk' m', Fr h₀ L h' m' → News h₀ L h' ((cL, oL) :: wl) → Keep [Str.ofString "having", Str.ofString "found", Str.ofString "here", Str.ofString "keeper"] m' m → Q .next { s with heap := h', toks := tk' }) :
    wpAny (model PySem.Challenge.rw_ov0043_01.row.prog w) (callerA.deeper (lawEnv L a ccd cL cW)) (execs letterBody (lawEnv L a ccd cL cW)) Q E s := by
  have F0 := fr_upds F H
  clear F
  dsimp only [upds] at F0
  revert X; k_fill; intro X
  conv in letterBody => whnf
  unfold lawEnv at *
  conv in (occs := *) lawScope => all_goals whnf
  have hlj : ∀ j ∈ l, j < W.n := fun j hj => (hp.lt O j hj).1
  have hsR : ((List.range W.n).map fun j => Value.ref (W.c j).c.e).toArray.size ≤ 1000 := by have := O.top; simp; omega
  have hsW : ((List.range W.n).map fun j => Value.ref (W.c j).t).toArray.size ≤ 1000 := by have := O.top; simp; omega
  have hsC : cvs.toArray.size ≤ sizeLine := by
    have h1 := hcv.length; have h2 := hp.len O; have h3 := O.top
    rw [List.length_map] at h1
    rw [sizeLine_eq]; simp; omega
  walk1
  k_dflt (refine LCt.Assign_ListComp_T (F₀ := by k_asm) (by rfl) (by with_unfolding_all rfl) (by with_unfolding_all rfl) (by decide) (by rfl) (by decide) (by rfl) (by rfl) (by rfl) ?_)
  walk1
  k_dflt (refine LCt.CompSrcT.ledger (by rfl) (by k_asm) (by k_asm) (by k_mem) hsC ?_)
  intro g'
  refine kci_list (fun l k => if hasJ W x k.toNat = true then l ++ [k] else l) hcv (fun k' t' I' oI' C' oC' D' m' ys' l' h' tk' E' hk' hI' hC' hx' F' N' off' ne' mk' => ?_) ?_ (grows_filter _)
  · obtain ⟨j, hj, rfl⟩ := List.mem_map.mp hk'
    have hjn := hlj j hj
    have g1 : ((List.range W.n).map fun j => Value.ref (W.c j).t).toArray[j]? = some (.ref (W.c j).t) := by simp [hjn]
    have m5 := O.m5 hjn
    have m6 := O.m6 hjn
    have d6 := (O.ok j hjn).hh
    have n6 := (O.ok j hjn).nh
    have off3 := off'.mem
    have hS : LCg.SrcAt h₀ cA cvs.toArray ((cL, oL) :: wl) := .inr ⟨_, .tail _ mC, rfl, _, rfl⟩
    clear N F0
    cases hv : valueAt (W.c j).hkv x with
    | none =>
      k_steps
      refine LCg.CompEnd.intro (by assumption) (by assumption) _ (fun _ h => h) off' hS ⟨rfl, ?_⟩
      simp [hasJ, hv]
    | some v =>
      k_steps
      refine LCg.CompEnd.intro (by assumption) (by assumption) _ (fun _ h => h) off' hS ⟨rfl, _, _, rfl, ?_⟩
      simp [hasJ, hv]
  · show ∀ ys, _
    intro ys hI hlen D h1 tk1 F1 N1 off1
    rw [foldl_filter, List.nil_append] at hI
    have g0 : ((List.range W.n).map fun j => Value.ref (W.c j).c.e).toArray[i]? = some (.ref (W.c i).c.e) := by simp [hi]
    have hCh := O.chain hp
    have m1 := O.m1 hi
    have m2 := O.m2 hi
    have m3 := O.m3 hi
    have d3 := (O.ok i hi).hf
    have n3 := (O.ok i hi).nf
    have hCh2 : Chain w ((D, LCg.lst ys) :: (cL, oL) :: wl) _ _ := hCh.mono fun p hp => .tail _ (.tail _ hp)
    have m1' : _ ∈ (D, LCg.lst ys) :: (cL, oL) :: wl := .tail _ (.tail _ m1)
    have m2' : _ ∈ (D, LCg.lst ys) :: (cL, oL) :: wl := .tail _ (.tail _ m2)
    have m3' : _ ∈ (D, LCg.lst ys) :: (cL, oL) :: wl := .tail _ (.tail _ m3)
    clear N F0
    rcases O.having hp x with ⟨a1, a2, a3, a4⟩ | ⟨k, r, v, a1, a2, a3, a4, a5, a6⟩
    · have e : l.filter (hasJ W x) = [] := a1
      rw [e] at hI
      cases hI
      k_steps
      exact next _ _ _ (by assumption) (news_sub (by assumption) (fun p hp => by first | exact .tail _ (.tail _ hp) | exact .tail _ (.tail _ (.tail _ hp)))) (by walk_at "mine_keep")
    · have e : l.filter (hasJ W x) = k :: r := a1
      rw [e] at hI
      have m1k := O.m1 a2
      have m2k := O.m2 a2
      have m5k := O.m5 a2
      have m6k := O.m6 a2
      have d6k := (O.ok k a2).hh
      have numk := (O.ok k a2).num
      have gk : ((List.range W.n).map fun j => Value.ref (W.c j).t).toArray[k]? = some (.ref (W.c k).t) := by simp [a2]
      obtain ⟨b, d, it, T9, kv, kt, kt', rfl, f1, f2, f3, f4⟩ := (O.ok k a2).vals x v a5
      have f1' := O.subF _ f1
      have f2' := O.subF _ f2
      have f3' := O.subF _ f3
      generalize hys : ys = ys0 at hI
      cases hI with
      | @cons _ tk vs1 ns1 hI2 =>
      subst hys
      cases hvi : valueAt (W.c i).c.fk x with
      | none =>
        rw [hvi] at a6
        have hki : k ≠ i := by intro q; subst q; simp at a6
        have e9 : ((k : Int) == (i : Int)) = false := by simp; omega
        k_steps
        all_goals first
          | exact next _ _ _ (by assumption) (news_sub (by assumption) (fun p hp => by first | exact .tail _ (.tail _ hp) | exact .tail _ (.tail _ (.tail _ hp)))) (by walk_at "mine_keep")
          | (exfalso; (rename decide _ = true => a9); exact absurd (of_decide_eq_true a9) (List.cons_ne_nil _ _))
          | (exfalso; exact absurd numk (by assumption))
          | (exfalso; (rename (_ != _) = true => a9); exact absurd (show (false != ((k : Int) == (i : Int))) = true from a9) (by rw [e9]; decide))
      | some vi =>
        rw [hvi] at a6
        have hki : k = i := eq_of_beq a6.symm
        obtain ⟨bi, _, _, _, _, _, _, rfl, _⟩ := (O.ok i hi).vals x vi hvi
        have e9 : ((k : Int) == (i : Int)) = true := by simp; omega
        k_steps
        all_goals first
          | exact next _ _ _ (by assumption) (news_sub (by assumption) (fun p hp => by first | exact .tail _ (.tail _ hp) | exact .tail _ (.tail _ (.tail _ hp)))) (by walk_at "mine_keep")
          | (exfalso; (rename decide _ = true => a9); exact absurd (of_decide_eq_true a9) (List.cons_ne_nil _ _))
          | (exfalso; exact absurd numk (by assumption))
          | (exfalso; (rename (_ != _) = true => a9); exact absurd (show (true != ((k : Int) == (i : Int))) = true from a9) (by rw [e9]; decide))
end
end
local macro_rules | `(tactic| walk_at "subscriptTail") => `(tactic| k_extra "mine_w17")
local macro_rules | `(tactic| walk_at "subscriptTail") => `(tactic| k_extra "mine_w18")
/-! part C2 -/
theorem part_C2 : True := by w_top off; (try walk1); trivial
section
section
variable {prog : Program} {w : World} {A : Around} {E : Value → Shared → Prop} {s : Shared} {h₀ : Heap} {L a c : Addr} {cn : Str} {cs : Scope} {ccd : Value} {cl : List (Str × Addr)} {x : Str} {body : List Stmt} {Q : Flow → Shared → Prop} {wl : List (Addr × Obj)} {m₀ : Str → Option Value}
/-- how a turn of a loop over a text ends, the loop's name a cell -/
noncomputable def CellEnd (h₀ : Heap) (L c : Addr) (o : Obj) (wl : List (Addr × Obj)) (J : (Str → Option Value) → Prop) (s : Shared) (f : Flow) (s₂ : Shared) : Prop :=
  f = .next ∧ ∃ h' tk m', s₂ = { s with heap := h', toks := tk } ∧ Fr h₀ L h' m' ∧ News h₀ L h' ((c, o) :: wl) ∧ J m'
theorem CellEnd.intro {o : Obj} {J : (Str → Option Value) → Prop} {h' : Heap} {tk : Nat} {m' : Str → Option Value} (F : Fr h₀ L h' m') (N : News h₀ L h' ((c, o) :: wl)) (j : J m') : CellEnd h₀ L c o wl J s .next { s with heap := h', toks := tk } :=
  ⟨rfl, h', tk, m', rfl, F, N, j⟩
theorem For_strcell {tx : Str} {px pos : Pos} {iter : Expr} {oc : Obj} {v0 : Option Value} (J : (Str → Option Value) → Prop)
    (hA : A.handled = none) (hc : cl.lookup x = some c) (hk : cs.kind = .function) (hx : (envX cn cs L a ccd cl).kindOf x = some .cell)
    (F : Fr h₀ L s.heap m₀) (N : News h₀ L s.heap ((c, oc) :: wl)) (hoc : oc.data = .cell v0) (off : ∀ p ∈ wl, p.1 ≠ c) (hJ : J m₀)
    (h : wpAny (model prog w) A (eval iter (envX cn cs L a ccd cl)) (fun xv s₁ => ∃ t tk, xv = .str tx t ∧ s₁ = { s with toks := tk }) E s)
    (turn : ∀ (i ch : Nat) (u : Tok) (o : Obj) (I : Addr) (oI : Obj) h tk m', tx.cps[i]? = some ch → o.data = .cell (some (.str ⟨#[ch]⟩ u)) → I ≠ c → (∀ p ∈ wl, p.1 ≠ I) → J m' → Fr h₀ L h m' → News h₀ L h ((c, o) :: (I, oI) :: wl) →
      wpAny (model prog w) A (execs body (envX cn cs L a ccd cl)) (CellEnd h₀ L c o ((I, oI) :: wl) J { s with heap := h, toks := tk }) E { s with heap := h, toks := tk })
    (done : ∀ h tk m' o v', J m' → Fr h₀ L h m' → News h₀ L h ((c, o) :: wl) → o.data = .cell v' → Q .next { s with heap := h, toks := tk })
    (hE : PassesOwn (model prog w) A (envX cn cs L a ccd cl) E)
    (hs : ∀ x, foldedSetIterable iter (envX cn cs L a ccd cl) x = pure x := by intro _; rfl) :
    wpAny (model prog w) A (exec (.For (.Name x px) iter body [] pos) (envX cn cs L a ccd cl)) Q E s := by
  refine wpAny_For (wpAny_mono h (fun xv s₁ h₁ => ?_) fun _ _ e => e) hs
  obtain ⟨t, tk₀, rfl, rfl⟩ := h₁
  have go : ∀ (T : String) (o : Obj), Walks prog w A s.heap.objs.size [s.heap.objs.size] [s.heap.objs.size] tx.cps.size (SignAt tx) (fun i h => h.IsStrIter s.heap.objs.size T tx t i) →
      (s.heap.push o).IsStrIter s.heap.objs.size T tx t 0 →
      codeAny (model prog w) A (.forLoop (.Name x px) (.ref s.heap.objs.size) body [] (envX cn cs L a ccd cl)) (fun r s' => match r with | .ok f => Q f s' | .error e => cameBackBy (model prog w) A (envX cn cs L a ccd cl) E e s') { s with heap := s.heap.push o, toks := tk₀ } := by
    intro T o W hst
    generalize hI : s.heap.objs.size = I at W hst
    have hLI : L ≠ I := hI ▸ Nat.ne_of_lt F.ns.lt
    have hI₀ : h₀.get? I = none := hI ▸ next_is_new F
    have offI : ∀ p ∈ (c, oc) :: wl, p.1 ≠ I := fun p hp => hI ▸ Nat.ne_of_lt (Heap.lt_size (N p hp).1)
    have cI : c ≠ I := offI (c, oc) (.head _)
    refine codeAny_forLoop (fun k s' => ∃ h' tk m' o' v' i, s' = { s with heap := h', toks := tk } ∧ h'.IsStrIter I T tx t i ∧ Fr h₀ L h' m' ∧ News h₀ L h' ((c, o') :: wl) ∧ o'.data = .cell v' ∧ J m' ∧ i ≤ tx.cps.size ∧ k = tx.cps.size + 1 - i) ?_ (tx.cps.size + 1)
      ⟨s.heap.push o, tk₀, m₀, oc, v0, 0, rfl, hst, F.push _, fun p hp => ⟨Heap.get?_push_of_some _ (N p hp).1, (N p hp).2⟩, hoc, hJ, Nat.zero_le _, rfl⟩
    rintro k s' ⟨h', tk, m', o', v', i, rfl, hst', F', N', ho', hJ', hi, rfl⟩
    have offN : ∀ p ∈ (c, o') :: wl, p.1 ≠ I := fun p hp => by
      rcases List.mem_cons.mp hp with rfl | hp
      · exact cI
      · exact offI p (.tail _ hp)
    have next : ∀ h₁ : Heap, (∀ b o, b ∉ [I] → h'.get? b = some o → h₁.get? b = some o) → Fr h₀ L h₁ m' ∧ News h₀ L h₁ ((c, o') :: wl) := fun h₁ hk₁ =>
      ⟨⟨F'.ns.at' fun o e => hk₁ _ o (by simpa using hLI) e, fun b o e => hk₁ b o (by intro hb; rw [List.mem_singleton.mp hb, hI₀] at e; cases e) (F'.keep b o e), F'.above⟩,
        fun p hp => ⟨hk₁ _ _ (by simpa using offN p hp) (N' p hp).1, (N' p hp).2⟩⟩
    by_cases hlt : i < tx.cps.size
    · refine W.item i _ _ _ hlt hst' fun v h₁ tk₁ hP hst₁ hk₁ => ?_
      obtain ⟨F₁, N₁⟩ := next h₁ hk₁
      obtain ⟨ch, u, hch, rfl⟩ := hP
      obtain ⟨oI, hoI, hIc, hId⟩ := hst₁
      have N₂ : News h₀ L h₁ ((c, o') :: (I, oI) :: wl) := fun p hp => by
        rcases List.mem_cons.mp hp with rfl | hp
        · exact N₁ _ (.head _)
        rcases List.mem_cons.mp hp with rfl | hp
        · exact ⟨hoI, hLI.symm, hI₀⟩
        · exact N₁ _ (.tail _ hp)
      refine wpAny_assign_Name (storeX_C (g := fun o => (c, o) :: (I, oI) :: wl) F₁ N₂ hc (UpdF.head fun p hp => ?_) ho' (fun h₂ o₂ F₂ N₃ hd₂ => ?_) hk hx)
      · rcases List.mem_cons.mp hp with rfl | hp
        · exact cI.symm
        · exact off p hp
      refine wpAny_mono (turn i ch u o₂ I oI h₂ tk₁ m' hch hd₂ cI.symm (fun p hp => offI p (.tail _ hp)) hJ' F₂ N₃) (fun f s₃ h₃ => ?_) (fun e s₃ he => ?_)
      · obtain ⟨rfl, h₃, tk₃, m₃, rfl, F₃, N₄, hJ₃⟩ := h₃
        refine ⟨tx.cps.size + 1 - (i + 1), by omega, h₃, tk₃, m₃, o₂, _, i + 1, rfl, ⟨oI, (N₄ (I, oI) (.tail _ (.head _))).1, hIc, hId⟩, F₃, fun p hp => ?_, hd₂, hJ₃, hlt, rfl⟩
        rcases List.mem_cons.mp hp with rfl | hp
        · exact N₄ _ (.head _)
        · exact N₄ _ (.tail _ (.tail _ hp))
      · exact hE e s₃ he
    · have hin : i = tx.cps.size := by omega
      subst hin
      refine W.done _ _ _ hst' fun h₁ tk₁ hk₁ => wpAny_execs_nil ?_
      obtain ⟨F₁, N₁⟩ := next h₁ hk₁
      exact done h₁ tk₁ m' o' v' hJ' F₁ N₁ ho'
  cases ha : tx.cps.all (· < 128)
  · exact wpAny_pyIter_wide ha (go "str_iterator" _ (Walks.strWide hA _ tx t) ⟨_, Heap.get?_push_size _ rfl, rfl, rfl⟩)
  · exact wpAny_pyIter_ascii ha (go "str_ascii_iterator" _ (Walks.strAscii hA _ tx t) ⟨_, Heap.get?_push_size _ rfl, rfl, rfl⟩)
end
theorem WOk.mono {w : World} {W : Wd} {z : Nat} {wl wl' : List (Addr × Obj)} (O : WOk w W z wl) (hs : ∀ p ∈ wl, p ∈ wl') : WOk w W z wl' :=
  { O with sub := fun i hi p hp => hs p (O.sub i hi p hp), subF := fun p hp => hs p (O.subF p hp) }
theorem allLt_mem {d : Addr} : ∀ {l : List (Addr × Obj)}, AllLt d l → ∀ p ∈ l, p.1 < d
  | [], _, _, hp => nomatch hp
  | _ :: _, h, p, hp => by
    rcases List.mem_cons.mp hp with rfl | hp
    · exact h.1
    · exact allLt_mem h.2 p hp
/-- the law's list of numbers above -/
noncomputable def aboves (W : Wd) : List Int := (List.range W.n).map fun j => if j = 0 then -1 else (W.up j : Int)
theorem aboves_at {W : Wd} {avs : List Value} (h : IntsAre avs (aboves W)) {j : Nat} (hj : j < W.n) : ∃ t, avs.toArray[j]? = some (.int (if j = 0 then -1 else (W.up j : Int)) t) := by
  have : (aboves W)[j]? = some (if j = 0 then -1 else (W.up j : Int)) := by simp [aboves, hj]
  obtain ⟨t, ht⟩ := h.get j _ this
  exact ⟨t, by simpa using ht⟩
local macro_rules | `(tactic| walk_at "call ref") => `(tactic| k_extra "mine_w21")
section
variable {w : World} {mean : ExcName → Option Value} {mg mb : Str → Option Value} {a : Addr} {ccd : Value} {h₀ : Heap} {L cL cW : Addr} {m : Str → Option Value} {s : Shared} {Q : Flow → Shared → Prop} {E : Value → Shared → Prop}
set_option maxHeartbeats 4000000 in
theorem spot_turn {W : Wd} {z i nR nW nA : Nat} {wl : List (Addr × Obj)} {oL oW : Obj} {Ro Wa Ab : Addr} {ti : Tok} {avs : List Value} {vL : Option Value}
    (B : Below callerA h₀ [] h₀) (X : (hd.heap_39 w.params).In h₀) (T : Top hd.view_39 (looseW hd.view_39 []) mean mg mb h₀)
    (O : WOk w W z wl) (hi : i < W.n)
    (F : Fr h₀ L s.heap m) (N : News h₀ L s.heap ((cL, oL) :: wl)) (off : ∀ p ∈ wl, p.1 ≠ cL) (hoL : oL.data = .cell vL) (hoW : oW.data = .cell (some (.ref Wa)))
    (mR : (Ro, PySem.W.listOf ((List.range W.n).map fun j => Value.ref (W.c j).c.e).toArray nR) ∈ wl)
    (mW : (Wa, PySem.W.listOf ((List.range W.n).map fun j => Value.ref (W.c j).t).toArray nW) ∈ wl)
    (mA : (Ab, PySem.W.listOf avs.toArray nA) ∈ wl) (hav : IntsAre avs (aboves W))
    (mcW : (cW, oW) ∈ wl)
    (H : HoldsL [(Str.ofString "rows", .ref Ro), (Str.ofString "above", .ref Ab), (Str.ofString "spot", .int (i : Int) ti)] m)
    (hE : PassesOwn (model PySem.Challenge.rw_ov0043_01.row.prog w) (callerA.deeper (lawEnv L a ccd cL cW)) (lawEnv L a ccd cL cW) E)
    (next : ∀ h' tk' m' oL' vL', Fr h₀ L h' m' → News h₀ L h' ((cL, oL') :: wl) → oL'.data = .cell vL' → Keep [Str.ofString "chain", Str.ofString "up", Str.ofString "having", Str.ofString "found", Str.ofString "here", Str.ofString "keeper"] m' m → Q .next { s with heap := h', toks := tk' }) :
    wpAny (model PySem.Challenge.rw_ov0043_01.row.prog w) (callerA.deeper (lawEnv L a ccd cL cW)) (execs spotBody (lawEnv L a ccd cL cW)) Q E s := by
  have F0 := fr_upds F H
  clear F
  dsimp only [upds] at F0
  obtain ⟨l, hp⟩ := Path.ex O (i + 1) i (Nat.lt_succ_self _) hi
  have hlj : ∀ j ∈ l, j < W.n := fun j hj => (hp.lt O j hj).1
  have hln : l.length ≤ 5 := by have := hp.len O; have := O.top; omega
  have hsR : ((List.range W.n).map fun j => Value.ref (W.c j).c.e).toArray.size ≤ 1000 := by have := O.top; simp; omega
  have hsA : avs.toArray.size ≤ 1000 := by have h1 := hav.length; have := O.top; simp [aboves] at h1; simp; omega
  have g0 : ((List.range W.n).map fun j => Value.ref (W.c j).c.e).toArray[i]? = some (.ref (W.c i).c.e) := by simp [hi]
  revert X; k_fill; intro X
  conv in spotBody => whnf
  unfold lawEnv at *
  conv in (occs := *) lawScope => all_goals whnf
  iterate 12 walk1
  rename_i cA hA1 l1 hA2 hA3 lF lN
  have hne : ∀ p ∈ wl, p.1 ≠ cA := fun p hp => Nat.ne_of_lt (allLt_mem l1.2 p hp)
  have hne2 : ∀ p ∈ (cL, oL) :: wl, p.1 ≠ cA := fun p hp => by
    rcases List.mem_cons.mp hp with rfl | hp
    · exact Nat.ne_of_lt l1.1
    · exact hne p hp
  with_unfolding_all refine while_rule (α := Int × Tok × List Nat × List Value × Nat) [] (fun n a => a.2.2.1.length = n ∧ (a.2.2.1 = [] ∧ a.1 = -1 ∨ ∃ j r, a.2.2.1 = j :: r ∧ Path W j (j :: r) ∧ a.1 = (j : Int)) ∧ ∃ bi, IntsAre a.2.2.2.1 bi ∧ bi ++ a.2.2.1.map (fun (j : Nat) => (j : Int)) = l.map (fun (j : Nat) => (j : Int))) (fun a => [(Str.ofString "up", .int a.1 a.2.1)]) (fun a => (cA, PySem.W.listOf a.2.2.2.1.toArray a.2.2.2.2) :: (cL, oL) :: wl) ((i : Int), ti, l, [], 0) lF lN ⟨rfl, trivial⟩ ⟨rfl, .inr ?_, [], .nil, rfl⟩ ?_ hE
  · obtain ⟨r, rfl⟩ := hp.head
    exact ⟨i, r, rfl, hp, rfl⟩
  clear lF lN
  intro n9 a9 u9 h9 tk9 hP9 F9 N9
  obtain ⟨up9, tu9, r9, vs9, k9⟩ := a9
  obtain ⟨hl9, hr9, bi, hI9, hq9⟩ := hP9
  dsimp only [upds, fg] at F9 hl9 hr9 hI9 hq9 N9
  have hsz : vs9.length ≤ 5 := by
    have h1 := congrArg List.length hq9
    have h2 := hI9.length
    simp only [List.length_append, List.length_map] at h1
    omega
  rcases hr9 with ⟨rfl, rfl⟩ | ⟨j, r9, rfl, hpj, rfl⟩
  · have hI9' : IntsAre vs9 (l.map fun (j : Nat) => (j : Int)) := by
      rw [List.map_nil, List.append_nil] at hq9; rw [← hq9]; exact hI9
    have hCh : Chain w ((cA, PySem.W.listOf vs9.toArray k9) :: (cL, oL) :: wl) _ _ := (O.chain hp).mono fun p hp => .tail _ (.tail _ hp)
    have hlm : (l.map fun j => (W.c j).c).length ≤ 100 := by rw [List.length_map]; omega
    have hIa : IntsAre ((l.map fun j => (W.c j).c).map fun c => Value.int c.num c.nt) (l.map fun (j : Nat) => (j : Int)) := by
      have : ∀ l : List Nat, (∀ j ∈ l, j < W.n) → IntsAre ((l.map fun j => (W.c j).c).map fun c => Value.int c.num c.nt) (l.map fun (j : Nat) => (j : Int)) := by
        intro l
        induction l with
        | nil => intro _; exact .nil
        | cons j r ih =>
          intro h
          have e := (O.ok j (h j (.head _))).num
          simp only [List.map_cons, e]
          exact .cons _ _ (ih fun k hk => h k (.tail _ hk))
      exact this l hlj
    k_steps
    rename Fr _ _ _ _ => F7
    rename News _ _ _ _ => N7
    have offc : ∀ p ∈ (cA, PySem.W.listOf vs9.toArray k9) :: wl, p.1 ≠ cL := fun p hp => by
      rcases List.mem_cons.mp hp with rfl | hp
      · exact Nat.ne_of_gt l1.1
      · exact off p hp
    have N8 : News h₀ L _ ((cL, oL) :: (cA, PySem.W.listOf vs9.toArray k9) :: wl) := news_sub N7 fun p hp => by
      rcases List.mem_cons.mp hp with rfl | hp
      · exact .tail _ (.tail _ (.head _))
      rcases List.mem_cons.mp hp with rfl | hp
      · exact .tail _ (.head _)
      · exact .tail _ (.tail _ (.tail _ hp))
    refine For_strcell (c := cL) (tx := Str.ofString "xyz") (fun m' => Keep [Str.ofString "having", Str.ofString "found", Str.ofString "here", Str.ofString "keeper"] m' _) rfl rfl rfl rfl F7 N8 hoL offc Keep.refl ?_ ?_ ?_ (by exact hE)
    · k_steps
    · intro i7 ch u o I oI h7 tk7 m7 hch ho hIc hoI hK F8 N9
      refine letter_turn (x := ⟨#[ch]⟩) (tx := u) (cA := cA) (cvs := vs9) (nC := k9) (ti := ti) B X T (O.mono fun p hp => .tail _ (.tail _ hp)) hi hp F8 N9 ho hoW (.tail _ (.tail _ mR)) (.tail _ (.tail _ mW)) (.tail _ (.tail _ mcW)) (.tail _ (.head _)) hI9' (hK.holds ⟨rfl, rfl, rfl, trivial⟩ rfl) fun h' tk' m' F' N' hK' => CellEnd.intro F' N' (hK.trans hK')
    · intro h7 tk7 m7 o v7 hK F8 N9 ho
      k_steps
      refine next _ _ _ _ _ F8 (news_sub N9 fun p hp => ?_) ho (Keep.trans (m' := _) ?_ (hK.more rfl))
      · rcases List.mem_cons.mp hp with rfl | hp
        · exact .head _
        · exact .tail _ (.tail _ hp)
      · intro z h3
        have h5 := congrFun (upds_self H) z
        dsimp only [upds] at h5
        simp only [List.contains_cons, List.contains_nil, Bool.or_false, Bool.or_eq_false_iff, beq_eq_false_iff_ne, ne_eq] at h3
        simp only [h3, if_false, List.contains_nil, Bool.false_eq_true]
        exact h5
  · have hjn : j < W.n := (hpj.lt O j (.head _)).1
    obtain ⟨ta, hta⟩ := aboves_at hav hjn
    k_steps
    rename News _ _ _ _ => N7
    rw [List.push_toArray] at N7
    refine WEnd.intro (_, ta, r9, vs9 ++ [.int (j : Int) tu9], _) (by assumption) N7 (fun _ h => h) (by rw [← hl9]; exact Nat.lt_succ_self _) ⟨rfl, ?_, bi ++ [(j : Int)], IntsAre.append hI9 (.cons _ _ .nil), ?_⟩ ⟨rfl, trivial⟩ ?_
    · cases hpj with
      | root => exact .inl ⟨rfl, rfl⟩
      | up h0 _ hp2 =>
        obtain ⟨r3, rfl⟩ := hp2.head
        exact .inr ⟨_, r3, rfl, hp2, if_neg (by omega)⟩
    · rw [← hq9]; simp
    · walk_at "mine_same"
end
end
/-! part C3 -/
theorem part_C3 : True := by w_top off; (try walk1); trivial
section
section
variable {prog : Program} {w : World} {A : Around} {E : Value → Shared → Prop} {s : Shared} {env : Env} {h₀ : Heap} {x : Str} {body : List Stmt} {Q : Flow → Shared → Prop}
/-- how a turn of a loop over a range ends -/
noncomputable def RngEnd (h₀ : Heap) (L : Addr) (J : (Str → Option Value) → List (Addr × Obj) → Prop) (own : List (Addr × Obj)) (s : Shared) (s₂ : Shared) : Prop :=
  ∃ h' tk m' nx, s₂ = { s with heap := h', toks := tk } ∧ Fr h₀ L h' m' ∧ News h₀ L h' (own ++ nx) ∧ (∀ p ∈ nx, ∀ q ∈ own, p.1 ≠ q.1) ∧ J m' nx
noncomputable def RngPost (h₀ : Heap) (L : Addr) (J : (Str → Option Value) → List (Addr × Obj) → Prop) (own : List (Addr × Obj)) (s : Shared) (Q : Flow → Shared → Prop) (f : Flow) (s₂ : Shared) : Prop :=
  match f with
  | .ret v => Q (.ret v) s₂
  | .brk => Q .next s₂
  | _ => RngEnd h₀ L J own s s₂
theorem RngEnd.intro {L : Addr} {J : (Str → Option Value) → List (Addr × Obj) → Prop} {own nx : List (Addr × Obj)} {h' : Heap} {tk : Nat} {m' : Str → Option Value} (F : Fr h₀ L h' m') (N : News h₀ L h' (own ++ nx)) (o : ∀ p ∈ nx, ∀ q ∈ own, p.1 ≠ q.1) (j : J m' nx) :
    RngEnd h₀ L J own s { s with heap := h', toks := tk } := ⟨h', tk, m', nx, rfl, F, N, o, j⟩
theorem rng_loop {k : Int} {n : Nat} {t : Tok} {m₀ : Str → Option Value} {news : List (Addr × Obj)} (J : Nat → (Str → Option Value) → List (Addr × Obj) → Prop)
    (hh : A.handled = none) (hk : k = (n : Int)) (hn : n ≤ 1000) (F : Fr h₀ env.locals s.heap m₀) (N : News h₀ env.locals s.heap news) (hJ : J 0 m₀ news)
    (turn : ∀ (i : Nat) t m₁ nx h tk own, i < n → (∀ p ∈ nx, ∀ q ∈ own, p.1 ≠ q.1) → J i m₁ nx → Fr h₀ env.locals h (fun y => if y = x then some (.int (i : Int) t) else m₁ y) → News h₀ env.locals h (own ++ nx) →
      wpAny (model prog w) A (execs body env) (RngPost h₀ env.locals (J (i + 1)) own { s with heap := h, toks := tk } Q) E { s with heap := h, toks := tk })
    (done : ∀ m₁ nx h tk, J n m₁ nx → Fr h₀ env.locals h m₁ → News h₀ env.locals h nx → Q .next { s with heap := h, toks := tk }) :
    wpAny (model prog w) A (call (.type "range") [.int k t]) (fun xv s₁ => wpAny (model prog w) A (pyIter xv) (fun it s₂ => LoopAtV prog w A h₀ env x body Q E it s₂) E s₁) E s := by
  subst hk
  refine range1_rows F N fun h' tk t₁ u₁ v₁ hr F' N' _ => ?_
  refine wpAny_pyIter_range hr (small_one (by omega) (by omega) (by omega) (by omega)) ?_
  have hsz : Builtin.Range.rangeSize 0 (n : Int) 1 = (n : Int) := by rw [rangeSize_nat]; omega
  rw [hsz]
  have W : Walks prog w A h'.objs.size [h'.objs.size] [h'.objs.size] n (fun i v => ∃ t, v = .int (0 + (i : Nat) * 1) t)
      (fun i h => IsRangeIter h h'.objs.size (0 + (i : Nat) * 1) ((n : Int) - (i : Nat)) 1) := Walks.range hh _ 0 1 n
  refine ⟨h'.objs.size, [h'.objs.size], [h'.objs.size], n, _, _, m₀, news, J, rfl, W, ?_, ?_, ?_, ?_, F'.push _, (fun p hp => ⟨Heap.get?_push_of_some _ (N' p hp).1, (N' p hp).2⟩), hJ, ?_, ?_⟩
  · intro hm
    exact absurd F'.ns.lt ((List.mem_singleton.mp hm) ▸ Nat.lt_irrefl _)
  · intro b hb
    rw [List.mem_singleton.mp hb]
    exact next_is_new F'
  · intro p hp hI
    exact absurd (Heap.lt_size (N' p hp).1) ((List.mem_singleton.mp hI) ▸ Nat.lt_irrefl _)
  · show IsRangeIter _ _ _ _ _
    simpa using Heap.get?_push_size _ rfl
  · rintro i v m₁ nx s₁ own ⟨hh', tk', rfl⟩ hin ⟨t', rfl⟩ hJ' hoff hown hget hall hst' F₁ N₁
    have hI₀ : h₀.get? h'.objs.size = none := next_is_new F'
    have hit := hall h'.objs.size (List.mem_singleton.mpr rfl) hI₀ _ hst'
    have ho : ∀ p ∈ nx, ∀ q ∈ own, p.1 ≠ q.1 := fun p hp q hq e => hoff p hp (e ▸ hown q hq)
    have e0 : (0 : Int) + (i : Int) * 1 = (i : Int) := by omega
    rw [e0] at F₁
    refine wpAny_mono (turn i t' m₁ nx hh' tk' own hin ho hJ' F₁ N₁) (fun f s₂ p => ?_) fun _ _ e => e
    have fin : RngEnd h₀ env.locals (J (i + 1)) own { s with heap := hh', toks := tk' } s₂ → LoopStepU h₀ env.locals [h'.objs.size] own (J (i + 1)) { s with heap := hh', toks := tk' } .next s₂ := by
      rintro ⟨h₂, tk₂, m₂, nx₂, e, F₂, N₂, o₂, j₂⟩
      exact ⟨rfl, h₂, tk₂, m₂, nx₂, e, F₂, N₂, fun p hp hI => o₂ p hp _ hit (List.mem_singleton.mp hI), j₂⟩
    cases f with
    | ret v => exact .ret p
    | brk => exact .brk p
    | next => exact .next (fin p)
    | cont => exact .cont (fin p)
  · rintro h₂ tk₂ m₂ nx₂ F₂ N₂ _ hJ₂
    exact done m₂ nx₂ h₂ tk₂ hJ₂ F₂ N₂
theorem len_at {A : Around} {L D : Addr} {news : List (Addr × Obj)} {arr : Array Value} {n : Nat} {Q : Value → Shared → Prop} (N : News h₀ L s.heap news) (hm : (D, PySem.W.listOf arr n) ∈ news) (hlt : arr.size ≤ 1000)
    (h : Q (.int arr.size (s.toks + 1)) { s with toks := s.toks + 1 + 1 }) : wpAny (model prog w) A (call (.builtin "len") [.ref D]) Q E s :=
  Calls.call_len_list (PySem.IsL.isList (n := n) (N _ hm).1) (by omega) h
end
noncomputable def checkFor : Stmt := nthS deedBody 9
local macro_rules | `(tactic| walk_at "call builtin:len") => `(tactic| k_extra "mine_w22")
noncomputable abbrev checkNames : List Str := [Str.ofString "spot", Str.ofString "chain", Str.ofString "up", Str.ofString "having", Str.ofString "found", Str.ofString "here", Str.ofString "keeper"]
section
variable {w : World} {mean : ExcName → Option Value} {mg mb : Str → Option Value} {a : Addr} {ccd : Value} {h₀ : Heap} {L cL cW : Addr} {m : Str → Option Value} {s : Shared} {Q : Flow → Shared → Prop} {E : Value → Shared → Prop}
set_option maxHeartbeats 4000000 in
theorem check_loop {W : Wd} {z nR nW nA : Nat} {wl : List (Addr × Obj)} {oL oW : Obj} {Ro Wa Ab : Addr} {avs : List Value} {vL : Option Value}
    (B : Below callerA h₀ [] h₀) (X : (hd.heap_39 w.params).In h₀) (T : Top hd.view_39 (looseW hd.view_39 []) mean mg mb h₀)
    (O : WOk w W z wl)
    (F : Fr h₀ L s.heap m) (N : News h₀ L s.heap ((cL, oL) :: wl)) (off : ∀ p ∈ wl, p.1 ≠ cL) (hoL : oL.data = .cell vL) (hoW : oW.data = .cell (some (.ref Wa)))
    (mR : (Ro, PySem.W.listOf ((List.range W.n).map fun j => Value.ref (W.c j).c.e).toArray nR) ∈ wl)
    (mW : (Wa, PySem.W.listOf ((List.range W.n).map fun j => Value.ref (W.c j).t).toArray nW) ∈ wl)
    (mA : (Ab, PySem.W.listOf avs.toArray nA) ∈ wl) (hav : IntsAre avs (aboves W))
    (mcW : (cW, oW) ∈ wl)
    (H : HoldsL [(Str.ofString "rows", .ref Ro), (Str.ofString "above", .ref Ab)] m)
    (hE : PassesOwn (model PySem.Challenge.rw_ov0043_01.row.prog w) (callerA.deeper (lawEnv L a ccd cL cW)) (lawEnv L a ccd cL cW) E)
    (next : ∀ h' tk' m' oL' vL', Fr h₀ L h' m' → News h₀ L h' ((cL, oL') :: wl) → oL'.data = .cell vL' → Keep checkNames m' m → Q .next { s with heap := h', toks := tk' }) :
    wpAny (model PySem.Challenge.rw_ov0043_01.row.prog w) (callerA.deeper (lawEnv L a ccd cL cW)) (exec checkFor (lawEnv L a ccd cL cW)) Q E s := by
  have F0 := fr_upds F H
  clear F
  have hsR : ((List.range W.n).map fun j => Value.ref (W.c j).c.e).toArray.size ≤ 1000 := by have := O.top; simp; omega
  have hsz : (((List.range W.n).map fun j => Value.ref (W.c j).c.e).toArray.size : Int) = (W.n : Int) := by simp
  have eM := upds_self H
  rw [eM] at F0
  revert X; k_fill; intro X
  conv in checkFor => whnf
  unfold lawEnv at *
  conv in (occs := *) lawScope => all_goals whnf
  have F1 := fr_upds F0 H
  dsimp only [upds] at F1
  clear F0
  with_unfolding_all refine For_invV h₀ rfl rfl ?_ (hE := by exact hE)
  dsimp only
  iterate 12 walk1
  rename Fr _ _ _ _ => F2
  have hk0 : Keep checkNames (fun y => if y = Str.ofString "rows" then some (Value.ref Ro) else if y = Str.ofString "above" then some (Value.ref Ab) else m y) m := by
    have : (fun y => if y = Str.ofString "rows" then some (Value.ref Ro) else if y = Str.ofString "above" then some (Value.ref Ab) else m y) = m := eM
    rw [this]; exact Keep.refl
  with_unfolding_all refine rng_loop (fun _ m' nx => ∃ o v, nx = (cL, o) :: wl ∧ o.data = .cell v ∧ Keep checkNames m' m) rfl hsz (by have := O.top; omega) F2 N ⟨oL, vL, rfl, hoL, hk0⟩ ?_ ?_
  · rintro i t m₁ nx h tk own hi ho ⟨o, v, rfl, hov, hK⟩ F3 N3
    have offo : ∀ p ∈ own ++ wl, p.1 ≠ cL := fun p hp => by
      rcases List.mem_append.mp hp with hp | hp
      · exact (ho (cL, o) (.head _) p hp).symm
      · exact off p hp
    have N4 : News h₀ L h ((cL, o) :: (own ++ wl)) := news_sub N3 fun p hp => by
      rcases List.mem_cons.mp hp with rfl | hp
      · exact List.mem_append_right _ (.head _)
      rcases List.mem_append.mp hp with hp | hp
      · exact List.mem_append_left _ hp
      · exact List.mem_append_right _ (.tail _ hp)
    have r : ∀ p ∈ wl, p ∈ own ++ wl := fun p hp => List.mem_append_right _ hp
    have H1 : HoldsL _ m₁ := hK.holds H rfl
    refine spot_turn (ti := t) B X T (O.mono r) hi F3 N4 offo hov hoW (r _ mR) (r _ mW) (r _ mA) hav (r _ mcW) ⟨H1.1, H1.2.1, rfl, trivial⟩ hE fun h' tk' m' oL' vL' F' N' ho' hK' => ?_
    refine RngEnd.intro (nx := (cL, oL') :: wl) F' (news_sub N' fun p hp => ?_) (fun p hp q hq => ?_) ⟨oL', vL', rfl, ho', (hK.trans (Keep.trans (m' := _) ?_ (hK'.more rfl)))⟩
    · rcases List.mem_append.mp hp with hp | hp
      · exact .tail _ (List.mem_append_left _ hp)
      rcases List.mem_cons.mp hp with rfl | hp
      · exact .head _
      · exact .tail _ (List.mem_append_right _ hp)
    · rcases List.mem_cons.mp hp with rfl | hp
      · exact ho (cL, o) (.head _) q hq
      · exact ho p (.tail _ hp) q hq
    · intro z h3
      simp only [List.contains_cons, Bool.or_eq_false_iff, beq_eq_false_iff_ne, ne_eq] at h3
      simp only [h3, if_false]
  · rintro m₁ nx h tk ⟨o, v, rfl, hov, hK⟩ F3 N3
    exact next _ _ _ _ _ F3 N3 hov hK
end
end
/-! part C4 -/
theorem part_C4 : True := by w_top off; (try walk1); trivial
section
/-! one deed changes one environment -/
noncomputable def Wd.put (W : Wd) (i : Nat) (q : Cl) (new : List (Addr × Obj)) : Wd := { W with c := fun j => if j = i then q else W.c j, fix := W.fix ++ new }
theorem Wd.put_same {W : Wd} {i : Nat} {q : Cl} {new : List (Addr × Obj)} : (W.put i q new).c i = q := if_pos rfl
theorem Wd.put_other {W : Wd} {i j : Nat} {q : Cl} {new : List (Addr × Obj)} (h : j ≠ i) : (W.put i q new).c j = W.c j := if_neg h
theorem CellOk.mono {w : World} {fix fix' : List (Addr × Obj)} {i z z' : Nat} {q : Cl} (K : CellOk w fix i z q) (hf : ∀ p ∈ fix, p ∈ fix') (hz : z ≤ z') : CellOk w fix' i z' q :=
  { K with
    vals := fun x v h => by
      obtain ⟨b, d, it, T, k, t, t', e, a1, a2, a3, a4⟩ := K.vals x v h
      exact ⟨b, d, it, T, k, t, t', e, hf _ a1, hf _ a2, hf _ a3, a4⟩
    sz := ⟨Nat.le_trans K.sz.1 hz, Nat.le_trans K.sz.2.1 hz, Nat.le_trans K.sz.2.2.1 hz, Nat.le_trans K.sz.2.2.2 hz⟩ }
/-- the same places -/
structure SameAdr (W W' : Wd) : Prop where
  n : W'.n = W.n
  up : W'.up = W.up
  e : ∀ j, (W'.c j).c.e = (W.c j).c.e
  t : ∀ j, (W'.c j).t = (W.c j).t
  led : ∀ w j, ((W'.c j).led w).map (·.1) = ((W.c j).led w).map (·.1)
  fix : ∀ p ∈ W.fix, p ∈ W'.fix
theorem SameAdr.refl {W : Wd} : SameAdr W W := ⟨rfl, rfl, fun _ => rfl, fun _ => rfl, fun _ _ => rfl, fun _ h => h⟩
theorem SameAdr.trans {W W' W'' : Wd} (h : SameAdr W W') (h' : SameAdr W' W'') : SameAdr W W'' :=
  ⟨h'.n.trans h.n, h'.up.trans h.up, fun j => (h'.e j).trans (h.e j), fun j => (h'.t j).trans (h.t j), fun w j => (h'.led w j).trans (h.led w j), fun p hp => h'.fix p (h.fix p hp)⟩
theorem SameAdr.rows {W W' : Wd} (h : SameAdr W W') : ((List.range W'.n).map fun j => Value.ref (W'.c j).c.e) = (List.range W.n).map fun j => Value.ref (W.c j).c.e := by
  rw [h.n]; exact List.map_congr_left fun j _ => by rw [h.e j]
theorem SameAdr.tups {W W' : Wd} (h : SameAdr W W') : ((List.range W'.n).map fun j => Value.ref (W'.c j).t) = (List.range W.n).map fun j => Value.ref (W.c j).t := by
  rw [h.n]; exact List.map_congr_left fun j _ => by rw [h.t j]
theorem SameAdr.above {W W' : Wd} (h : SameAdr W W') : aboves W' = aboves W := by unfold aboves; rw [h.n, h.up]
theorem off_of_map {l l' r : List (Addr × Obj)} (h : l'.map (·.1) = l.map (·.1)) (o : AdrOff l r) : AdrOff l' r := fun p hp q hq => by
  have : p.1 ∈ l.map (·.1) := by rw [← h]; exact List.mem_map.mpr ⟨p, hp, rfl⟩
  obtain ⟨p2, hp2, e⟩ := List.mem_map.mp this
  rw [← e]; exact o p2 hp2 q hq
theorem AdrOff.symm {l r : List (Addr × Obj)} (o : AdrOff l r) : AdrOff r l := fun p hp q hq e => o q hq p hp e.symm
section
variable {w : World} {W : Wd} {z : Nat} {wl : List (Addr × Obj)}
theorem step_cell {i : Nat} {q : Cl} {new wl' : List (Addr × Obj)} (O : WOk w W z wl) (hi : i < W.n) (had : (q.led w).map (·.1) = ((W.c i).led w).map (·.1)) (hpar : q.c.par = (W.c i).c.par)
    (hq : CellOk w (W.fix ++ new) i (z + 1) q) (hsub : ∀ p ∈ q.led w, p ∈ wl') (hkeep : ∀ p ∈ wl, (∀ r ∈ (W.c i).led w, p.1 ≠ r.1) → p ∈ wl') (hnew : ∀ p ∈ new, p ∈ wl' ∧ ∀ r ∈ wl, p.1 ≠ r.1) :
    WOk w (W.put i q new) (z + 1) wl' ∧ SameAdr W (W.put i q new) := by
  have he : q.c.e = (W.c i).c.e := by
    have := congrArg List.head? had
    simpa [Cl.led] using this
  have ht : q.t = (W.c i).t := by
    have := congrArg (fun l => l[4]?) had
    simpa [Cl.led] using this
  have ee : ∀ j, ((W.put i q new).c j).c.e = (W.c j).c.e := fun j => by
    by_cases h : j = i
    · subst h; rw [Wd.put_same, he]
    · rw [Wd.put_other h]
  have hled : ∀ j, (((W.put i q new).c j).led w).map (·.1) = ((W.c j).led w).map (·.1) := fun j => by
    by_cases h : j = i
    · subst h; rw [Wd.put_same, had]
    · rw [Wd.put_other h]
  have had' : ∀ w', (q.led w').map (·.1) = ((W.c i).led w').map (·.1) := fun w' => by
    have e1 : (q.led w').map (·.1) = (q.led w).map (·.1) := rfl
    have e2 : ((W.c i).led w').map (·.1) = ((W.c i).led w).map (·.1) := rfl
    rw [e1, e2, had]
  have keepc : ∀ j, j < W.n → j ≠ i → ∀ p ∈ (W.c j).led w, p ∈ wl' := fun j hj hji p hp => hkeep p (O.sub j hj p hp) fun r hr => O.dis j i hj hi hji p hp r hr
  have keepf : ∀ p ∈ W.fix, p ∈ wl' := fun p hp => hkeep p (O.subF p hp) fun r hr => (O.disF i hi r hr p hp).symm
  refine ⟨{ pos := O.pos, top := O.top, upl := O.upl, par0 := ?_, par := ?_, ok := ?_, sub := ?_, subF := ?_, dis := ?_, disF := ?_ }, ⟨rfl, rfl, ee, ?_, ?_, fun p hp => List.mem_append_left _ hp⟩⟩
  · by_cases h : 0 = i
    · subst h; rw [Wd.put_same, hpar]; exact O.par0
    · rw [Wd.put_other h]; exact O.par0
  · intro j h0 hj
    rw [ee]
    by_cases h : j = i
    · subst h; rw [Wd.put_same, hpar]; exact O.par j h0 hj
    · rw [Wd.put_other h]; exact O.par j h0 hj
  · intro j hj
    by_cases h : j = i
    · subst h; rw [Wd.put_same]; exact hq
    · rw [Wd.put_other h]; exact (O.ok j hj).mono (fun p hp => List.mem_append_left _ hp) (Nat.le_succ _)
  · intro j hj
    by_cases h : j = i
    · subst h; rw [Wd.put_same]; exact hsub
    · rw [Wd.put_other h]; exact keepc j hj h
  · intro p hp
    rcases List.mem_append.mp hp with hp | hp
    · exact keepf p hp
    · exact (hnew p hp).1
  · intro j k hj hk hjk
    exact off_of_map (hled j) (off_of_map (hled k) (O.dis j k hj hk hjk).symm).symm
  · intro j hj
    refine off_of_map (hled j) fun p hp r hr => ?_
    rcases List.mem_append.mp hr with hr | hr
    · exact O.disF j hj p hp r hr
    · exact ((hnew r hr).2 p (O.sub j hj p hp)).symm
  · intro j
    by_cases h : j = i
    · subst h; rw [Wd.put_same, ht]
    · rw [Wd.put_other h]
  · intro w' j
    by_cases h : j = i
    · subst h; rw [Wd.put_same, had']
    · rw [Wd.put_other h]
theorem step_id (O : WOk w W z wl) : WOk w W (z + 1) wl := { O with ok := fun i hi => (O.ok i hi).mono (fun _ h => h) (Nat.le_succ _) }
/-- what a deed leaves behind it -/
structure StepOk (w : World) (top : List (Addr × Obj)) (W : Wd) (z : Nat) (wl : List (Addr × Obj)) (W' : Wd) (wl' : List (Addr × Obj)) : Prop where
  ok : WOk w W' z wl'
  same : SameAdr W W'
  keep : ∀ p ∈ wl, (∀ i, i < W.n → ∀ r ∈ (W.c i).led w, p.1 ≠ r.1) → p ∈ wl'
  off : ∀ p ∈ wl', ∀ r ∈ top, p.1 ≠ r.1
  new : ∀ p ∈ W'.fix, p ∈ W.fix ∨ ∀ r ∈ wl, p.1 ≠ r.1
theorem StepOk.idle {top : List (Addr × Obj)} (O : WOk w W z wl) (off : ∀ p ∈ wl, ∀ r ∈ top, p.1 ≠ r.1) : StepOk w top W (z + 1) wl W wl :=
  ⟨step_id O, .refl, fun _ h _ => h, off, fun _ h => .inl h⟩
/-- the ledger but for one environment -/
noncomputable def others (w : World) (q : Cl) (l : List (Addr × Obj)) : List (Addr × Obj) := l.filter fun p => ((q.led w).map (·.1)).all fun b => decide (p.1 ≠ b)
theorem mem_others {q : Cl} {l : List (Addr × Obj)} {p : Addr × Obj} : p ∈ others w q l ↔ p ∈ l ∧ ∀ r ∈ q.led w, p.1 ≠ r.1 := by
  unfold others
  rw [List.mem_filter]
  simp only [List.all_eq_true, List.mem_map, decide_eq_true_eq]
  constructor
  · rintro ⟨h, k⟩
    exact ⟨h, fun r hr => k _ ⟨r, hr, rfl⟩⟩
  · rintro ⟨h, k⟩
    exact ⟨h, by rintro _ ⟨r, hr, rfl⟩; exact k r hr⟩
theorem StepOk.put {top : List (Addr × Obj)} {i : Nat} {q : Cl} {new : List (Addr × Obj)} (O : WOk w W z wl) (hi : i < W.n) (had : (q.led w).map (·.1) = ((W.c i).led w).map (·.1)) (hpar : q.c.par = (W.c i).c.par)
    (hq : CellOk w (W.fix ++ new) i (z + 1) q) (off : ∀ p ∈ wl, ∀ r ∈ top, p.1 ≠ r.1) (hnew : ∀ p ∈ new, (∀ r ∈ wl, p.1 ≠ r.1) ∧ ∀ r ∈ top, p.1 ≠ r.1) :
    StepOk w top W (z + 1) wl (W.put i q new) (q.led w ++ (new ++ others w (W.c i) wl)) := by
  obtain ⟨a, b⟩ := step_cell (wl' := q.led w ++ (new ++ others w (W.c i) wl)) O hi had hpar hq (fun p hp => List.mem_append_left _ hp)
    (fun p hp ho => List.mem_append_right _ (List.mem_append_right _ (mem_others.mpr ⟨hp, ho⟩))) (fun p hp => ⟨List.mem_append_right _ (List.mem_append_left _ hp), (hnew p hp).1⟩)
  refine ⟨a, b, fun p hp ho => List.mem_append_right _ (List.mem_append_right _ (mem_others.mpr ⟨hp, ho i hi⟩)), fun p hp r hr => ?_, fun p hp => ?_⟩
  · rcases List.mem_append.mp hp with hp | hp
    · have : p.1 ∈ ((W.c i).led w).map (·.1) := by rw [← had]; exact List.mem_map.mpr ⟨p, hp, rfl⟩
      obtain ⟨p2, hp2, e⟩ := List.mem_map.mp this
      rw [← e]; exact off p2 (O.sub i hi p2 hp2) r hr
    rcases List.mem_append.mp hp with hp | hp
    · exact (hnew p hp).2 r hr
    · exact off p (mem_others.mp hp).1 r hr
  · rcases List.mem_append.mp hp with hp | hp
    · exact .inl hp
    · exact .inr (hnew p hp).1
end
end
/-! part C5 -/
theorem part_C5 : True := by w_top off; (try walk1); trivial
section
noncomputable def handlersOf : Stmt → List ExceptHandler
  | .Try _ h _ _ _ => h
  | _ => []
noncomputable def tryStmt : Stmt := nthS deedBody 7
noncomputable def tryBody : List Stmt := bodyOf tryStmt
noncomputable def tryHandlers : List ExceptHandler := handlersOf tryStmt
section
variable {M : Model} {A : Around} {E : Value → Shared → Prop} {s : Shared} {h₀ : Heap} {L a : Addr} {m : Str → Option Value} {cn : Str} {cs : Scope} {ccd : Value} {cl : List (Str × Addr)} {news : List (Addr × Obj)}
theorem name_goesX {n : Str} {pos : Pos} {Q : Unit → Shared → Prop} (F : Fr h₀ L s.heap m) (N : News h₀ L s.heap news)
    (h : ∀ h' v, Fr h₀ L h' (fun x => if x = n then v else m x) → News h₀ L h' news → Q () { s with heap := h', toks := s.toks + 1 })
    (hk : cs.kind = .function := by rfl) (hl : (envX cn cs L a ccd cl).kindOf n = some .local := by rfl) :
    wpAny M A (do bindName (envX cn cs L a ccd cl) n .none; unbindBehindTheSuite (envX cn cs L a ccd cl) n pos) Q E s :=
  wpAny_nameGoes_keeps hl F.ns (by show (cs.kind == .class || (cs.kind == .module && L != mainGlobals)) = false; rw [hk]; rfl) fun h' v hn hs => h h' v (F.set hn hs) (N.set hs)
end
/-- where an exception of the law's try goes -/
noncomputable def TryE (w : World) (A : Around) (env : Env) (Q : Flow → Shared → Prop) (E : Value → Shared → Prop) (e : Value) (s₁ : Shared) : Prop :=
  wpAny (model PySem.Challenge.rw_ov0043_01.row.prog w) A (noteFrame e env) (fun _ s₂ => wpAny (model PySem.Challenge.rw_ov0043_01.row.prog w) A (setFlight e none) (fun _ s₃ => wpAny (model PySem.Challenge.rw_ov0043_01.row.prog w) A (handleBy e env tryHandlers) Q E s₃) E s₂) E s₁
section
variable {w : World} {mean : ExcName → Option Value} {mg mb : Str → Option Value} {a : Addr} {ccd : Value} {h₀ : Heap} {L cL cW : Addr} {m : Str → Option Value} {s : Shared} {Q : Flow → Shared → Prop} {E : Value → Shared → Prop}
set_option maxHeartbeats 4000000 in
theorem handled {wl : List (Addr × Obj)} {text : Str}
    (B : Below callerA h₀ [] h₀) (X : (hd.heap_39 w.params).In h₀) (T : Top hd.view_39 (looseW hd.view_39 []) mean mg mb h₀)
    (h : ∀ h' tk' m' tt, Fr h₀ L h' m' → News h₀ L h' wl → m' (Str.ofString "told") = some (.str text tt) → Keep [Str.ofString "told", Str.ofString "refusal"] m' m → Q .next { s with heap := h', toks := tk' }) :
    Raises w h₀ h₀ L m [lawEnv L a ccd cL cW] text wl (TryE w (callerA.deeper (lawEnv L a ccd cL cW)) (lawEnv L a ccd cL cW) Q E) s := by
  intro e D tk t g h' tk' F R u
  unfold TryE
  revert X; k_fill; intro X
  conv in tryHandlers => whnf
  unfold lawEnv at *
  conv in (occs := *) lawScope => all_goals whnf
  dsimp only
  refine caughtD B F u R X T rfl rfl rfl fun h2 oe tk2 F2 N2 hc hdd hno => ?_
  clear F R u T B
  iterate 4 walk1
  refine getMsg (X.keeps F2.keep) (N2 _ (.head _)).1 hc hdd hno (N2 _ (.tail _ (.head _))).1 rfl ?_
  k_steps
  rename Fr _ _ _ _ => F7
  rename News _ _ _ _ => N7
  refine name_goesX F7 N7 (fun h8 v8 F8 N8 => ?_) rfl rfl
  refine h _ _ _ t F8 (news_sub N8 fun p hp => .tail _ (.tail _ hp)) rfl fun z hz => ?_
  simp only [List.contains_cons, List.contains_nil, Bool.or_false, Bool.or_eq_false_iff, beq_eq_false_iff_ne, ne_eq] at hz
  simp only [hz, if_false]
end
end
/-! part C6 -/
theorem part_C6 : True := by w_top off; (try walk1); trivial
section
section
variable {w : World} {fix : List (Addr × Obj)} {i z : Nat} {q : Cl} {x : Str}
theorem CellOk.both (K : CellOk w fix i z q) (x : Str) : (valueAt q.hkv x).isSome = (valueAt q.c.fk x).isSome := by
  cases hv : valueAt q.c.fk x with
  | none => rw [K.hval x hv]
  | some v =>
    obtain ⟨_, _, _, _, _, _, _, _, _, _, _, e⟩ := K.vals x v hv
    rw [e]; rfl
theorem CellOk.set {v d it : Addr} {T : Nat → Tok} {k : Int} {t t' : Tok} {fo' ho' : Obj} (K : CellOk w fix i z q)
    (hf : fo'.IsDictOf (PySem.strKind PySem.Challenge.rw_ov0043_01.row.prog w) (stored q.c.fk x (.ref v))) (hh : ho'.IsDictOf (PySem.strKind PySem.Challenge.rw_ov0043_01.row.prog w) (stored q.hkv x (.int k t'))) :
    CellOk w (fix ++ [(v, instObj 141 d), (d, vecD w T it), (it, PySem.W.listOf #[.int k t] 0)]) i (z + 1) { q with c := { q.c with fo := fo', fk := stored q.c.fk x (.ref v) }, ho := ho', hkv := stored q.hkv x (.int k t') } where
  num := K.num
  hf := hf
  hl := K.hl
  hh := hh
  hb := K.hb
  nf := K.nf
  nl := K.nl
  nh := K.nh
  ord := K.ord
  vals := fun y u hu => by
    dsimp only at hu
    rw [va_stored] at hu
    show ∃ b d_1 it_1 T_1 k_1 t_1 t'_1, _ ∧ _ ∧ _ ∧ _ ∧ valueAt (stored q.hkv x (.int k t')) y = _
    rw [va_stored]
    by_cases h : y = x
    · rw [if_pos h] at hu
      rw [if_pos h]
      cases hu
      exact ⟨v, d, it, T, k, t, t', rfl, by simp, by simp, by simp, rfl⟩
    · rw [if_neg h] at hu
      rw [if_neg h]
      obtain ⟨b, d, it, T, k, t, t', e, a1, a2, a3, a4⟩ := K.vals y u hu
      exact ⟨b, d, it, T, k, t, t', e, List.mem_append_left _ a1, List.mem_append_left _ a2, List.mem_append_left _ a3, a4⟩
  hval := fun y hy => by
    dsimp only at hy ⊢
    rw [va_stored] at hy ⊢
    by_cases h : y = x
    · rw [if_pos h] at hy; cases hy
    · rw [if_neg h] at hy ⊢; exact K.hval y hy
  locks := fun y => by
    rcases K.locks y with h | ⟨h1, h2, h3⟩
    · exact .inl h
    · refine .inr ⟨h1, h2, ?_⟩
      dsimp only
      rw [va_stored]
      by_cases h : y = x
      · rw [if_pos h]; rfl
      · rw [if_neg h]; exact h3
  nd := K.nd
  sz := by
    have h1 := len_stored q.c.fk x (.ref v)
    have h2 := len_stored q.hkv x (.int k t')
    have := K.sz
    dsimp only
    omega
theorem CellOk.rem {fo' lo' ho' : Obj} {bvs' : List Value} {bd' : List Str} {nb' : Nat} (K : CellOk w fix i z q)
    (hf : fo'.IsDictOf (PySem.strKind PySem.Challenge.rw_ov0043_01.row.prog w) (without q.c.fk x)) (hl : lo'.IsDictOf (PySem.strKind PySem.Challenge.rw_ov0043_01.row.prog w) (without q.lkv x))
    (hh : ho'.IsDictOf (PySem.strKind PySem.Challenge.rw_ov0043_01.row.prog w) (without q.hkv x)) (hb : StrsAre bvs' bd') (hnd : bd'.Nodup) (hlen : bd'.length ≤ q.bd.length) (hany : ∀ y, bd'.any (· == y) = (q.bd.any (· == y) && decide (y ≠ x))) :
    CellOk w fix i (z + 1) { q with c := { q.c with fo := fo', fk := without q.c.fk x }, lo := lo', lkv := without q.lkv x, ho := ho', hkv := without q.hkv x, bvs := bvs', bd := bd', nb := nb' } where
  num := K.num
  hf := hf
  hl := hl
  hh := hh
  hb := hb
  nf := K.nf
  nl := K.nl
  nh := K.nh
  ord := K.ord
  vals := fun y u hu => by
    dsimp only at hu
    rw [va_without] at hu
    show ∃ b d_1 it_1 T_1 k_1 t_1 t'_1, _ ∧ _ ∧ _ ∧ _ ∧ valueAt (without q.hkv x) y = _
    rw [va_without]
    by_cases h : y = x
    · rw [if_pos h] at hu; cases hu
    · rw [if_neg h] at hu
      rw [if_neg h]
      exact K.vals y u hu
  hval := fun y hy => by
    dsimp only at hy ⊢
    rw [va_without] at hy ⊢
    by_cases h : y = x
    · rw [if_pos h]
    · rw [if_neg h] at hy ⊢; exact K.hval y hy
  locks := fun y => by
    dsimp only
    rw [va_without, va_without, hany]
    by_cases h : y = x
    · left; simp [h]
    · rw [if_neg h, if_neg h]
      rcases K.locks y with ⟨h1, h2⟩ | ⟨h1, h2, h3⟩
      · left; exact ⟨h1, by rw [h2]; rfl⟩
      · right; exact ⟨h1, by rw [h2]; simp [h], h3⟩
  nd := hnd
  sz := by
    have h1 := len_without q.c.fk x
    have h2 := len_without q.lkv x
    have h3 := len_without q.hkv x
    have := K.sz
    dsimp only
    omega
theorem CellOk.lock {lo' : Obj} {bvs' : List Value} {bd' : List Str} {nb' : Nat} (K : CellOk w fix i z q) (hx : (valueAt q.c.fk x).isSome = true)
    (hl : lo'.IsDictOf (PySem.strKind PySem.Challenge.rw_ov0043_01.row.prog w) (stored q.lkv x (.bool true))) (hb : StrsAre bvs' bd') (hnd : bd'.Nodup) (hlen : bd'.length ≤ q.bd.length + 1) (hany : ∀ y, bd'.any (· == y) = (q.bd.any (· == y) || decide (y = x))) :
    CellOk w fix i (z + 1) { q with lo := lo', lkv := stored q.lkv x (.bool true), bvs := bvs', bd := bd', nb := nb' } where
  num := K.num
  hf := K.hf
  hl := hl
  hh := K.hh
  hb := hb
  nf := K.nf
  nl := K.nl
  nh := K.nh
  ord := K.ord
  vals := K.vals
  hval := K.hval
  locks := fun y => by
    dsimp only
    rw [va_stored, hany]
    by_cases h : y = x
    · right; subst h; exact ⟨if_pos rfl, by simp, hx⟩
    · rw [if_neg h]
      rcases K.locks y with ⟨h1, h2⟩ | ⟨h1, h2, h3⟩
      · left; exact ⟨h1, by rw [h2]; simp [h]⟩
      · right; exact ⟨h1, by rw [h2]; rfl, h3⟩
  nd := hnd
  sz := by
    have h1 := len_stored q.lkv x (.bool true)
    have := K.sz
    dsimp only
    omega
theorem CellOk.shut {ns' : Nat} (K : CellOk w fix i z q) : CellOk w fix i (z + 1) { q with c := { q.c with lk := true }, ns := ns' } where
  num := K.num
  hf := K.hf
  hl := K.hl
  hh := K.hh
  hb := K.hb
  nf := K.nf
  nl := K.nl
  nh := K.nh
  ord := K.ord
  vals := K.vals
  hval := K.hval
  locks := K.locks
  nd := K.nd
  sz := by have := K.sz; dsimp only; omega
end
theorem any_erase {bd : List Str} (x y : Str) (h : bd.Nodup) : (bd.erase x).any (· == y) = (bd.any (· == y) && decide (y ≠ x)) := by
  rw [Bool.eq_iff_iff]
  simp only [List.any_eq_true, beq_iff_eq, exists_eq_right, Bool.and_eq_true, decide_eq_true_eq]
  rw [List.Nodup.mem_erase_iff h]
  exact And.comm
theorem any_snoc {bd : List Str} (x y : Str) : (bd ++ [x]).any (· == y) = (bd.any (· == y) || decide (y = x)) := by
  rw [List.any_append]
  congr 1
  by_cases h : y = x
  · subst h; simp
  · have : ¬ x = y := fun e => h e.symm
    simp [h, this]
theorem strs_snoc {vs : List Value} {ys : List Str} (h : StrsAre vs ys) (x : Str) (t : Tok) : StrsAre (vs ++ [.str x t]) (ys ++ [x]) := by
  induction h with
  | nil => exact .cons _ _ .nil
  | cons y u _ ih => exact .cons _ _ ih
theorem strs_len {vs : List Value} {ys : List Str} (h : StrsAre vs ys) : vs.length = ys.length := by
  induction h with
  | nil => rfl
  | cons _ _ _ ih => rw [List.length_cons, List.length_cons, ih]
/-- the first place of a text -/
theorem strs_first {vs : List Value} {ys : List Str} (h : StrsAre vs ys) (x : Str) (hx : ys.any (· == x) = true) : ∃ j, ∃ hj : j < vs.length, isStrOf x vs[j] = true ∧ (∀ k (hk : k < vs.length), k < j → isStrOf x vs[k] = false) ∧ StrsAre (vs.eraseIdx j) (ys.erase x) := by
  induction h with
  | nil => cases hx
  | @cons y u vs ys hr ih =>
    by_cases e : y = x
    · subst e
      refine ⟨0, by simp, ?_, ?_, ?_⟩
      · simp [isStrOf]
      · intro k _ hk; omega
      · simpa using hr
    · have hx' : ys.any (· == x) = true := by simpa [e] using hx
      obtain ⟨j, hj, h1, h2, h3⟩ := ih hx'
      refine ⟨j + 1, by simp; omega, by simpa using h1, ?_, ?_⟩
      · intro k hk hkj
        cases k with
        | zero => simp [isStrOf, e]
        | succ k => exact h2 k (by simp at hk; omega) (by omega)
      · rw [List.eraseIdx_cons_succ, List.erase_cons_tail (by simpa using e)]
        exact .cons _ _ h3
end
/-! part C7 -/
theorem part_C7 : True := by w_top off; (try walk1); trivial
section
noncomputable abbrev lockedT (x : Str) : Str := Str.ofString "cannot change value of locked binding for '" ++ x ++ Str.ofString "'"
noncomputable abbrev addT : Str := Str.ofString "cannot add bindings to a locked environment"
noncomputable abbrev remT : Str := Str.ofString "cannot remove bindings from a locked environment"
noncomputable def butFor (a : Addr) (l : List (Addr × Obj)) : List (Addr × Obj) := l.filter fun p => decide (p.1 ≠ a)
theorem mem_butFor {a : Addr} {l : List (Addr × Obj)} {p : Addr × Obj} : p ∈ butFor a l ↔ p ∈ l ∧ p.1 ≠ a := by
  unfold butFor; rw [List.mem_filter, decide_eq_true_eq]
/-- an entry of a ledger with that address is that entry -/
theorem news_one {g h : Heap} {L : Addr} {l : List (Addr × Obj)} (N : News g L h l) {p q : Addr × Obj} (hp : p ∈ l) (hq : q ∈ l) (e : p.1 = q.1) : p = q := by
  have h1 := (N p hp).1
  have h2 := (N q hq).1
  rw [e, h2] at h1
  exact Prod.ext e (Option.some.inj h1).symm
section
variable {w : World} {mean : ExcName → Option Value} {mg mb : Str → Option Value} {dp un : Nat} {gd : Option (List Code)} {cn : Str} {cs : Scope} {a : Addr} {ccd : Value} {cl : List (Str × Addr)} {outer : List Env} {A₀ : Around} {base h₀ : Heap} {L : Addr} {m : Str → Option Value} {s : Shared} {Q E : Value → Shared → Prop}
variable {wl : List (Addr × Obj)} {g : Obj → List (Addr × Obj)}
theorem take_use {S R : Addr} {rvs : List Value} {ns : List Int} {nS nR : Nat} {at_ most : Int} {tA tM : Tok}
    (B : Below A₀ base outer h₀) (F : Fr h₀ L s.heap m) (X : (hd.heap_39 w.params).In h₀) (N : News h₀ L s.heap ((S, PySem.W.listOf #[.ref R, .int at_ tA] nS) :: wl)) (T : Top hd.view_39 (looseW hd.view_39 []) mean mg mb h₀) (hk : cs.kind = .function) (off : ∀ p ∈ wl, p.1 ≠ S) (mR : (R, PySem.W.listOf rvs.toArray nR) ∈ wl)
    (hI : IntsAre rvs ns) (hlen : ns.length ≤ 40) (h0 : 0 ≤ at_) (h1 : at_ ≤ 1000) (hm : 0 < most) (hm2 : most ≤ 1000) (hdp : dp + 20 < recursionLimit) (hun : un + 100 < cLine)
    (ret : ∀ (r : Nat) t tA' h' tk', (r : Int) < most → Fr h₀ L h' m → News h₀ L h' ((S, PySem.W.listOf #[.ref R, .int (at_ + 1) tA'] nS) :: wl) → Q (.int (r : Int) t) { s with heap := h', toks := tk' }) :
    wpAny (model PySem.Challenge.rw_ov0043_01.row.prog w) (ktrTop dp un gd cn cs L a ccd cl outer) (call (.ref 181) [.ref S, .int most tM]) Q E s := by
  refine take_gen (g := fun o => (S, o) :: wl) B F X N T hk (.head off) (.tail _ mR) (off _ mR) hI hlen h0 h1 hm hm2 hdp hun fun r t tA' h' tk' a1 a2 F2 N2 => ?_
  obtain ⟨n, rfl⟩ := Int.eq_ofNat_of_zero_le a1
  exact ret n t tA' h' tk' a2 F2 N2
theorem define_no {c : Nd} {lo : Obj} {lkv : List (Str × Value)} {x y : Str} {tx : Tok} {v : Value}
    (B : Below A₀ base outer h₀) (F : Fr h₀ L s.heap m) (X : (hd.heap_39 w.params).In h₀) (N : News h₀ L s.heap wl) (T : Top hd.view_39 (looseW hd.view_39 []) mean mg mb h₀) (hk : cs.kind = .function) (hdp : dp + 40 < recursionLimit) (m1 : (c.e, instObj 163 c.d) ∈ wl) (m2 : (c.d, c.dct w) ∈ wl) (m3 : (c.f, c.fo) ∈ wl) (m4 : (c.l, lo) ∈ wl)
    (hf : c.fo.IsDictOf (PySem.strKind PySem.Challenge.rw_ov0043_01.row.prog w) c.fk) (hl : lo.IsDictOf (PySem.strKind PySem.Challenge.rw_ov0043_01.row.prog w) lkv) (nf : (c.f == sysModules) = false) (nl : (c.l == sysModules) = false)
    (n1 : c.e ≠ c.f) (n2 : c.d ≠ c.f) (n3 : c.l ≠ c.f) (hsz : c.fk.length ≤ 1000) (hx : x.length ≤ 1000)
    (hlk : ∀ v, valueAt lkv x = some v → v = .bool true ∧ ∃ y, valueAt c.fk x = some y)
    (hy : (valueAt lkv x).isSome = true ∧ y = lockedT x ∨ valueAt lkv x = none ∧ valueAt c.fk x = none ∧ c.lk = true ∧ y = addT)
    (er : Raises w base h₀ L m (envX cn cs L a ccd cl :: outer) y wl E s) :
    wpAny (model PySem.Challenge.rw_ov0043_01.row.prog w) (ktrTop dp un gd cn cs L a ccd cl outer) (call (.ref 95) [.ref c.e, .str x tx, v]) Q E s := by
  have N' : News h₀ L s.heap ((c.e, instObj 163 c.d) :: (c.d, c.dct w) :: (c.f, c.fo) :: (c.l, lo) :: butFor c.f wl) := news_sub N fun p hp => by
    simp only [List.mem_cons] at hp
    rcases hp with rfl | rfl | rfl | rfl | hp
    · exact m1
    · exact m2
    · exact m3
    · exact m4
    · exact (mem_butFor.mp hp).1
  have sub : ∀ p ∈ wl, p ∈ (c.e, instObj 163 c.d) :: (c.d, c.dct w) :: (c.f, c.fo) :: (c.l, lo) :: butFor c.f wl := fun p hp => by
    by_cases h : p.1 = c.f
    · rw [news_one N hp m3 h]; exact .tail _ (.tail _ (.head _))
    · exact .tail _ (.tail _ (.tail _ (.tail _ (mem_butFor.mpr ⟨hp, h⟩))))
  refine define_spec B F X N' T hk hdp hf hl nf nl n1 n2 n3 (fun p hp => (mem_butFor.mp hp).2) hsz hx hlk (fun q => ?_) (fun q q2 => ?_) fun fo' h' tk' a1 a2 a3 F2 N2 => ?_
  · rcases hy with ⟨_, rfl⟩ | ⟨h1, _⟩
    · exact er.mono sub
    · rw [h1] at q; cases q
  · rcases hy with ⟨h1, _⟩ | ⟨_, _, _, rfl⟩
    · exfalso
      obtain ⟨v, hv⟩ := Option.isSome_iff_exists.mp h1
      obtain ⟨_, y, hy⟩ := hlk v hv
      rw [q] at hy; cases hy
    · exact er.mono sub
  · exfalso
    rcases hy with ⟨h1, _⟩ | ⟨_, h2, h3, _⟩
    · rw [a1] at h1; cases h1
    · have := a2 h3; rw [h2] at this; cases this
theorem define_yes {c : Nd} {lo : Obj} {lkv : List (Str × Value)} {x : Str} {tx : Tok} {v : Value}
    (B : Below A₀ base outer h₀) (F : Fr h₀ L s.heap m) (X : (hd.heap_39 w.params).In h₀) (N : News h₀ L s.heap wl) (T : Top hd.view_39 (looseW hd.view_39 []) mean mg mb h₀) (hk : cs.kind = .function) (hdp : dp + 40 < recursionLimit) (U : UpdF c.f c.fo wl g) (m1 : (c.e, instObj 163 c.d) ∈ wl) (m2 : (c.d, c.dct w) ∈ wl) (m4 : (c.l, lo) ∈ wl)
    (hf : c.fo.IsDictOf (PySem.strKind PySem.Challenge.rw_ov0043_01.row.prog w) c.fk) (hl : lo.IsDictOf (PySem.strKind PySem.Challenge.rw_ov0043_01.row.prog w) lkv) (nf : (c.f == sysModules) = false) (nl : (c.l == sysModules) = false)
    (n1 : c.e ≠ c.f) (n2 : c.d ≠ c.f) (n3 : c.l ≠ c.f) (hsz : c.fk.length ≤ 1000) (hx : x.length ≤ 1000)
    (hn : valueAt lkv x = none) (hlk : c.lk = true → (valueAt c.fk x).isSome = true)
    (ret : ∀ fo' h' tk', fo'.IsDictOf (PySem.strKind PySem.Challenge.rw_ov0043_01.row.prog w) (stored c.fk x v) → Fr h₀ L h' m → News h₀ L h' (g fo') → Q .none { s with heap := h', toks := tk' }) :
    wpAny (model PySem.Challenge.rw_ov0043_01.row.prog w) (ktrTop dp un gd cn cs L a ccd cl outer) (call (.ref 95) [.ref c.e, .str x tx, v]) Q E s :=
  define_gen B F X N T hk hdp U m1 m2 m4 hf hl nf nl n1 n2 n3 hsz hx (fun v hv => by rw [hn] at hv; cases hv) (fun q => by rw [hn] at q; cases q) (fun q q2 => by have := hlk q2; rw [q] at this; cases this) fun fo' h' tk' _ _ a3 F2 N2 => ret fo' h' tk' a3 F2 N2
theorem assign_no {c t e : Nd} {lo : Obj} {lkv : List (Str × Value)} {r : List Nd} {x y : Str} {tx : Tok} {v : Value}
    (B : Below A₀ base outer h₀) (F : Fr h₀ L s.heap m) (X : (hd.heap_39 w.params).In h₀) (N : News h₀ L s.heap wl) (T : Top hd.view_39 (looseW hd.view_39 []) mean mg mb h₀) (hk : cs.kind = .function) (hdp : dp + 60 < recursionLimit) (m1 : (e.e, instObj 163 e.d) ∈ wl) (m2 : (e.d, e.dct w) ∈ wl) (m3 : (e.f, e.fo) ∈ wl) (m4 : (e.l, lo) ∈ wl)
    (c1 : (c.e, instObj 163 c.d) ∈ wl) (c2 : (c.d, c.dct w) ∈ wl) (hC : Chain w wl c.par r) (h0 : c.num = 0 → r = []) (t1 : (t.e, instObj 163 t.d) ∈ wl) (t2 : (t.d, t.dct w) ∈ wl) (t0 : t.num = 0)
    (he : (r.find? (Nd.has x)).getD t = e)
    (hf : e.fo.IsDictOf (PySem.strKind PySem.Challenge.rw_ov0043_01.row.prog w) e.fk) (hl : lo.IsDictOf (PySem.strKind PySem.Challenge.rw_ov0043_01.row.prog w) lkv) (nf : (e.f == sysModules) = false) (nl : (e.l == sysModules) = false)
    (n1 : e.e ≠ e.f) (n2 : e.d ≠ e.f) (n3 : e.l ≠ e.f) (hsz : e.fk.length ≤ 1000) (hx : x.length ≤ 1000)
    (hlk : ∀ v, valueAt lkv x = some v → v = .bool true ∧ ∃ y, valueAt e.fk x = some y) (hv : handedIn v = true)
    (hy : (valueAt lkv x).isSome = true ∧ y = lockedT x ∨ valueAt lkv x = none ∧ valueAt e.fk x = none ∧ e.lk = true ∧ y = addT)
    (er : Raises w base h₀ L m (envX cn cs L a ccd cl :: outer) y wl E s) :
    wpAny (model PySem.Challenge.rw_ov0043_01.row.prog w) (ktrTop dp un gd cn cs L a ccd cl outer) (call (.ref 109) [.ref c.e, .str x tx, v, .ref t.e]) Q E s := by
  have N' : News h₀ L s.heap ((e.e, instObj 163 e.d) :: (e.d, e.dct w) :: (e.f, e.fo) :: (e.l, lo) :: butFor e.f wl) := news_sub N fun p hp => by
    simp only [List.mem_cons] at hp
    rcases hp with rfl | rfl | rfl | rfl | hp
    · exact m1
    · exact m2
    · exact m3
    · exact m4
    · exact (mem_butFor.mp hp).1
  have sub : ∀ p ∈ wl, p ∈ (e.e, instObj 163 e.d) :: (e.d, e.dct w) :: (e.f, e.fo) :: (e.l, lo) :: butFor e.f wl := fun p hp => by
    by_cases h : p.1 = e.f
    · rw [news_one N hp m3 h]; exact .tail _ (.tail _ (.head _))
    · exact .tail _ (.tail _ (.tail _ (.tail _ (mem_butFor.mpr ⟨hp, h⟩))))
  refine assign_up_spec B F X N' T hk hdp (sub _ c1) (sub _ c2) (hC.mono sub) h0 (sub _ t1) (sub _ t2) t0 he hf hl nf nl n1 n2 n3 (fun p hp => (mem_butFor.mp hp).2) hsz hx hlk hv (fun q => ?_) (fun q q2 => ?_) fun fo' h' tk' a1 a2 a3 F2 N2 => ?_
  · rcases hy with ⟨_, rfl⟩ | ⟨h1, _⟩
    · exact er.mono sub
    · rw [h1] at q; cases q
  · rcases hy with ⟨h1, _⟩ | ⟨_, _, _, rfl⟩
    · exfalso
      obtain ⟨v, hv⟩ := Option.isSome_iff_exists.mp h1
      obtain ⟨_, y, hy⟩ := hlk v hv
      rw [q] at hy; cases hy
    · exact er.mono sub
  · exfalso
    rcases hy with ⟨h1, _⟩ | ⟨_, h2, h3, _⟩
    · rw [a1] at h1; cases h1
    · have := a2 h3; rw [h2] at this; cases this
theorem assign_yes {c t e : Nd} {lo : Obj} {lkv : List (Str × Value)} {r : List Nd} {x : Str} {tx : Tok} {v : Value}
    (B : Below A₀ base outer h₀) (F : Fr h₀ L s.heap m) (X : (hd.heap_39 w.params).In h₀) (N : News h₀ L s.heap wl) (T : Top hd.view_39 (looseW hd.view_39 []) mean mg mb h₀) (hk : cs.kind = .function) (hdp : dp + 60 < recursionLimit) (U : UpdF e.f e.fo wl g) (m1 : (e.e, instObj 163 e.d) ∈ wl) (m2 : (e.d, e.dct w) ∈ wl) (m4 : (e.l, lo) ∈ wl)
    (c1 : (c.e, instObj 163 c.d) ∈ wl) (c2 : (c.d, c.dct w) ∈ wl) (hC : Chain w wl c.par r) (h0 : c.num = 0 → r = []) (t1 : (t.e, instObj 163 t.d) ∈ wl) (t2 : (t.d, t.dct w) ∈ wl) (t0 : t.num = 0)
    (he : (r.find? (Nd.has x)).getD t = e)
    (hf : e.fo.IsDictOf (PySem.strKind PySem.Challenge.rw_ov0043_01.row.prog w) e.fk) (hl : lo.IsDictOf (PySem.strKind PySem.Challenge.rw_ov0043_01.row.prog w) lkv) (nf : (e.f == sysModules) = false) (nl : (e.l == sysModules) = false)
    (n1 : e.e ≠ e.f) (n2 : e.d ≠ e.f) (n3 : e.l ≠ e.f) (hsz : e.fk.length ≤ 1000) (hx : x.length ≤ 1000) (hv : handedIn v = true)
    (hn : valueAt lkv x = none) (hlk : e.lk = true → (valueAt e.fk x).isSome = true)
    (ret : ∀ fo' h' tk', fo'.IsDictOf (PySem.strKind PySem.Challenge.rw_ov0043_01.row.prog w) (stored e.fk x v) → Fr h₀ L h' m → News h₀ L h' (g fo') → Q .none { s with heap := h', toks := tk' }) :
    wpAny (model PySem.Challenge.rw_ov0043_01.row.prog w) (ktrTop dp un gd cn cs L a ccd cl outer) (call (.ref 109) [.ref c.e, .str x tx, v, .ref t.e]) Q E s :=
  assign_up_gen B F X N T hk hdp U m1 m2 m4 c1 c2 hC h0 t1 t2 t0 he hf hl nf nl n1 n2 n3 hsz hx (fun v hv => by rw [hn] at hv; cases hv) hv (fun q => by rw [hn] at q; cases q) (fun q q2 => by have := hlk q2; rw [q] at this; cases this) fun fo' h' tk' _ _ a3 F2 N2 => ret fo' h' tk' a3 F2 N2
theorem law_set_no {Wa t h b sh : Addr} {wa : Array Value} {nW nt nb ns i : Nat} {ho : Obj} {hkv : List (Str × Value)} {bvs : List Value} {bd : List Str} {lk : Bool} {x y : Str} {tx ta tf : Tok} {fig : Int}
    (B : Below A₀ base outer h₀) (F : Fr h₀ L s.heap m) (X : (hd.heap_39 w.params).In h₀) (N : News h₀ L s.heap wl) (T : Top hd.view_39 (looseW hd.view_39 []) mean mg mb h₀) (hk : cs.kind = .function) (hdp : dp + 40 < recursionLimit) (m1 : (Wa, PySem.W.listOf wa nW) ∈ wl) (m2 : (t, PySem.W.listOf #[.ref h, .ref b, .ref sh] nt) ∈ wl) (m5 : (h, ho) ∈ wl) (m3 : (b, PySem.W.listOf bvs.toArray nb) ∈ wl) (m4 : (sh, PySem.W.listOf #[.bool lk] ns) ∈ wl)
    (hi : wa[i]? = some (.ref t)) (hws : wa.size ≤ 1000) (hh : ho.IsDictOf (PySem.strKind PySem.Challenge.rw_ov0043_01.row.prog w) hkv) (hb : StrsAre bvs bd) (nh : (h == sysModules) = false)
    (n1 : Wa ≠ h) (n2 : t ≠ h) (n3 : b ≠ h) (n4 : sh ≠ h) (hsz : hkv.length ≤ 1000) (hx : x.length ≤ 1000)
    (hy : (valueAt hkv x).isSome = true ∧ bd.any (· == x) = true ∧ y = lockedT x ∨ valueAt hkv x = none ∧ lk = true ∧ y = addT)
    (ret : ∀ h' tk' tt, Fr h₀ L h' m → News h₀ L h' wl → Q (.str y tt) { s with heap := h', toks := tk' }) :
    wpAny (model PySem.Challenge.rw_ov0043_01.row.prog w) (ktrTop dp un gd cn cs L a ccd cl outer) (call (.ref 188) [.ref Wa, .int (i : Int) ta, .str x tx, .int fig tf]) Q E s := by
  have N' : News h₀ L s.heap ((Wa, PySem.W.listOf wa nW) :: (t, PySem.W.listOf #[.ref h, .ref b, .ref sh] nt) :: (h, ho) :: (b, PySem.W.listOf bvs.toArray nb) :: (sh, PySem.W.listOf #[.bool lk] ns) :: butFor h wl) := news_sub N fun p hp => by
    simp only [List.mem_cons] at hp
    rcases hp with rfl | rfl | rfl | rfl | rfl | hp
    · exact m1
    · exact m2
    · exact m5
    · exact m3
    · exact m4
    · exact (mem_butFor.mp hp).1
  have sub : ∀ p ∈ wl, p ∈ (Wa, PySem.W.listOf wa nW) :: (t, PySem.W.listOf #[.ref h, .ref b, .ref sh] nt) :: (h, ho) :: (b, PySem.W.listOf bvs.toArray nb) :: (sh, PySem.W.listOf #[.bool lk] ns) :: butFor h wl := fun p hp => by
    by_cases h9 : p.1 = h
    · rw [news_one N hp m5 h9]; exact .tail _ (.tail _ (.head _))
    · exact .tail _ (.tail _ (.tail _ (.tail _ (.tail _ (mem_butFor.mpr ⟨hp, h9⟩)))))
  refine law_set_spec B F X N' T hk hdp hi hws hh hb nh n1 n2 n3 n4 (fun p hp => (mem_butFor.mp hp).2) hsz hx (fun h' tk' tt a1 a2 F2 N2 => ?_) (fun h' tk' tt a1 a2 F2 N2 => ?_) fun ho' h' tk' tt a1 a2 a3 F2 N2 => ?_
  · rcases hy with ⟨_, _, rfl⟩ | ⟨h1, _⟩
    · exact ret h' tk' tt F2 (news_sub N2 sub)
    · rw [h1] at a1; cases a1
  · rcases hy with ⟨h1, _⟩ | ⟨_, _, rfl⟩
    · rw [a1] at h1; cases h1
    · exact ret h' tk' tt F2 (news_sub N2 sub)
  · exfalso
    rcases hy with ⟨h1, h2, _⟩ | ⟨h1, h2, _⟩
    · rw [a1 h1] at h2; cases h2
    · rw [a2 h1] at h2; cases h2
theorem law_set_yes {Wa t h b sh : Addr} {wa : Array Value} {nW nt nb ns i : Nat} {ho : Obj} {hkv : List (Str × Value)} {bvs : List Value} {bd : List Str} {lk : Bool} {x : Str} {tx ta tf : Tok} {fig : Int}
    (B : Below A₀ base outer h₀) (F : Fr h₀ L s.heap m) (X : (hd.heap_39 w.params).In h₀) (N : News h₀ L s.heap wl) (T : Top hd.view_39 (looseW hd.view_39 []) mean mg mb h₀) (hk : cs.kind = .function) (hdp : dp + 40 < recursionLimit) (U : UpdF h ho wl g) (m1 : (Wa, PySem.W.listOf wa nW) ∈ wl) (m2 : (t, PySem.W.listOf #[.ref h, .ref b, .ref sh] nt) ∈ wl) (m3 : (b, PySem.W.listOf bvs.toArray nb) ∈ wl) (m4 : (sh, PySem.W.listOf #[.bool lk] ns) ∈ wl)
    (hi : wa[i]? = some (.ref t)) (hws : wa.size ≤ 1000) (hh : ho.IsDictOf (PySem.strKind PySem.Challenge.rw_ov0043_01.row.prog w) hkv) (hb : StrsAre bvs bd) (nh : (h == sysModules) = false)
    (n1 : Wa ≠ h) (n2 : t ≠ h) (n3 : b ≠ h) (n4 : sh ≠ h) (hsz : hkv.length ≤ 1000) (hx : x.length ≤ 1000)
    (hn : bd.any (· == x) = false) (hlk : lk = true → (valueAt hkv x).isSome = true)
    (ret : ∀ ho' h' tk' tt, ho'.IsDictOf (PySem.strKind PySem.Challenge.rw_ov0043_01.row.prog w) (stored hkv x (.int fig tf)) → Fr h₀ L h' m → News h₀ L h' (g ho') → Q (.str (Str.ofString "") tt) { s with heap := h', toks := tk' }) :
    wpAny (model PySem.Challenge.rw_ov0043_01.row.prog w) (ktrTop dp un gd cn cs L a ccd cl outer) (call (.ref 188) [.ref Wa, .int (i : Int) ta, .str x tx, .int fig tf]) Q E s :=
  law_set_gen B F X N T hk hdp U m1 m2 m3 m4 hi hws hh hb nh n1 n2 n3 n4 hsz hx (fun h' tk' tt a1 a2 F2 N2 => by rw [hn] at a2; cases a2) (fun h' tk' tt a1 a2 F2 N2 => by have := hlk a2; rw [a1] at this; cases this) fun ho' h' tk' tt _ _ a3 F2 N2 => ret ho' h' tk' tt a3 F2 N2
end
section
variable {prog : Program} {w : World} {A : Around} {E : Value → Shared → Prop} {s : Shared} {h₀ : Heap} {L D : Addr} {m : Str → Option Value} {news : List (Addr × Obj)} {g : Obj → List (Addr × Obj)} {n : Nat} {bvs : List Value} {bd : List Str} {x : Str} {t : Tok}
theorem rem_at {Q : Value → Shared → Prop} (F : Fr h₀ L s.heap m) (N : News h₀ L s.heap news) (U : UpdF D (PySem.W.listOf bvs.toArray n) news g) (hb : StrsAre bvs bd) (hx : bd.any (· == x) = true) (hz : bvs.length ≤ 1000)
    (h : ∀ us h', StrsAre us (bd.erase x) → Fr h₀ L h' m → News h₀ L h' (g (PySem.W.listOf us.toArray (n + 1))) → Q .none { s with heap := h' }) : wpAny (model prog w) A (call (.builtin "list.remove") [.ref D, .str x t]) Q E s := by
  obtain ⟨pre, post, rfl, hg, a', b'⟩ := U.split
  have z := N (D, PySem.W.listOf bvs.toArray n) (List.mem_append.mpr (.inr (.head _)))
  obtain ⟨j, hj, h1, h2, h3⟩ := strs_first hb x hx
  have hz' : bvs.toArray.size ≤ sizeLine := by rw [sizeLine_eq, List.size_toArray]; omega
  refine call_meets PySem.F.slot_list_remove ⟨_, z.1, rfl⟩ PySem.F.entry_list_remove (PySem.F.args_list_remove_2 _ _)
    (MeetsSeq.list_remove D bvs.toArray n (.str x t) (isStrOf x) (fun y hy => eq_isStrOf x t hb y (by simpa using hy)) j (by simpa using hj) (by simpa using h1) (fun k hk hlt => by simpa using h2 k (by simpa using hk) hlt) hz')
    ⟨z.1, h (bvs.eraseIdx j) _ h3 (F.change (Heap.SameBut.update ..) z.2.1 z.2.2) ?_⟩
  rw [hg]
  refine ki_turn _ N a' b' ?_ ?_
  · apply Array.toList_inj.mp
    simp [Array.toList_eraseIdxIfInBounds]
  · have : (bvs.eraseIdx j).length + 1 = bvs.length := by rw [List.length_eraseIdx]; split <;> omega
    have hq : (bvs.eraseIdx j).toArray.size ≠ bvs.toArray.size := by rw [List.size_toArray, List.size_toArray]; omega
    rw [if_neg (by simpa using hq)]
end
end
local macro_rules | `(tactic| walk_at "mine_keep") => `(tactic| k_extra "mine_w23")
section
local macro_rules | `(tactic| k_all) => `(tactic| first | assumption | exact List.forall_mem_nil _ | (refine' List.forall_mem_cons.mpr ⟨?a, ?b⟩; (case a => k_ne); (case b => k_all)))
section
/-! part C8, its lemmas -/
theorem ord8 {w : World} {fix : List (Addr × Obj)} {i z : Nat} {q : Cl} (K : CellOk w fix i z q) : @LT.lt Nat _ q.c.d q.c.e ∧ @LT.lt Nat _ q.c.e q.c.f ∧ @LT.lt Nat _ q.c.f q.c.l ∧ @LT.lt Nat _ q.c.l q.h ∧ @LT.lt Nat _ q.h q.b ∧ @LT.lt Nat _ q.b q.sh ∧ @LT.lt Nat _ q.sh q.t := K.ord
theorem cell_cases {w : World} {fix : List (Addr × Obj)} {i z : Nat} {q : Cl} (K : CellOk w fix i z q) (x : Str) :
    (∃ y, ((valueAt q.hkv x).isSome = true ∧ q.bd.any (· == x) = true ∧ y = lockedT x ∨ valueAt q.hkv x = none ∧ q.c.lk = true ∧ y = addT) ∧
      ((valueAt q.lkv x).isSome = true ∧ y = lockedT x ∨ valueAt q.lkv x = none ∧ valueAt q.c.fk x = none ∧ q.c.lk = true ∧ y = addT)) ∨
    (valueAt q.lkv x = none ∧ q.bd.any (· == x) = false ∧ (q.c.lk = true → (valueAt q.c.fk x).isSome = true) ∧ (q.c.lk = true → (valueAt q.hkv x).isSome = true)) := by
  have e := K.both x
  rcases K.locks x with ⟨h1, h2⟩ | ⟨h1, h2, h3⟩
  · cases hv : valueAt q.c.fk x with
    | some v =>
      rw [hv] at e
      exact .inr ⟨h1, h2, fun _ => rfl, fun _ => e⟩
    | none =>
      rw [hv] at e
      have e' : valueAt q.hkv x = none := K.hval x hv
      cases hk : q.c.lk with
      | true => exact .inl ⟨_, .inr ⟨e', rfl, rfl⟩, .inr ⟨h1, rfl, rfl, rfl⟩⟩
      | false => exact .inr ⟨h1, h2, fun q => (by cases q), fun q => (by cases q)⟩
  · exact .inl ⟨_, .inl ⟨by rw [e]; exact h3, h2, rfl⟩, .inl ⟨by rw [h1]; rfl, rfl⟩⟩
structure LtAll (d : Addr) (l : List (Addr × Obj)) : Prop where
  all : ∀ p ∈ l, p.1 < d
/-- a name set, written down -/
theorem cell_news {w : World} {q : Cl} {h₀ h : Heap} {L S cL : Addr} {So oL : Obj} {wl : List (Addr × Obj)} (N : News h₀ L h ((S, So) :: (cL, oL) :: wl)) (hs : ∀ p ∈ q.led w, p ∈ wl) :
    News h₀ L h (q.led w ++ ((S, So) :: (cL, oL) :: others w q wl)) := news_sub N fun p hp => by
  rcases List.mem_append.mp hp with hp | hp
  · exact .tail _ (.tail _ (hs p hp))
  rcases List.mem_cons.mp hp with rfl | hp
  · exact .head _
  rcases List.mem_cons.mp hp with rfl | hp
  · exact .tail _ (.head _)
  · exact .tail _ (.tail _ (mem_others.mp hp).1)
theorem cell_off {w : World} {q : Cl} {S cL : Addr} {So oL : Obj} {wl : List (Addr × Obj)} (offT : ∀ p ∈ wl, ∀ r ∈ [(S, So), (cL, oL)], p.1 ≠ r.1) (hs : ∀ p ∈ q.led w, p ∈ wl) :
    ∀ p ∈ (S, So) :: (cL, oL) :: others w q wl, ∀ r ∈ q.led w, p.1 ≠ r.1 := fun p hp r hr => by
  rcases List.mem_cons.mp hp with rfl | hp
  · exact (offT r (hs r hr) _ (.head _)).symm
  rcases List.mem_cons.mp hp with rfl | hp
  · exact (offT r (hs r hr) _ (.tail _ (.head _))).symm
  · exact (mem_others.mp hp).2 r hr
theorem rot2 {α : Type} {a b : α} {l r : List α} : ∀ p, p ∈ a :: b :: (l ++ r) → p ∈ l ++ a :: b :: r := fun p hp => by
  rcases List.mem_cons.mp hp with rfl | hp
  · exact List.mem_append_right _ (.head _)
  rcases List.mem_cons.mp hp with rfl | hp
  · exact List.mem_append_right _ (.tail _ (.head _))
  rcases List.mem_append.mp hp with hp | hp
  · exact List.mem_append_left _ hp
  · exact List.mem_append_right _ (.tail _ (.tail _ hp))
theorem rot3 {α : Type} {a b : α} {l n r : List α} : ∀ p, p ∈ a :: b :: (l ++ (n ++ r)) → p ∈ n ++ (l ++ a :: b :: r) := fun p hp => by
  rcases List.mem_cons.mp hp with rfl | hp
  · exact List.mem_append_right _ (List.mem_append_right _ (.head _))
  rcases List.mem_cons.mp hp with rfl | hp
  · exact List.mem_append_right _ (List.mem_append_right _ (.tail _ (.head _)))
  rcases List.mem_append.mp hp with hp | hp
  · exact List.mem_append_right _ (List.mem_append_left _ hp)
  rcases List.mem_append.mp hp with hp | hp
  · exact List.mem_append_left _ hp
  · exact List.mem_append_right _ (List.mem_append_right _ (.tail _ (.tail _ hp)))
theorem set_done {w : World} {W : Wd} {z i : Nat} {wl : List (Addr × Obj)} {h₀ h7 : Heap} {L S cL v d it : Addr} {So oL fo' ho' o1 o2 o3 o4 o5 o6 o7 o8 : Obj} {T : Nat → Tok} {k : Int} {t t' : Tok} {x : Str} (O : WOk w W z wl) (hi : i < W.n) (offT : ∀ p ∈ wl, ∀ r ∈ [(S, So), (cL, oL)], p.1 ≠ r.1)
    (hdf : fo'.IsDictOf (PySem.strKind PySem.Challenge.rw_ov0043_01.row.prog w) (stored (W.c i).c.fk x (.ref v))) (hdh : ho'.IsDictOf (PySem.strKind PySem.Challenge.rw_ov0043_01.row.prog w) (stored (W.c i).hkv x (.int k t')))
    (N7 : News h₀ L h7 ((v, instObj 141 d) :: (d, vecD w T it) :: (it, PySem.W.listOf #[.int k t] 0) :: ((W.c i).c.e, instObj 163 (W.c i).c.d) :: ((W.c i).c.d, (W.c i).c.dct w) :: ((W.c i).c.f, fo') :: ((W.c i).c.l, (W.c i).lo) :: ((W.c i).t, PySem.W.listOf #[.ref (W.c i).h, .ref (W.c i).b, .ref (W.c i).sh] (W.c i).nt) :: ((W.c i).h, ho') :: ((W.c i).b, PySem.W.listOf (W.c i).bvs.toArray (W.c i).nb) :: ((W.c i).sh, PySem.W.listOf #[.bool (W.c i).c.lk] (W.c i).ns) :: (S, So) :: (cL, oL) :: others w (W.c i) wl))
    (l8 : LtAll it (((W.c i).c.e, o1) :: ((W.c i).c.d, o2) :: ((W.c i).c.f, o3) :: ((W.c i).c.l, o4) :: ((W.c i).t, o5) :: ((W.c i).h, o6) :: ((W.c i).b, o7) :: ((W.c i).sh, o8) :: (S, So) :: (cL, oL) :: others w (W.c i) wl))
    (a9 : @LT.lt Nat _ it d) (b9 : @LT.lt Nat _ d v) : ∃ W' wl', News h₀ L h7 ((S, So) :: (cL, oL) :: wl') ∧ StepOk w [(S, So), (cL, oL)] W (z + 1) wl W' wl' := by
  have hlt : ∀ r ∈ (S, So) :: (cL, oL) :: wl, @LT.lt Nat _ r.1 it := by
    obtain ⟨e1, e2, e3, e4, e5, e6, e7, e8, e9, e10, e11⟩ := allLt_of l8.all
    intro r hr
    rcases List.mem_cons.mp hr with rfl | hr
    · exact e9
    rcases List.mem_cons.mp hr with rfl | hr
    · exact e10
    by_cases hc : ∃ q ∈ (W.c i).led w, r.1 = q.1
    · obtain ⟨q, hq, e⟩ := hc
      rw [e]
      simp only [Cl.led, List.mem_cons, List.not_mem_nil, or_false] at hq
      rcases hq with rfl | rfl | rfl | rfl | rfl | rfl | rfl | rfl
      · exact e1
      · exact e2
      · exact e3
      · exact e4
      · exact e5
      · exact e6
      · exact e7
      · exact e8
    · exact allLt_mem e11 r (mem_others.mpr ⟨hr, fun q hq e => hc ⟨q, hq, e⟩⟩)
  have hnew : ∀ p ∈ [(v, instObj 141 d), (d, vecD w T it), (it, PySem.W.listOf #[.int k t] 0)], ∀ r ∈ (S, So) :: (cL, oL) :: wl, p.1 ≠ r.1 := by
    intro p hp r hr
    have h1 := hlt r hr
    refine neN ?_
    simp only [List.mem_cons, List.not_mem_nil, or_false] at hp
    rcases hp with rfl | rfl | rfl <;> dsimp only <;> omega
  have hq := (O.ok i hi).set (d := d) (it := it) (T := T) (t := t) hdf hdh
  refine ⟨_, _, news_sub N7 ?_, StepOk.put O hi (by rfl) (by rfl) hq offT fun p hp => ⟨fun r hr => hnew p hp r (.tail _ (.tail _ hr)), fun r hr => hnew p hp r ?_⟩⟩
  · exact fun p hp => rot3 p hp
  · simp only [List.mem_cons, List.not_mem_nil, or_false] at hr
    rcases hr with rfl | rfl
    · exact .head _
    · exact .tail _ (.head _)
local macro_rules | `(tactic| walk_at "call ref") => `(tactic| k_extra "mine_w24")
/-! part C8 -/
theorem part_C8 : True := by w_top off; (try walk1); trivial
section
section
variable {w : World} {mean : ExcName → Option Value} {mg mb : Str → Option Value} {a : Addr} {ccd : Value} {h₀ : Heap} {L cL cW : Addr} {m : Str → Option Value} {s : Shared} {Q : Flow → Shared → Prop} {E : Value → Shared → Prop}
set_option maxHeartbeats 8000000 in
theorem try_kind0 {W : Wd} {z i nR nW nA : Nat} {wl : List (Addr × Obj)} {S : Addr} {So oL oW : Obj} {Ro Wa Ab : Addr} {avs : List Value} {x : Str} {f : Int} {tkk ta tx tf t1 t2 : Tok}
    (B : Below callerA h₀ [] h₀) (X : (hd.heap_39 w.params).In h₀) (T : Top hd.view_39 (looseW hd.view_39 []) mean mg mb h₀)
    (O : WOk w W z wl) (hz : z ≤ 20) (hi : i < W.n)
    (F : Fr h₀ L s.heap m) (N : News h₀ L s.heap ((S, So) :: (cL, oL) :: wl)) (offT : ∀ p ∈ wl, ∀ r ∈ [(S, So), (cL, oL)], p.1 ≠ r.1) (hoW : oW.data = .cell (some (.ref Wa)))
    (fR : (Ro, PySem.W.listOf ((List.range W.n).map fun j => Value.ref (W.c j).c.e).toArray nR) ∈ W.fix)
    (fW : (Wa, PySem.W.listOf ((List.range W.n).map fun j => Value.ref (W.c j).t).toArray nW) ∈ W.fix)
    (fA : (Ab, PySem.W.listOf avs.toArray nA) ∈ W.fix) (hav0 : IntsAre avs (aboves W)) (fcW : (cW, oW) ∈ W.fix) (hx : x.length ≤ 1000)
    (H : HoldsL [(Str.ofString "kind", .int 0 tkk), (Str.ofString "at", .int (i : Int) ta), (Str.ofString "name", .str x tx), (Str.ofString "figure", .int f tf), (Str.ofString "said", .str (Str.ofString "") t1), (Str.ofString "told", .str (Str.ofString "") t2),
      (Str.ofString "held", .ref (W.c i).h), (Str.ofString "bound", .ref (W.c i).b), (Str.ofString "shut", .ref (W.c i).sh), (Str.ofString "rows", .ref Ro), (Str.ofString "above", .ref Ab)] m)
    (hE0 : PassesOwn (model PySem.Challenge.rw_ov0043_01.row.prog w) (callerA.deeper (lawEnv L a ccd cL cW)) (lawEnv L a ccd cL cW) E)
    (done : ∀ h' tk' m' W' wl' y t1' t2', Fr h₀ L h' m' → News h₀ L h' ((S, So) :: (cL, oL) :: wl') → StepOk w [(S, So), (cL, oL)] W (z + 1) wl W' wl' → m' (Str.ofString "said") = some (.str y t1') → m' (Str.ofString "told") = some (.str y t2') →
      Keep [Str.ofString "said", Str.ofString "told", Str.ofString "refusal", Str.ofString "spot", Str.ofString "there"] m' m → Q .next { s with heap := h', toks := tk' }) :
    wpAny (model PySem.Challenge.rw_ov0043_01.row.prog w) (callerA.deeper (lawEnv L a ccd cL cW)) (exec tryStmt (lawEnv L a ccd cL cW)) Q E s := by
  have F0 := fr_upds F H
  clear F
  dsimp only [upds] at F0
  have K := O.ok i hi
  have ord := ord8 K
  have mW := O.subF _ fW
  have mR := O.subF _ fR
  have mA := O.subF _ fA
  have mcW := O.subF _ fcW
  have m1 := O.m1 hi
  have m2 := O.m2 hi
  have m3 := O.m3 hi
  have m4 := O.m4 hi
  have m5 := O.m5 hi
  have m6 := O.m6 hi
  have m7 := O.m7 hi
  have m8 := O.m8 hi
  have hfW : Wa ≠ (W.c i).h := (O.disF i hi _ (.tail _ (.tail _ (.tail _ (.tail _ (.tail _ (.head _)))))) _ fW).symm
  have gR : ((List.range W.n).map fun j => Value.ref (W.c j).c.e).toArray[i]? = some (.ref (W.c i).c.e) := by simp [hi]
  have gW : ((List.range W.n).map fun j => Value.ref (W.c j).t).toArray[i]? = some (.ref (W.c i).t) := by simp [hi]
  have hsR : ((List.range W.n).map fun j => Value.ref (W.c j).c.e).toArray.size ≤ 1000 := by have := O.top; simp; omega
  have hsW : ((List.range W.n).map fun j => Value.ref (W.c j).t).toArray.size ≤ 1000 := by have := O.top; simp; omega
  have hf := K.hf
  have hl := K.hl
  have hh := K.hh
  have hb := K.hb
  have nf := K.nf
  have nl := K.nl
  have nh := K.nh
  have hsz := K.sz
  have zf : (W.c i).c.fk.length ≤ 1000 := by omega
  have zl : (W.c i).lkv.length ≤ 1000 := by omega
  have zh : (W.c i).hkv.length ≤ 1000 := by omega
  have zb : (W.c i).bvs.length ≤ 1000 := by have := strs_len hb; omega
  have hlk : ∀ v, valueAt (W.c i).lkv x = some v → v = .bool true ∧ ∃ y, valueAt (W.c i).c.fk x = some y := fun v hv => by
    rcases K.locks x with ⟨h1, _⟩ | ⟨h1, _, h3⟩
    · rw [h1] at hv; cases hv
    · rw [h1] at hv; cases hv
      exact ⟨rfl, Option.isSome_iff_exists.mp h3⟩
  clear hsz
  revert X; k_fill; intro X
  conv in tryStmt => whnf
  unfold lawEnv at *
  conv in (occs := *) lawScope => all_goals whnf
  dsimp only
  refine wpAny_Try_except ?_
  change wpAny _ _ _ _ (TryE w _ _ Q E) s
  rcases cell_cases K x with ⟨y, hyL, hyD⟩ | ⟨hn, hn2, hk1, hk2⟩
  · k_steps
    refine handled B X T fun h8 tk8 m8 tt8 F8 N8 ht8 hK8 => ?_
    exact done _ _ _ W wl y _ _ F8 (news_sub N8 fun p hp => .tail _ (.tail _ (.tail _ hp))) (StepOk.idle O offT) ((hK8 (Str.ofString "said") rfl).trans rfl) ht8 (Keep.trans (m' := _) (by walk_at "mine_keep") (hK8.more rfl))
  · have ho : ∀ p ∈ (S, So) :: (cL, oL) :: others w (W.c i) wl, ∀ r ∈ (W.c i).led w, p.1 ≠ r.1 := fun p hp r hr => by
      rcases List.mem_cons.mp hp with rfl | hp
      · exact (offT r (O.sub i hi r hr) _ (.head _)).symm
      rcases List.mem_cons.mp hp with rfl | hp
      · exact (offT r (O.sub i hi r hr) _ (.tail _ (.head _))).symm
      · exact (mem_others.mp hp).2 r hr
    have N1 : News h₀ L s.heap (((W.c i).c.e, instObj 163 (W.c i).c.d) :: ((W.c i).c.d, (W.c i).c.dct w) :: ((W.c i).c.f, (W.c i).c.fo) :: ((W.c i).c.l, (W.c i).lo) :: ((W.c i).t, PySem.W.listOf #[.ref (W.c i).h, .ref (W.c i).b, .ref (W.c i).sh] (W.c i).nt) :: ((W.c i).h, (W.c i).ho) :: ((W.c i).b, PySem.W.listOf (W.c i).bvs.toArray (W.c i).nb) :: ((W.c i).sh, PySem.W.listOf #[.bool (W.c i).c.lk] (W.c i).ns) :: (S, So) :: (cL, oL) :: others w (W.c i) wl) := cell_news N (O.sub i hi)
    have rW : (Wa, PySem.W.listOf ((List.range W.n).map fun j => Value.ref (W.c j).t).toArray nW) ∈ (S, So) :: (cL, oL) :: others w (W.c i) wl := .tail _ (.tail _ (mem_others.mpr ⟨mW, fun r hr => (O.disF i hi r hr _ fW).symm⟩))
    have rR : (Ro, PySem.W.listOf ((List.range W.n).map fun j => Value.ref (W.c j).c.e).toArray nR) ∈ (S, So) :: (cL, oL) :: others w (W.c i) wl := .tail _ (.tail _ (mem_others.mpr ⟨mR, fun r hr => (O.disF i hi r hr _ fR).symm⟩))
    have rcW : (cW, oW) ∈ (S, So) :: (cL, oL) :: others w (W.c i) wl := .tail _ (.tail _ (mem_others.mpr ⟨mcW, fun r hr => (O.disF i hi r hr _ fcW).symm⟩))
    clear N mW mR mcW m1 m2 m3 m4 m5 m6 m7 m8
    have od : ∀ p ∈ (S, So) :: (cL, oL) :: others w (W.c i) wl, p.1 ≠ (W.c i).c.d := fun p hp => ho p hp _ (.tail _ (.head _))
    have of : ∀ p ∈ (S, So) :: (cL, oL) :: others w (W.c i) wl, p.1 ≠ (W.c i).c.f := fun p hp => ho p hp _ (.tail _ (.tail _ (.head _)))
    have ol : ∀ p ∈ (S, So) :: (cL, oL) :: others w (W.c i) wl, p.1 ≠ (W.c i).c.l := fun p hp => ho p hp _ (.tail _ (.tail _ (.tail _ (.head _))))
    have oh : ∀ p ∈ (S, So) :: (cL, oL) :: others w (W.c i) wl, p.1 ≠ (W.c i).h := fun p hp => ho p hp _ (.tail _ (.tail _ (.tail _ (.tail _ (.tail _ (.head _))))))
    have ob : ∀ p ∈ (S, So) :: (cL, oL) :: others w (W.c i) wl, p.1 ≠ (W.c i).b := fun p hp => ho p hp _ (.tail _ (.tail _ (.tail _ (.tail _ (.tail _ (.tail _ (.head _)))))))
    have os : ∀ p ∈ (S, So) :: (cL, oL) :: others w (W.c i) wl, p.1 ≠ (W.c i).sh := fun p hp => ho p hp _ (.tail _ (.tail _ (.tail _ (.tail _ (.tail _ (.tail _ (.tail _ (.head _))))))))
    have hsub : ∀ {q : Cl} {new : List (Addr × Obj)} {all : List (Addr × Obj)} {h7 : Heap}, News h₀ L h7 all → (∀ p ∈ q.led w, p ∈ all) → (∀ p ∈ new, p ∈ all) → (∀ p ∈ (S, So) :: (cL, oL) :: others w (W.c i) wl, p ∈ all) → News h₀ L h7 ((S, So) :: (cL, oL) :: (q.led w ++ (new ++ others w (W.c i) wl))) := fun N7 a1 a2 a3 => news_sub N7 fun p hp => by
      rcases List.mem_cons.mp hp with rfl | hp
      · exact a3 _ (.head _)
      rcases List.mem_cons.mp hp with rfl | hp
      · exact a3 _ (.tail _ (.head _))
      rcases List.mem_append.mp hp with hp | hp
      · exact a1 p hp
      rcases List.mem_append.mp hp with hp | hp
      · exact a2 p hp
      · exact a3 p (.tail _ (.tail _ hp))
    generalize hrest : (S, So) :: (cL, oL) :: others w (W.c i) wl = rest at N1 rW rR rcW od of ol oh ob os ho
    k_steps
    subst hrest
    rename News _ _ _ _ => N7
    obtain ⟨W', wl', N8, st⟩ := set_done O hi offT (by assumption) (by assumption) N7 (by assumption) (by assumption) (by assumption)
    exact done _ _ _ W' wl' _ _ _ (by assumption) N8 st rfl rfl (by walk_at "mine_keep")
set_option maxHeartbeats 8000000 in
theorem try_kind5 {W : Wd} {z i nR nW nA : Nat} {wl : List (Addr × Obj)} {S : Addr} {So oL oW : Obj} {Ro Wa Ab : Addr} {avs : List Value} {x : Str} {f : Int} {tkk ta tx tf t1 t2 : Tok}
    (B : Below callerA h₀ [] h₀) (X : (hd.heap_39 w.params).In h₀) (T : Top hd.view_39 (looseW hd.view_39 []) mean mg mb h₀)
    (O : WOk w W z wl) (hz : z ≤ 20) (hi : i < W.n)
    (F : Fr h₀ L s.heap m) (N : News h₀ L s.heap ((S, So) :: (cL, oL) :: wl)) (offT : ∀ p ∈ wl, ∀ r ∈ [(S, So), (cL, oL)], p.1 ≠ r.1) (hoW : oW.data = .cell (some (.ref Wa)))
    (fR : (Ro, PySem.W.listOf ((List.range W.n).map fun j => Value.ref (W.c j).c.e).toArray nR) ∈ W.fix)
    (fW : (Wa, PySem.W.listOf ((List.range W.n).map fun j => Value.ref (W.c j).t).toArray nW) ∈ W.fix)
    (fA : (Ab, PySem.W.listOf avs.toArray nA) ∈ W.fix) (hav0 : IntsAre avs (aboves W)) (fcW : (cW, oW) ∈ W.fix) (hx : x.length ≤ 1000)
    (H : HoldsL [(Str.ofString "kind", .int 5 tkk), (Str.ofString "at", .int (i : Int) ta), (Str.ofString "name", .str x tx), (Str.ofString "figure", .int f tf), (Str.ofString "said", .str (Str.ofString "") t1), (Str.ofString "told", .str (Str.ofString "") t2),
      (Str.ofString "held", .ref (W.c i).h), (Str.ofString "bound", .ref (W.c i).b), (Str.ofString "shut", .ref (W.c i).sh), (Str.ofString "rows", .ref Ro), (Str.ofString "above", .ref Ab)] m)
    (hE0 : PassesOwn (model PySem.Challenge.rw_ov0043_01.row.prog w) (callerA.deeper (lawEnv L a ccd cL cW)) (lawEnv L a ccd cL cW) E)
    (done : ∀ h' tk' m' W' wl' y t1' t2', Fr h₀ L h' m' → News h₀ L h' ((S, So) :: (cL, oL) :: wl') → StepOk w [(S, So), (cL, oL)] W (z + 1) wl W' wl' → m' (Str.ofString "said") = some (.str y t1') → m' (Str.ofString "told") = some (.str y t2') →
      Keep [Str.ofString "said", Str.ofString "told", Str.ofString "refusal", Str.ofString "spot", Str.ofString "there"] m' m → Q .next { s with heap := h', toks := tk' }) :
    wpAny (model PySem.Challenge.rw_ov0043_01.row.prog w) (callerA.deeper (lawEnv L a ccd cL cW)) (exec tryStmt (lawEnv L a ccd cL cW)) Q E s := by
  have F0 := fr_upds F H
  clear F
  dsimp only [upds] at F0
  have K := O.ok i hi
  have ord := ord8 K
  have mW := O.subF _ fW
  have mR := O.subF _ fR
  have mA := O.subF _ fA
  have mcW := O.subF _ fcW
  have m1 := O.m1 hi
  have m2 := O.m2 hi
  have m3 := O.m3 hi
  have m4 := O.m4 hi
  have m5 := O.m5 hi
  have m6 := O.m6 hi
  have m7 := O.m7 hi
  have m8 := O.m8 hi
  have hfW : Wa ≠ (W.c i).h := (O.disF i hi _ (.tail _ (.tail _ (.tail _ (.tail _ (.tail _ (.head _)))))) _ fW).symm
  have gR : ((List.range W.n).map fun j => Value.ref (W.c j).c.e).toArray[i]? = some (.ref (W.c i).c.e) := by simp [hi]
  have gW : ((List.range W.n).map fun j => Value.ref (W.c j).t).toArray[i]? = some (.ref (W.c i).t) := by simp [hi]
  have hsR : ((List.range W.n).map fun j => Value.ref (W.c j).c.e).toArray.size ≤ 1000 := by have := O.top; simp; omega
  have hsW : ((List.range W.n).map fun j => Value.ref (W.c j).t).toArray.size ≤ 1000 := by have := O.top; simp; omega
  have hf := K.hf
  have hl := K.hl
  have hh := K.hh
  have hb := K.hb
  have nf := K.nf
  have nl := K.nl
  have nh := K.nh
  have hsz := K.sz
  have zf : (W.c i).c.fk.length ≤ 1000 := by omega
  have zl : (W.c i).lkv.length ≤ 1000 := by omega
  have zh : (W.c i).hkv.length ≤ 1000 := by omega
  have zb : (W.c i).bvs.length ≤ 1000 := by have := strs_len hb; omega
  have hlk : ∀ v, valueAt (W.c i).lkv x = some v → v = .bool true ∧ ∃ y, valueAt (W.c i).c.fk x = some y := fun v hv => by
    rcases K.locks x with ⟨h1, _⟩ | ⟨h1, _, h3⟩
    · rw [h1] at hv; cases hv
    · rw [h1] at hv; cases hv
      exact ⟨rfl, Option.isSome_iff_exists.mp h3⟩
  clear hsz
  revert X; k_fill; intro X
  conv in tryStmt => whnf
  unfold lawEnv at *
  conv in (occs := *) lawScope => all_goals whnf
  dsimp only
  refine wpAny_Try_except ?_
  change wpAny _ _ _ _ (TryE w _ _ Q E) s
  rcases cell_cases K x with ⟨y, hyL, hyD⟩ | ⟨hn, hn2, hk1, hk2⟩
  · k_steps
    refine handled B X T fun h8 tk8 m8 tt8 F8 N8 ht8 hK8 => ?_
    exact done _ _ _ W wl y _ _ F8 (news_sub N8 fun p hp => .tail _ (.tail _ (.tail _ hp))) (StepOk.idle O offT) ((hK8 (Str.ofString "said") rfl).trans rfl) ht8 (Keep.trans (m' := _) (by walk_at "mine_keep") (hK8.more rfl))
  · have ho : ∀ p ∈ (S, So) :: (cL, oL) :: others w (W.c i) wl, ∀ r ∈ (W.c i).led w, p.1 ≠ r.1 := fun p hp r hr => by
      rcases List.mem_cons.mp hp with rfl | hp
      · exact (offT r (O.sub i hi r hr) _ (.head _)).symm
      rcases List.mem_cons.mp hp with rfl | hp
      · exact (offT r (O.sub i hi r hr) _ (.tail _ (.head _))).symm
      · exact (mem_others.mp hp).2 r hr
    have N1 : News h₀ L s.heap (((W.c i).c.e, instObj 163 (W.c i).c.d) :: ((W.c i).c.d, (W.c i).c.dct w) :: ((W.c i).c.f, (W.c i).c.fo) :: ((W.c i).c.l, (W.c i).lo) :: ((W.c i).t, PySem.W.listOf #[.ref (W.c i).h, .ref (W.c i).b, .ref (W.c i).sh] (W.c i).nt) :: ((W.c i).h, (W.c i).ho) :: ((W.c i).b, PySem.W.listOf (W.c i).bvs.toArray (W.c i).nb) :: ((W.c i).sh, PySem.W.listOf #[.bool (W.c i).c.lk] (W.c i).ns) :: (S, So) :: (cL, oL) :: others w (W.c i) wl) := cell_news N (O.sub i hi)
    have rW : (Wa, PySem.W.listOf ((List.range W.n).map fun j => Value.ref (W.c j).t).toArray nW) ∈ (S, So) :: (cL, oL) :: others w (W.c i) wl := .tail _ (.tail _ (mem_others.mpr ⟨mW, fun r hr => (O.disF i hi r hr _ fW).symm⟩))
    have rR : (Ro, PySem.W.listOf ((List.range W.n).map fun j => Value.ref (W.c j).c.e).toArray nR) ∈ (S, So) :: (cL, oL) :: others w (W.c i) wl := .tail _ (.tail _ (mem_others.mpr ⟨mR, fun r hr => (O.disF i hi r hr _ fR).symm⟩))
    have rcW : (cW, oW) ∈ (S, So) :: (cL, oL) :: others w (W.c i) wl := .tail _ (.tail _ (mem_others.mpr ⟨mcW, fun r hr => (O.disF i hi r hr _ fcW).symm⟩))
    clear N mW mR mcW m1 m2 m3 m4 m5 m6 m7 m8
    have od : ∀ p ∈ (S, So) :: (cL, oL) :: others w (W.c i) wl, p.1 ≠ (W.c i).c.d := fun p hp => ho p hp _ (.tail _ (.head _))
    have of : ∀ p ∈ (S, So) :: (cL, oL) :: others w (W.c i) wl, p.1 ≠ (W.c i).c.f := fun p hp => ho p hp _ (.tail _ (.tail _ (.head _)))
    have ol : ∀ p ∈ (S, So) :: (cL, oL) :: others w (W.c i) wl, p.1 ≠ (W.c i).c.l := fun p hp => ho p hp _ (.tail _ (.tail _ (.tail _ (.head _))))
    have oh : ∀ p ∈ (S, So) :: (cL, oL) :: others w (W.c i) wl, p.1 ≠ (W.c i).h := fun p hp => ho p hp _ (.tail _ (.tail _ (.tail _ (.tail _ (.tail _ (.head _))))))
    have ob : ∀ p ∈ (S, So) :: (cL, oL) :: others w (W.c i) wl, p.1 ≠ (W.c i).b := fun p hp => ho p hp _ (.tail _ (.tail _ (.tail _ (.tail _ (.tail _ (.tail _ (.head _)))))))
    have os : ∀ p ∈ (S, So) :: (cL, oL) :: others w (W.c i) wl, p.1 ≠ (W.c i).sh := fun p hp => ho p hp _ (.tail _ (.tail _ (.tail _ (.tail _ (.tail _ (.tail _ (.tail _ (.head _))))))))
    have hsub : ∀ {q : Cl} {new : List (Addr × Obj)} {all : List (Addr × Obj)} {h7 : Heap}, News h₀ L h7 all → (∀ p ∈ q.led w, p ∈ all) → (∀ p ∈ new, p ∈ all) → (∀ p ∈ (S, So) :: (cL, oL) :: others w (W.c i) wl, p ∈ all) → News h₀ L h7 ((S, So) :: (cL, oL) :: (q.led w ++ (new ++ others w (W.c i) wl))) := fun N7 a1 a2 a3 => news_sub N7 fun p hp => by
      rcases List.mem_cons.mp hp with rfl | hp
      · exact a3 _ (.head _)
      rcases List.mem_cons.mp hp with rfl | hp
      · exact a3 _ (.tail _ (.head _))
      rcases List.mem_append.mp hp with hp | hp
      · exact a1 p hp
      rcases List.mem_append.mp hp with hp | hp
      · exact a2 p hp
      · exact a3 p (.tail _ (.tail _ hp))
    generalize hrest : (S, So) :: (cL, oL) :: others w (W.c i) wl = rest at N1 rW rR rcW od of ol oh ob os ho
    k_steps
    subst hrest
    rename News _ _ _ _ => N7
    obtain ⟨W', wl', N8, st⟩ := set_done O hi offT (by assumption) (by assumption) N7 (by assumption) (by assumption) (by assumption)
    exact done _ _ _ W' wl' _ _ _ (by assumption) N8 st rfl rfl (by walk_at "mine_keep")
end
end
/-! part C11 -/
theorem part_C11 : True := by w_top off; (try walk1); trivial
section
theorem tail11 {α : Type} {a b1 b2 b3 b4 b5 b6 b7 b8 b9 b10 b11 : α} {l : List α} (h : a ∈ l) : a ∈ b1 :: b2 :: b3 :: b4 :: b5 :: b6 :: b7 :: b8 :: b9 :: b10 :: b11 :: l :=
  .tail _ (.tail _ (.tail _ (.tail _ (.tail _ (.tail _ (.tail _ (.tail _ (.tail _ (.tail _ (.tail _ h))))))))))
noncomputable def Exit1 (h₀ : Heap) (L : Addr) (m : Str → Option Value) (s : Shared) (W : Wd) (x : Str) (r : List Nat) (all : List (Addr × Obj)) (f9 : Flow) (s2 : Shared) : Prop :=
  f9 = .next ∧ ∃ (k : Nat) (v : Int) (tv : Tok) (h' : Heap) (tk' : Nat) (m' : Str → Option Value), s2 = { s with heap := h', toks := tk' } ∧ Fr h₀ L h' m' ∧ News h₀ L h' all ∧ k < W.n ∧ (if (0 : Int) > v then 0 else v) = (k : Int) ∧ k = (r.find? (hasJ W x)).getD 0 ∧ m' (Str.ofString "spot") = some (.int v tv) ∧ Keep [Str.ofString "spot"] m' m
theorem find_map {W : Wd} {w : World} {z : Nat} {wl : List (Addr × Obj)} (O : WOk w W z wl) (x : Str) : ∀ r : List Nat, (∀ j ∈ r, j < W.n) → (r.map fun j => (W.c j).c).find? (Nd.has x) = (r.find? (hasJ W x)).map fun j => (W.c j).c := by
  intro r
  induction r with
  | nil => intro _; rfl
  | cons j r ih =>
    intro h
    have e : hasJ W x j = Nd.has x (W.c j).c := (O.ok j (h j (.head _))).both x
    rw [List.map_cons, List.find?_cons, List.find?_cons, e]
    cases Nd.has x (W.c j).c with
    | true => rfl
    | false => exact ih fun k hk => h k (.tail _ hk)
theorem WOk.chain_in {w : World} {W : Wd} {z : Nat} {wl cur : List (Addr × Obj)} (O : WOk w W z wl) (hs : ∀ j, j < W.n → ((W.c j).c.e, instObj 163 (W.c j).c.d) ∈ cur ∧ ((W.c j).c.d, (W.c j).c.dct w) ∈ cur ∧ ((W.c j).c.f, (W.c j).c.fo) ∈ cur) {i : Nat} {l : List Nat} (h : Path W i l) : Chain w cur (.ref (W.c i).c.e) (l.map fun j => (W.c j).c) := by
  have one : ∀ {i : Nat} {r : List Nd}, i < W.n → ((W.c i).c.num = 0 → r = []) → Chain w cur (W.c i).c.par r → Chain w cur (.ref (W.c i).c.e) ((W.c i).c :: r) := fun hi hr hc =>
    .cons (hs _ hi).1 (hs _ hi).2.1 (hs _ hi).2.2 (O.ok _ hi).hf (O.ok _ hi).nf (O.ok _ hi).refs hr hc
  induction h with
  | root =>
    refine one O.pos (fun _ => rfl) ?_
    rw [O.par0]
    exact .nil
  | @up i l h0 hi hp ih =>
    refine one hi (fun q => ?_) ?_
    · rw [(O.ok i hi).num] at q; omega
    · rw [O.par i h0 hi]
      exact ih
theorem max_at {prog : Program} {w : World} {A : Around} {E : Value → Shared → Prop} {s : Shared} {h₀ : Heap} {L : Addr} {m : Str → Option Value} {news : List (Addr × Obj)} {v : Int} {k : Nat} {t u : Tok} {Q : Value → Shared → Prop} (hh : A.handled = none) (F : Fr h₀ L s.heap m) (N : News h₀ L s.heap news) (hv : (if (0 : Int) > v then 0 else v) = (k : Int))
    (h : ∀ h' tk tt, Fr h₀ L h' m → News h₀ L h' news → Q (.int (k : Int) tt) { s with heap := h', toks := tk }) :
    wpAny (model prog w) A (call (.builtin "max") [.int v t, .int 0 u]) Q E s :=
  max_two_N hh F N fun h' tk F' N' => by
    rw [hv]
    exact h h' tk _ F' N'
local macro_rules | `(tactic| walk_at "call builtin:max") => `(tactic| k_extra "mine_w25")
local macro_rules | `(tactic| walk_at "subscriptTail") => `(tactic| k_extra "mine_w29")
section
variable {w : World} {mean : ExcName → Option Value} {mg mb : Str → Option Value} {a : Addr} {ccd : Value} {h₀ : Heap} {L cL cW : Addr} {m : Str → Option Value} {s : Shared} {Q : Flow → Shared → Prop} {E : Value → Shared → Prop}
set_option maxHeartbeats 8000000 in
theorem try_kind1 {W : Wd} {z i nR nW nA : Nat} {wl : List (Addr × Obj)} {S : Addr} {So oL oW : Obj} {Ro Wa Ab : Addr} {avs : List Value} {x : Str} {f : Int} {tkk ta tx tf t1 t2 : Tok}
    (B : Below callerA h₀ [] h₀) (X : (hd.heap_39 w.params).In h₀) (T : Top hd.view_39 (looseW hd.view_39 []) mean mg mb h₀)
    (O : WOk w W z wl) (hz : z ≤ 20) (hi : i < W.n)
    (F : Fr h₀ L s.heap m) (N : News h₀ L s.heap ((S, So) :: (cL, oL) :: wl)) (offT : ∀ p ∈ wl, ∀ r ∈ [(S, So), (cL, oL)], p.1 ≠ r.1) (hoW : oW.data = .cell (some (.ref Wa)))
    (fR : (Ro, PySem.W.listOf ((List.range W.n).map fun j => Value.ref (W.c j).c.e).toArray nR) ∈ W.fix)
    (fW : (Wa, PySem.W.listOf ((List.range W.n).map fun j => Value.ref (W.c j).t).toArray nW) ∈ W.fix)
    (fA : (Ab, PySem.W.listOf avs.toArray nA) ∈ W.fix) (hav0 : IntsAre avs (aboves W)) (fcW : (cW, oW) ∈ W.fix) (hx : x.length ≤ 1000)
    (H : HoldsL [(Str.ofString "kind", .int 1 tkk), (Str.ofString "at", .int (i : Int) ta), (Str.ofString "name", .str x tx), (Str.ofString "figure", .int f tf), (Str.ofString "said", .str (Str.ofString "") t1), (Str.ofString "told", .str (Str.ofString "") t2),
      (Str.ofString "held", .ref (W.c i).h), (Str.ofString "bound", .ref (W.c i).b), (Str.ofString "shut", .ref (W.c i).sh), (Str.ofString "rows", .ref Ro), (Str.ofString "above", .ref Ab)] m)
    (hE0 : PassesOwn (model PySem.Challenge.rw_ov0043_01.row.prog w) (callerA.deeper (lawEnv L a ccd cL cW)) (lawEnv L a ccd cL cW) E)
    (done : ∀ h' tk' m' W' wl' y t1' t2', Fr h₀ L h' m' → News h₀ L h' ((S, So) :: (cL, oL) :: wl') → StepOk w [(S, So), (cL, oL)] W (z + 1) wl W' wl' → m' (Str.ofString "said") = some (.str y t1') → m' (Str.ofString "told") = some (.str y t2') →
      Keep [Str.ofString "said", Str.ofString "told", Str.ofString "refusal", Str.ofString "spot", Str.ofString "there"] m' m → Q .next { s with heap := h', toks := tk' }) :
    wpAny (model PySem.Challenge.rw_ov0043_01.row.prog w) (callerA.deeper (lawEnv L a ccd cL cW)) (exec tryStmt (lawEnv L a ccd cL cW)) Q E s := by
  have F0 := fr_upds F H
  clear F
  dsimp only [upds] at F0
  have mW := O.subF _ fW
  have mR := O.subF _ fR
  have mA := O.subF _ fA
  have mcW := O.subF _ fcW
  have gR : ((List.range W.n).map fun j => Value.ref (W.c j).c.e).toArray[i]? = some (.ref (W.c i).c.e) := by simp [hi]
  have hsR : ((List.range W.n).map fun j => Value.ref (W.c j).c.e).toArray.size ≤ 1000 := by have := O.top; simp; omega
  have hsW : ((List.range W.n).map fun j => Value.ref (W.c j).t).toArray.size ≤ 1000 := by have := O.top; simp; omega
  have hsA : avs.toArray.size ≤ 1000 := by have h1 := hav0.length; have := O.top; simp [aboves] at h1; simp; omega
  obtain ⟨l, hp⟩ := Path.ex O (i + 1) i (Nat.lt_succ_self _) hi
  obtain ⟨r, rfl⟩ := hp.head
  have hrn : ∀ j ∈ r, j < W.n := fun j hj => (hp.lt O j (.tail _ hj)).1
  have hr : (r = [] ∧ i = 0) ∨ (0 < i ∧ Path W (W.up i) r) := by
    cases hp with
    | root => exact .inl ⟨rfl, rfl⟩
    | up h0 _ hp2 => exact .inr ⟨h0, hp2⟩
  obtain ⟨ta9, gA⟩ := aboves_at hav0 hi
  revert X; k_fill; intro X
  conv in tryStmt => whnf
  unfold lawEnv at *
  conv in (occs := *) lawScope => all_goals whnf
  dsimp only
  refine wpAny_Try_except ?_
  change wpAny _ _ _ _ (TryE w _ _ Q E) s
  walk_at "mine_toWhile"
  rename Fr _ _ _ _ => F1
  rename News _ _ _ _ => N1
  refine wpAny_mono (Q := Exit1 h₀ L m s W x r ((S, So) :: (cL, oL) :: wl)) ?_ ?_ (fun _ _ e => e)
  · have hfin : ∀ (u : Str → Option Value) (v : Int) (tv : Tok), Keep [Str.ofString "spot"] (fun y => if y = Str.ofString "spot" then some (Value.int v tv) else fg [] u (fun y => if y = Str.ofString "spot" then some (Value.int (if i = 0 then -1 else (W.up i : Int)) ta9) else upds [(Str.ofString "kind", .int 1 tkk), (Str.ofString "at", .int (i : Int) ta), (Str.ofString "name", .str x tx), (Str.ofString "figure", .int f tf), (Str.ofString "said", .str (Str.ofString "") t1), (Str.ofString "told", .str (Str.ofString "") t2),
      (Str.ofString "held", .ref (W.c i).h), (Str.ofString "bound", .ref (W.c i).b), (Str.ofString "shut", .ref (W.c i).sh), (Str.ofString "rows", .ref Ro), (Str.ofString "above", .ref Ab)] m y) y) m := fun u v tv => by
      intro z hz
      have h5 := congrFun (upds_self H) z
      simp only [List.contains_cons, List.contains_nil, Bool.or_false, beq_eq_false_iff_ne, ne_eq] at hz
      dsimp only [fg]
      simp only [hz, if_false, List.contains_nil, Bool.false_eq_true]
      exact h5
    with_unfolding_all refine while_rule (α := Int × Tok × List Nat) [] (fun n a => a.2.2.length = n ∧ (a.2.2 = [] ∧ a.1 = -1 ∨ ∃ j r', a.2.2 = j :: r' ∧ Path W j (j :: r') ∧ a.1 = (j : Int)) ∧ (a.2.2.find? (hasJ W x)).getD 0 = (r.find? (hasJ W x)).getD 0) (fun a => [(Str.ofString "spot", .int a.1 a.2.1)]) (fun _ => (S, So) :: (cL, oL) :: wl) ((if i = 0 then -1 else (W.up i : Int)), ta9, r) F1 N1 ⟨rfl, trivial⟩ ⟨rfl, ?_, rfl⟩ ?_ PySem.PassesOwn.looking
    · rcases hr with ⟨rfl, rfl⟩ | ⟨h0, hp2⟩
      · exact .inl ⟨rfl, rfl⟩
      · obtain ⟨r3, rfl⟩ := hp2.head
        exact .inr ⟨_, r3, rfl, hp2, if_neg (by omega)⟩
    clear F1 N1
    intro n9 a9 u9 h9 tk9 hP9 F9 N9
    obtain ⟨sp9, ts9, r9⟩ := a9
    obtain ⟨hl9, hr9, hq9⟩ := hP9
    dsimp only [upds, fg] at F9 hl9 hr9 hq9 N9
    rcases hr9 with ⟨rfl, rfl⟩ | ⟨j, r9, rfl, hpj, rfl⟩
    · k_steps
      show _ ∧ _
      refine ⟨rfl, 0, -1, ts9, _, _, _, rfl, by assumption, by assumption, O.pos, by decide, hq9, rfl, hfin u9 _ _⟩
    · have hjn : j < W.n := (hpj.lt O j (.head _)).1
      obtain ⟨tb9, hta⟩ := aboves_at hav0 hjn
      have g1 : ((List.range W.n).map fun j => Value.ref (W.c j).t).toArray[j]? = some (.ref (W.c j).t) := by simp [hjn]
      have m5 := O.m5 hjn
      have m6 := O.m6 hjn
      have d6 := (O.ok j hjn).hh
      have n6 := (O.ok j hjn).nh
      have hex : (if (0 : Int) > (j : Int) then 0 else (j : Int)) = (j : Int) := if_neg (by omega)
      rcases Nat.eq_zero_or_pos j with rfl | hj0
      · k_steps
        show _ ∧ _
        refine ⟨rfl, 0, ((0 : Nat) : Int), ts9, _, _, _, rfl, by assumption, by assumption, O.pos, hex, ?_, rfl, hfin u9 _ _⟩
        cases hpj with
        | root =>
          rw [← hq9, List.find?_cons]
          cases hasJ W x 0 <;> rfl
        | up h0 _ _ => exact absurd h0 (Nat.lt_irrefl _)
      · have hj1 : (0 : Int) < (j : Int) := by omega
        cases hv : valueAt (W.c j).hkv x with
        | some v =>
          k_steps
          show _ ∧ _
          refine ⟨rfl, j, (j : Int), ts9, _, _, _, rfl, by assumption, by assumption, hjn, hex, ?_, rfl, hfin u9 _ _⟩
          rw [← hq9, List.find?_cons, show hasJ W x j = true from by simp [hasJ, hv]]
          rfl
        | none =>
          k_steps
          refine WEnd.intro (_, tb9, r9) (by assumption) (by assumption) (fun _ h => h) (by rw [← hl9]; exact Nat.lt_succ_self _) ⟨rfl, ?_, ?_⟩ ⟨rfl, trivial⟩ ?_
          · cases hpj with
            | root => exact absurd hj0 (Nat.lt_irrefl _)
            | up h0 _ hp2 =>
              obtain ⟨r3, rfl⟩ := hp2.head
              exact .inr ⟨_, r3, rfl, hp2, if_neg (by omega)⟩
          · rw [← hq9, List.find?_cons, show hasJ W x j = false from by simp [hasJ, hv]]
          · walk_at "mine_same"
  · clear F1 N1
    rintro f9 s2 ⟨rfl, k, sp, tsp, hW, tkW, mW9, rfl, F3, N, hk, hmx, hkr, hspot, hkeep⟩
    have H3 : HoldsL ((Str.ofString "spot", Value.int sp tsp) :: _) mW9 := ⟨hspot, hkeep.holds H rfl⟩
    have F4 := fr_upds F3 H3
    dsimp only [upds] at F4
    clear F3
    have K := O.ok k hk
    have ord := ord8 K
    have m1 := O.m1 hk
    have m2 := O.m2 hk
    have m3 := O.m3 hk
    have m4 := O.m4 hk
    have m5 := O.m5 hk
    have m6 := O.m6 hk
    have m7 := O.m7 hk
    have m8 := O.m8 hk
    have hfW : Wa ≠ (W.c k).h := (O.disF k hk _ (.tail _ (.tail _ (.tail _ (.tail _ (.tail _ (.head _)))))) _ fW).symm
    have gW : ((List.range W.n).map fun j => Value.ref (W.c j).t).toArray[k]? = some (.ref (W.c k).t) := by simp [hk]
    have gR0 : ((List.range W.n).map fun j => Value.ref (W.c j).c.e).toArray[0]? = some (.ref (W.c 0).c.e) := by have := O.pos; simp [this]
    have hf := K.hf
    have hl := K.hl
    have hh := K.hh
    have hb := K.hb
    have nf := K.nf
    have nl := K.nl
    have nh := K.nh
    have hsz := K.sz
    have zf : (W.c k).c.fk.length ≤ 1000 := by omega
    have zl : (W.c k).lkv.length ≤ 1000 := by omega
    have zh : (W.c k).hkv.length ≤ 1000 := by omega
    have hlk : ∀ v, valueAt (W.c k).lkv x = some v → v = .bool true ∧ ∃ y, valueAt (W.c k).c.fk x = some y := fun v hv => by
      rcases K.locks x with ⟨h1, _⟩ | ⟨h1, _, h3⟩
      · rw [h1] at hv; cases hv
      · rw [h1] at hv; cases hv
        exact ⟨rfl, Option.isSome_iff_exists.mp h3⟩
    clear hsz
    have hChT : ∀ cur : List (Addr × Obj), (∀ j, j < W.n → ((W.c j).c.e, instObj 163 (W.c j).c.d) ∈ cur ∧ ((W.c j).c.d, (W.c j).c.dct w) ∈ cur ∧ ((W.c j).c.f, (W.c j).c.fo) ∈ cur) → Chain w cur (W.c i).c.par (r.map fun j => (W.c j).c) := fun cur hs => by
      rcases hr with ⟨rfl, rfl⟩ | ⟨h0, hp2⟩
      · rw [O.par0]; exact .nil
      · rw [O.par i h0 hi]; exact O.chain_in hs hp2
    have hz0 : (W.c i).c.num = 0 → (r.map fun j => (W.c j).c) = [] := fun q => by
      rw [(O.ok i hi).num] at q
      rcases hr with ⟨rfl, _⟩ | ⟨h0, _⟩
      · rfl
      · omega
    have ht0 : (W.c 0).c.num = 0 := (O.ok 0 O.pos).num
    have he : ((r.map fun j => (W.c j).c).find? (Nd.has x)).getD (W.c 0).c = (W.c k).c := by
      rw [find_map O x r hrn, hkr]
      cases r.find? (hasJ W x) <;> rfl
    rcases cell_cases K x with ⟨y, hyL, hyD⟩ | ⟨hn, hn2, hk1, hk2⟩
    · walk_at "mine_to109"
      k_dflt (refine' assign_no (c := (W.c i).c) (t := (W.c 0).c) (e := (W.c k).c) (r := r.map fun j => (W.c j).c) B (by assumption) X (by assumption) T rfl (by decide) (.tail _ (.tail _ (.tail _ (.tail _ (.tail _ m1))))) (.tail _ (.tail _ (.tail _ (.tail _ (.tail _ m2))))) (.tail _ (.tail _ (.tail _ (.tail _ (.tail _ m3))))) (.tail _ (.tail _ (.tail _ (.tail _ (.tail _ m4))))) (.tail _ (.tail _ (.tail _ (.tail _ (.tail _ (O.m1 hi)))))) (.tail _ (.tail _ (.tail _ (.tail _ (.tail _ (O.m2 hi)))))) (hChT _ fun j hj => ⟨.tail _ (.tail _ (.tail _ (.tail _ (.tail _ (O.m1 hj))))), .tail _ (.tail _ (.tail _ (.tail _ (.tail _ (O.m2 hj))))), .tail _ (.tail _ (.tail _ (.tail _ (.tail _ (O.m3 hj)))))⟩) hz0 (.tail _ (.tail _ (.tail _ (.tail _ (.tail _ (O.m1 O.pos)))))) (.tail _ (.tail _ (.tail _ (.tail _ (.tail _ (O.m2 O.pos)))))) ht0 he hf hl nf nl ?n1 ?n2 ?n3 zf hx hlk rfl hyD ?er; (case n1 => k_ne); (case n2 => k_ne); (case n3 => k_ne))
      refine handled B X T fun h8 tk8 m8 tt8 F8 N8 ht8 hK8 => ?_
      exact done _ _ _ W wl y _ _ F8 (news_sub N8 fun p hp => .tail _ (.tail _ (.tail _ hp))) (StepOk.idle O offT) ((hK8 (Str.ofString "said") rfl).trans rfl) ht8 (Keep.trans (m' := _) (hkeep.more rfl |>.trans (by walk_at "mine_keep3")) (hK8.more rfl))
    · have ho : ∀ p ∈ (S, So) :: (cL, oL) :: others w (W.c k) wl, ∀ r ∈ (W.c k).led w, p.1 ≠ r.1 := fun p hp r hr => by
        rcases List.mem_cons.mp hp with rfl | hp
        · exact (offT r (O.sub k hk r hr) _ (.head _)).symm
        rcases List.mem_cons.mp hp with rfl | hp
        · exact (offT r (O.sub k hk r hr) _ (.tail _ (.head _))).symm
        · exact (mem_others.mp hp).2 r hr
      have N1 : News h₀ L hW (((W.c k).c.e, instObj 163 (W.c k).c.d) :: ((W.c k).c.d, (W.c k).c.dct w) :: ((W.c k).c.f, (W.c k).c.fo) :: ((W.c k).c.l, (W.c k).lo) :: ((W.c k).t, PySem.W.listOf #[.ref (W.c k).h, .ref (W.c k).b, .ref (W.c k).sh] (W.c k).nt) :: ((W.c k).h, (W.c k).ho) :: ((W.c k).b, PySem.W.listOf (W.c k).bvs.toArray (W.c k).nb) :: ((W.c k).sh, PySem.W.listOf #[.bool (W.c k).c.lk] (W.c k).ns) :: (S, So) :: (cL, oL) :: others w (W.c k) wl) := cell_news N (O.sub k hk)
      have rW : (Wa, PySem.W.listOf ((List.range W.n).map fun j => Value.ref (W.c j).t).toArray nW) ∈ (S, So) :: (cL, oL) :: others w (W.c k) wl := .tail _ (.tail _ (mem_others.mpr ⟨mW, fun r hr => (O.disF k hk r hr _ fW).symm⟩))
      have rR : (Ro, PySem.W.listOf ((List.range W.n).map fun j => Value.ref (W.c j).c.e).toArray nR) ∈ (S, So) :: (cL, oL) :: others w (W.c k) wl := .tail _ (.tail _ (mem_others.mpr ⟨mR, fun r hr => (O.disF k hk r hr _ fR).symm⟩))
      have rcW : (cW, oW) ∈ (S, So) :: (cL, oL) :: others w (W.c k) wl := .tail _ (.tail _ (mem_others.mpr ⟨mcW, fun r hr => (O.disF k hk r hr _ fcW).symm⟩))
      clear N mW mR mcW m1 m2 m3 m4 m5 m6 m7 m8
      have od : ∀ p ∈ (S, So) :: (cL, oL) :: others w (W.c k) wl, p.1 ≠ (W.c k).c.d := fun p hp => ho p hp _ (.tail _ (.head _))
      have of : ∀ p ∈ (S, So) :: (cL, oL) :: others w (W.c k) wl, p.1 ≠ (W.c k).c.f := fun p hp => ho p hp _ (.tail _ (.tail _ (.head _)))
      have ol : ∀ p ∈ (S, So) :: (cL, oL) :: others w (W.c k) wl, p.1 ≠ (W.c k).c.l := fun p hp => ho p hp _ (.tail _ (.tail _ (.tail _ (.head _))))
      have oh : ∀ p ∈ (S, So) :: (cL, oL) :: others w (W.c k) wl, p.1 ≠ (W.c k).h := fun p hp => ho p hp _ (.tail _ (.tail _ (.tail _ (.tail _ (.tail _ (.head _))))))
      have ob : ∀ p ∈ (S, So) :: (cL, oL) :: others w (W.c k) wl, p.1 ≠ (W.c k).b := fun p hp => ho p hp _ (.tail _ (.tail _ (.tail _ (.tail _ (.tail _ (.tail _ (.head _)))))))
      have os : ∀ p ∈ (S, So) :: (cL, oL) :: others w (W.c k) wl, p.1 ≠ (W.c k).sh := fun p hp => ho p hp _ (.tail _ (.tail _ (.tail _ (.tail _ (.tail _ (.tail _ (.tail _ (.head _))))))))
      have hsub : ∀ {q : Cl} {new : List (Addr × Obj)} {all : List (Addr × Obj)} {h7 : Heap}, News h₀ L h7 all → (∀ p ∈ q.led w, p ∈ all) → (∀ p ∈ new, p ∈ all) → (∀ p ∈ (S, So) :: (cL, oL) :: others w (W.c k) wl, p ∈ all) → News h₀ L h7 ((S, So) :: (cL, oL) :: (q.led w ++ (new ++ others w (W.c k) wl))) := fun N7 a1 a2 a3 => news_sub N7 fun p hp => by
        rcases List.mem_cons.mp hp with rfl | hp
        · exact a3 _ (.head _)
        rcases List.mem_cons.mp hp with rfl | hp
        · exact a3 _ (.tail _ (.head _))
        rcases List.mem_append.mp hp with hp | hp
        · exact a1 p hp
        rcases List.mem_append.mp hp with hp | hp
        · exact a2 p hp
        · exact a3 p (.tail _ (.tail _ hp))
      have hJ : ∀ j, j < W.n → j ≠ k → ((W.c j).c.e, instObj 163 (W.c j).c.d) ∈ (S, So) :: (cL, oL) :: others w (W.c k) wl ∧ ((W.c j).c.d, (W.c j).c.dct w) ∈ (S, So) :: (cL, oL) :: others w (W.c k) wl ∧ ((W.c j).c.f, (W.c j).c.fo) ∈ (S, So) :: (cL, oL) :: others w (W.c k) wl := fun j hj hjk => by
        have one : ∀ p ∈ (W.c j).led w, p ∈ (S, So) :: (cL, oL) :: others w (W.c k) wl := fun p hp => .tail _ (.tail _ (mem_others.mpr ⟨O.sub j hj p hp, fun q hq => O.dis j k hj hk hjk p hp q hq⟩))
        exact ⟨one _ (.head _), one _ (.tail _ (.head _)), one _ (.tail _ (.tail _ (.head _)))⟩
      generalize hrest : (S, So) :: (cL, oL) :: others w (W.c k) wl = rest at N1 rW rR rcW od of ol oh ob os ho hJ
      walk_at "mine_to109"
      have hM : ∀ {n1 n2 n3 : Addr × Obj} {ho' : Obj} (j : Nat), j < W.n → ((W.c j).c.e, instObj 163 (W.c j).c.d) ∈ n1 :: n2 :: n3 :: ((W.c k).c.e, instObj 163 (W.c k).c.d) :: ((W.c k).c.d, (W.c k).c.dct w) :: ((W.c k).c.f, (W.c k).c.fo) :: ((W.c k).c.l, (W.c k).lo) :: ((W.c k).t, PySem.W.listOf #[.ref (W.c k).h, .ref (W.c k).b, .ref (W.c k).sh] (W.c k).nt) :: ((W.c k).h, ho') :: ((W.c k).b, PySem.W.listOf (W.c k).bvs.toArray (W.c k).nb) :: ((W.c k).sh, PySem.W.listOf #[.bool (W.c k).c.lk] (W.c k).ns) :: rest ∧
          ((W.c j).c.d, (W.c j).c.dct w) ∈ n1 :: n2 :: n3 :: ((W.c k).c.e, instObj 163 (W.c k).c.d) :: ((W.c k).c.d, (W.c k).c.dct w) :: ((W.c k).c.f, (W.c k).c.fo) :: ((W.c k).c.l, (W.c k).lo) :: ((W.c k).t, PySem.W.listOf #[.ref (W.c k).h, .ref (W.c k).b, .ref (W.c k).sh] (W.c k).nt) :: ((W.c k).h, ho') :: ((W.c k).b, PySem.W.listOf (W.c k).bvs.toArray (W.c k).nb) :: ((W.c k).sh, PySem.W.listOf #[.bool (W.c k).c.lk] (W.c k).ns) :: rest ∧
          ((W.c j).c.f, (W.c j).c.fo) ∈ n1 :: n2 :: n3 :: ((W.c k).c.e, instObj 163 (W.c k).c.d) :: ((W.c k).c.d, (W.c k).c.dct w) :: ((W.c k).c.f, (W.c k).c.fo) :: ((W.c k).c.l, (W.c k).lo) :: ((W.c k).t, PySem.W.listOf #[.ref (W.c k).h, .ref (W.c k).b, .ref (W.c k).sh] (W.c k).nt) :: ((W.c k).h, ho') :: ((W.c k).b, PySem.W.listOf (W.c k).bvs.toArray (W.c k).nb) :: ((W.c k).sh, PySem.W.listOf #[.bool (W.c k).c.lk] (W.c k).ns) :: rest := fun j hj => by
        by_cases hjk : j = k
        · rw [hjk]
          exact ⟨.tail _ (.tail _ (.tail _ (.head _))), .tail _ (.tail _ (.tail _ (.tail _ (.head _)))), .tail _ (.tail _ (.tail _ (.tail _ (.tail _ (.head _)))))⟩
        · obtain ⟨b1, b2, b3⟩ := hJ j hj hjk
          exact ⟨tail11 b1, tail11 b2, tail11 b3⟩
      k_dflt (refine' assign_yes (c := (W.c i).c) (t := (W.c 0).c) (e := (W.c k).c) (r := r.map fun j => (W.c j).c) B (by assumption) X (by assumption) T rfl (by decide) ?U ?m1 ?m2 ?m4 (hM i hi).1 (hM i hi).2.1 (hChT _ hM) hz0 (hM 0 O.pos).1 (hM 0 O.pos).2.1 ht0 he hf hl nf nl ?n1 ?n2 ?n3 zf hx rfl hn hk1 ?_; (case U => k_updF); (case m1 => k_mem); (case m2 => k_mem); (case m4 => k_mem); (case n1 => k_ne); (case n2 => k_ne); (case n3 => k_ne))
      intro fo9 h9 tk9 hd9 F9 N9
      (try dsimp only at N9)
      k_steps
      subst hrest
      obtain ⟨W', wl', N8, st⟩ := set_done O hk offT (by assumption) (by assumption) N9 (by assumption) (by assumption) (by assumption)
      exact done _ _ _ W' wl' _ _ _ F9 N8 st rfl rfl (hkeep.more rfl |>.trans (by walk_at "mine_keep3"))
end
end
end
section
/-! part C9, its lemmas -/
section
variable {w : World} {mean : ExcName → Option Value} {mg mb : Str → Option Value} {dp un : Nat} {gd : Option (List Code)} {cn : Str} {cs : Scope} {a : Addr} {ccd : Value} {cl : List (Str × Addr)} {outer : List Env} {A₀ : Around} {base h₀ : Heap} {L : Addr} {m : Str → Option Value} {s : Shared} {Q E : Value → Shared → Prop}
variable {wl : List (Addr × Obj)} {g : Obj → List (Addr × Obj)}
theorem remove_no {c : Nd} {lo : Obj} {lkv : List (Str × Value)} {x : Str} {tx : Tok}
    (B : Below A₀ base outer h₀) (F : Fr h₀ L s.heap m) (X : (hd.heap_39 w.params).In h₀) (N : News h₀ L s.heap wl) (T : Top hd.view_39 (looseW hd.view_39 []) mean mg mb h₀) (hk : cs.kind = .function) (hdp : dp + 40 < recursionLimit) (m1 : (c.e, instObj 163 c.d) ∈ wl) (m2 : (c.d, c.dct w) ∈ wl) (m3 : (c.f, c.fo) ∈ wl) (m4 : (c.l, lo) ∈ wl)
    (hf : c.fo.IsDictOf (PySem.strKind PySem.Challenge.rw_ov0043_01.row.prog w) c.fk) (hl : lo.IsDictOf (PySem.strKind PySem.Challenge.rw_ov0043_01.row.prog w) lkv) (nf : (c.f == sysModules) = false) (nl : (c.l == sysModules) = false)
    (n1 : c.e ≠ c.f) (n2 : c.d ≠ c.f) (n3 : c.l ≠ c.f) (n4 : c.e ≠ c.l) (n5 : c.d ≠ c.l) (n6 : c.f ≠ c.l) (hsz : c.fk.length ≤ 1000) (hsz2 : lkv.length ≤ 1000)
    (hno : (valueAt c.fk x).isSome = true → c.lk = true)
    (er : (valueAt c.fk x).isSome = true → c.lk = true → Raises w base h₀ L m (envX cn cs L a ccd cl :: outer) remT wl E s)
    (ret0 : ∀ h' tk', valueAt c.fk x = none → Fr h₀ L h' m → News h₀ L h' wl → Q (.bool false) { s with heap := h', toks := tk' }) :
    wpAny (model PySem.Challenge.rw_ov0043_01.row.prog w) (ktrTop dp un gd cn cs L a ccd cl outer) (call (.ref 116) [.ref c.e, .str x tx]) Q E s := by
  have N' : News h₀ L s.heap ((c.e, instObj 163 c.d) :: (c.d, c.dct w) :: (c.f, c.fo) :: (c.l, lo) :: butFor c.l (butFor c.f wl)) := news_sub N fun p hp => by
    simp only [List.mem_cons] at hp
    rcases hp with rfl | rfl | rfl | rfl | hp
    · exact m1
    · exact m2
    · exact m3
    · exact m4
    · exact (mem_butFor.mp (mem_butFor.mp hp).1).1
  have sub : ∀ p ∈ wl, p ∈ (c.e, instObj 163 c.d) :: (c.d, c.dct w) :: (c.f, c.fo) :: (c.l, lo) :: butFor c.l (butFor c.f wl) := fun p hp => by
    by_cases h : p.1 = c.f
    · rw [news_one N hp m3 h]; exact .tail _ (.tail _ (.head _))
    by_cases h2 : p.1 = c.l
    · rw [news_one N hp m4 h2]; exact .tail _ (.tail _ (.tail _ (.head _)))
    · exact .tail _ (.tail _ (.tail _ (.tail _ (mem_butFor.mpr ⟨mem_butFor.mpr ⟨hp, h⟩, h2⟩))))
  refine remove_spec B F X N' T hk hdp hf hl nf nl n1 n2 n3 (fun p hp => (mem_butFor.mp (mem_butFor.mp hp).1).2) n4 n5 n6 (fun p hp => (mem_butFor.mp hp).2) hsz hsz2 (fun q q2 => (er q q2).mono sub)
    (fun h' tk' a1 F2 N2 => ret0 h' tk' a1 F2 (news_sub N2 sub)) fun fo' lo' h' tk' a1 a2 a3 a4 F2 N2 => ?_
  have := hno a1
  rw [a2] at this; cases this
theorem remove_yes {c : Nd} {lo : Obj} {lkv : List (Str × Value)} {x : Str} {tx : Tok} {g2 : Obj → Obj → List (Addr × Obj)}
    (B : Below A₀ base outer h₀) (F : Fr h₀ L s.heap m) (X : (hd.heap_39 w.params).In h₀) (N : News h₀ L s.heap wl) (T : Top hd.view_39 (looseW hd.view_39 []) mean mg mb h₀) (hk : cs.kind = .function) (hdp : dp + 40 < recursionLimit) (U : UpdF c.f c.fo wl g) (U2 : ∀ fo', UpdF c.l lo (g fo') (g2 fo')) (m1 : (c.e, instObj 163 c.d) ∈ wl) (m2 : (c.d, c.dct w) ∈ wl) (m4 : (c.l, lo) ∈ wl)
    (hf : c.fo.IsDictOf (PySem.strKind PySem.Challenge.rw_ov0043_01.row.prog w) c.fk) (hl : lo.IsDictOf (PySem.strKind PySem.Challenge.rw_ov0043_01.row.prog w) lkv) (nf : (c.f == sysModules) = false) (nl : (c.l == sysModules) = false)
    (n1 : c.e ≠ c.f) (n2 : c.d ≠ c.f) (n3 : c.l ≠ c.f) (n4 : c.e ≠ c.l) (n5 : c.d ≠ c.l) (n6 : c.f ≠ c.l) (hsz : c.fk.length ≤ 1000) (hsz2 : lkv.length ≤ 1000)
    (hy : (valueAt c.fk x).isSome = true) (hlk : c.lk = false)
    (ret : ∀ fo' lo' h' tk', fo'.IsDictOf (PySem.strKind PySem.Challenge.rw_ov0043_01.row.prog w) (without c.fk x) → lo'.IsDictOf (PySem.strKind PySem.Challenge.rw_ov0043_01.row.prog w) (without lkv x) → Fr h₀ L h' m → News h₀ L h' (g2 fo' lo') → Q (.bool true) { s with heap := h', toks := tk' }) :
    wpAny (model PySem.Challenge.rw_ov0043_01.row.prog w) (ktrTop dp un gd cn cs L a ccd cl outer) (call (.ref 116) [.ref c.e, .str x tx]) Q E s :=
  remove_gen B F X N T hk hdp U U2 m1 m2 m4 hf hl nf nl n1 n2 n3 n4 n5 n6 hsz hsz2 (fun _ q => by rw [hlk] at q; cases q) (fun _ _ q => by rw [q] at hy; cases hy) fun fo' lo' h' tk' _ _ a3 a4 F2 N2 => ret fo' lo' h' tk' a3 a4 F2 N2
end
/-- a change of one environment that makes nothing, written down -/
theorem put_done {w : World} {W : Wd} {z i : Nat} {wl : List (Addr × Obj)} {h₀ h7 : Heap} {L S cL : Addr} {So oL : Obj} {q : Cl} {all : List (Addr × Obj)} (O : WOk w W z wl) (hi : i < W.n) (offT : ∀ p ∈ wl, ∀ r ∈ [(S, So), (cL, oL)], p.1 ≠ r.1)
    (had : (q.led w).map (·.1) = ((W.c i).led w).map (·.1)) (hpar : q.c.par = (W.c i).c.par) (hq : CellOk w W.fix i (z + 1) q) (N7 : News h₀ L h7 all) (hs : ∀ p, p ∈ (S, So) :: (cL, oL) :: (q.led w ++ others w (W.c i) wl) → p ∈ all) :
    ∃ W' wl', News h₀ L h7 ((S, So) :: (cL, oL) :: wl') ∧ StepOk w [(S, So), (cL, oL)] W (z + 1) wl W' wl' :=
  ⟨_, _, news_sub N7 hs, StepOk.put (new := []) O hi had hpar (by rw [List.append_nil]; exact hq) offT fun p hp => nomatch hp⟩
section
variable {prog : Program} {w : World} {A : Around} {E : Value → Shared → Prop} {s : Shared} {h₀ : Heap} {L D : Addr} {news : List (Addr × Obj)} {n : Nat} {bvs : List Value} {bd : List Str} {x : Str} {t : Tok} {v : Bool} {Q : Value → Shared → Prop}
theorem in_strs (N : News h₀ L s.heap news) (hm : (D, PySem.W.listOf bvs.toArray n) ∈ news) (hb : StrsAre bvs bd) (hv : bd.any (· == x) = v) (h : Q (.bool v) s) : wpAny (model prog w) A (compareOp .In (.str x t) (.ref D)) Q E s :=
  in_list_strs (News.isList N hm) hb (by rw [hv]; exact h)
theorem notin_strs (N : News h₀ L s.heap news) (hm : (D, PySem.W.listOf bvs.toArray n) ∈ news) (hb : StrsAre bvs bd) (hv : bd.any (· == x) = v) (h : Q (.bool (!v)) s) : wpAny (model prog w) A (compareOp .NotIn (.str x t) (.ref D)) Q E s :=
  notin_list_strs (News.isList N hm) hb (by rw [hv]; exact h)
end
theorem any_but {bd : List Str} {x y : Str} (h : bd.any (· == x) = false) : bd.any (· == y) = (bd.any (· == y) && decide (y ≠ x)) := by
  by_cases e : y = x
  · subst e; rw [h]; rfl
  · simp [e]
local macro_rules | `(tactic| walk_at "call ref") => `(tactic| k_extra "mine_w30")
local macro_rules | `(tactic| walk_at "getMethod ref") => `(tactic| k_extra "mine_w31")
local macro_rules | `(tactic| walk_at "call builtin:dict.pop") => `(tactic| k_extra "mine_w32")
local macro_rules | `(tactic| walk_at "call builtin:list.remove") => `(tactic| k_extra "mine_w33")
local macro_rules | `(tactic| walk_at "compareOp In str ref") => `(tactic| k_extra "mine_w34")
local macro_rules | `(tactic| walk_at "compareOp NotIn str ref") => `(tactic| k_extra "mine_w35")
local macro_rules | `(tactic| walk_at "setItem ref str") => `(tactic| k_extra "mine_w36")
/-! part C9 -/
theorem part_C9 : True := by w_top off; (try walk1); trivial
section
section
variable {w : World} {mean : ExcName → Option Value} {mg mb : Str → Option Value} {a : Addr} {ccd : Value} {h₀ : Heap} {L cL cW : Addr} {m : Str → Option Value} {s : Shared} {Q : Flow → Shared → Prop} {E : Value → Shared → Prop}
set_option maxHeartbeats 8000000 in
theorem try_kind2 {W : Wd} {z i nR nW nA : Nat} {wl : List (Addr × Obj)} {S : Addr} {So oL oW : Obj} {Ro Wa Ab : Addr} {avs : List Value} {x : Str} {f : Int} {tkk ta tx tf t1 t2 : Tok}
    (B : Below callerA h₀ [] h₀) (X : (hd.heap_39 w.params).In h₀) (T : Top hd.view_39 (looseW hd.view_39 []) mean mg mb h₀)
    (O : WOk w W z wl) (hz : z ≤ 20) (hi : i < W.n)
    (F : Fr h₀ L s.heap m) (N : News h₀ L s.heap ((S, So) :: (cL, oL) :: wl)) (offT : ∀ p ∈ wl, ∀ r ∈ [(S, So), (cL, oL)], p.1 ≠ r.1) (hoW : oW.data = .cell (some (.ref Wa)))
    (fR : (Ro, PySem.W.listOf ((List.range W.n).map fun j => Value.ref (W.c j).c.e).toArray nR) ∈ W.fix)
    (fW : (Wa, PySem.W.listOf ((List.range W.n).map fun j => Value.ref (W.c j).t).toArray nW) ∈ W.fix)
    (fA : (Ab, PySem.W.listOf avs.toArray nA) ∈ W.fix) (hav0 : IntsAre avs (aboves W)) (fcW : (cW, oW) ∈ W.fix) (hx : x.length ≤ 1000)
    (H : HoldsL [(Str.ofString "kind", .int 2 tkk), (Str.ofString "at", .int (i : Int) ta), (Str.ofString "name", .str x tx), (Str.ofString "figure", .int f tf), (Str.ofString "said", .str (Str.ofString "") t1), (Str.ofString "told", .str (Str.ofString "") t2),
      (Str.ofString "held", .ref (W.c i).h), (Str.ofString "bound", .ref (W.c i).b), (Str.ofString "shut", .ref (W.c i).sh), (Str.ofString "rows", .ref Ro), (Str.ofString "above", .ref Ab)] m)
    (hE0 : PassesOwn (model PySem.Challenge.rw_ov0043_01.row.prog w) (callerA.deeper (lawEnv L a ccd cL cW)) (lawEnv L a ccd cL cW) E)
    (done : ∀ h' tk' m' W' wl' y t1' t2', Fr h₀ L h' m' → News h₀ L h' ((S, So) :: (cL, oL) :: wl') → StepOk w [(S, So), (cL, oL)] W (z + 1) wl W' wl' → m' (Str.ofString "said") = some (.str y t1') → m' (Str.ofString "told") = some (.str y t2') →
      Keep [Str.ofString "said", Str.ofString "told", Str.ofString "refusal", Str.ofString "spot", Str.ofString "there"] m' m → Q .next { s with heap := h', toks := tk' }) :
    wpAny (model PySem.Challenge.rw_ov0043_01.row.prog w) (callerA.deeper (lawEnv L a ccd cL cW)) (exec tryStmt (lawEnv L a ccd cL cW)) Q E s := by
  have F0 := fr_upds F H
  clear F
  dsimp only [upds] at F0
  have K := O.ok i hi
  have ord := ord8 K
  have mW := O.subF _ fW
  have mR := O.subF _ fR
  have mA := O.subF _ fA
  have mcW := O.subF _ fcW
  have m1 := O.m1 hi
  have m2 := O.m2 hi
  have m3 := O.m3 hi
  have m4 := O.m4 hi
  have m5 := O.m5 hi
  have m6 := O.m6 hi
  have m7 := O.m7 hi
  have m8 := O.m8 hi
  have hfW : Wa ≠ (W.c i).h := (O.disF i hi _ (.tail _ (.tail _ (.tail _ (.tail _ (.tail _ (.head _)))))) _ fW).symm
  have gR : ((List.range W.n).map fun j => Value.ref (W.c j).c.e).toArray[i]? = some (.ref (W.c i).c.e) := by simp [hi]
  have gW : ((List.range W.n).map fun j => Value.ref (W.c j).t).toArray[i]? = some (.ref (W.c i).t) := by simp [hi]
  have hsR : ((List.range W.n).map fun j => Value.ref (W.c j).c.e).toArray.size ≤ 1000 := by have := O.top; simp; omega
  have hsW : ((List.range W.n).map fun j => Value.ref (W.c j).t).toArray.size ≤ 1000 := by have := O.top; simp; omega
  have hf := K.hf
  have hl := K.hl
  have hh := K.hh
  have hb := K.hb
  have nf := K.nf
  have nl := K.nl
  have nh := K.nh
  have hsz := K.sz
  have zf : (W.c i).c.fk.length ≤ 1000 := by omega
  have zl : (W.c i).lkv.length ≤ 1000 := by omega
  have zh : (W.c i).hkv.length ≤ 1000 := by omega
  have zb : (W.c i).bvs.length ≤ 1000 := by have := strs_len hb; omega
  have hlk : ∀ v, valueAt (W.c i).lkv x = some v → v = .bool true ∧ ∃ y, valueAt (W.c i).c.fk x = some y := fun v hv => by
    rcases K.locks x with ⟨h1, _⟩ | ⟨h1, _, h3⟩
    · rw [h1] at hv; cases hv
    · rw [h1] at hv; cases hv
      exact ⟨rfl, Option.isSome_iff_exists.mp h3⟩
  clear hsz
  revert X; k_fill; intro X
  conv in tryStmt => whnf
  unfold lawEnv at *
  conv in (occs := *) lawScope => all_goals whnf
  dsimp only
  refine wpAny_Try_except ?_
  change wpAny _ _ _ _ (TryE w _ _ Q E) s
  have eB := K.both x
  cases hv : valueAt (W.c i).c.fk x with
  | none =>
    have hvh := K.hval x hv
    have hno : (valueAt (W.c i).c.fk x).isSome = true → (W.c i).c.lk = true := fun q => by rw [hv] at q; cases q
    k_steps
    · exact absurd (by assumption : (valueAt (W.c i).c.fk x).isSome = true) (by rw [hv]; simp)
    · exact done _ _ _ W wl _ _ _ (by assumption) (by assumption) (StepOk.idle O offT) rfl rfl (by walk_at "mine_keep")
  | some v =>
    obtain ⟨_, _, _, _, k9, _, t9, rfl, _, _, _, hvh⟩ := K.vals x v hv
    cases hlc : (W.c i).c.lk with
    | true =>
      have hno : (valueAt (W.c i).c.fk x).isSome = true → (W.c i).c.lk = true := fun _ => hlc
      k_steps
      · refine handled B X T fun h8 tk8 m8 tt8 F8 N8 ht8 hK8 => ?_
        exact done _ _ _ W wl _ _ _ F8 N8 (StepOk.idle O offT) ((hK8 (Str.ofString "said") rfl).trans rfl) ht8 (Keep.trans (m' := _) (by walk_at "mine_keep") (hK8.more rfl))
      · exact absurd (by assumption : valueAt (W.c i).c.fk x = none) (by rw [hv]; simp)
    | false =>
      have hy : (valueAt (W.c i).c.fk x).isSome = true := by rw [hv]; rfl
      have ho : ∀ p ∈ (S, So) :: (cL, oL) :: others w (W.c i) wl, ∀ r ∈ (W.c i).led w, p.1 ≠ r.1 := cell_off offT (O.sub i hi)
      have N1 : News h₀ L s.heap (((W.c i).c.e, instObj 163 (W.c i).c.d) :: ((W.c i).c.d, (W.c i).c.dct w) :: ((W.c i).c.f, (W.c i).c.fo) :: ((W.c i).c.l, (W.c i).lo) :: ((W.c i).t, PySem.W.listOf #[.ref (W.c i).h, .ref (W.c i).b, .ref (W.c i).sh] (W.c i).nt) :: ((W.c i).h, (W.c i).ho) :: ((W.c i).b, PySem.W.listOf (W.c i).bvs.toArray (W.c i).nb) :: ((W.c i).sh, PySem.W.listOf #[.bool (W.c i).c.lk] (W.c i).ns) :: (S, So) :: (cL, oL) :: others w (W.c i) wl) := cell_news N (O.sub i hi)
      have rW : (Wa, PySem.W.listOf ((List.range W.n).map fun j => Value.ref (W.c j).t).toArray nW) ∈ (S, So) :: (cL, oL) :: others w (W.c i) wl := .tail _ (.tail _ (mem_others.mpr ⟨mW, fun r hr => (O.disF i hi r hr _ fW).symm⟩))
      have rR : (Ro, PySem.W.listOf ((List.range W.n).map fun j => Value.ref (W.c j).c.e).toArray nR) ∈ (S, So) :: (cL, oL) :: others w (W.c i) wl := .tail _ (.tail _ (mem_others.mpr ⟨mR, fun r hr => (O.disF i hi r hr _ fR).symm⟩))
      have rcW : (cW, oW) ∈ (S, So) :: (cL, oL) :: others w (W.c i) wl := .tail _ (.tail _ (mem_others.mpr ⟨mcW, fun r hr => (O.disF i hi r hr _ fcW).symm⟩))
      clear N mW mR mcW m1 m2 m3 m4 m5 m6 m7 m8
      have od : ∀ p ∈ (S, So) :: (cL, oL) :: others w (W.c i) wl, p.1 ≠ (W.c i).c.d := fun p hp => ho p hp _ (.tail _ (.head _))
      have of : ∀ p ∈ (S, So) :: (cL, oL) :: others w (W.c i) wl, p.1 ≠ (W.c i).c.f := fun p hp => ho p hp _ (.tail _ (.tail _ (.head _)))
      have ol : ∀ p ∈ (S, So) :: (cL, oL) :: others w (W.c i) wl, p.1 ≠ (W.c i).c.l := fun p hp => ho p hp _ (.tail _ (.tail _ (.tail _ (.head _))))
      have oh : ∀ p ∈ (S, So) :: (cL, oL) :: others w (W.c i) wl, p.1 ≠ (W.c i).h := fun p hp => ho p hp _ (.tail _ (.tail _ (.tail _ (.tail _ (.tail _ (.head _))))))
      have ob : ∀ p ∈ (S, So) :: (cL, oL) :: others w (W.c i) wl, p.1 ≠ (W.c i).b := fun p hp => ho p hp _ (.tail _ (.tail _ (.tail _ (.tail _ (.tail _ (.tail _ (.head _)))))))
      have os : ∀ p ∈ (S, So) :: (cL, oL) :: others w (W.c i) wl, p.1 ≠ (W.c i).sh := fun p hp => ho p hp _ (.tail _ (.tail _ (.tail _ (.tail _ (.tail _ (.tail _ (.tail _ (.head _))))))))
      have hsub : ∀ {q : Cl} {new : List (Addr × Obj)} {all : List (Addr × Obj)} {h7 : Heap}, News h₀ L h7 all → (∀ p ∈ q.led w, p ∈ all) → (∀ p ∈ new, p ∈ all) → (∀ p ∈ (S, So) :: (cL, oL) :: others w (W.c i) wl, p ∈ all) → News h₀ L h7 ((S, So) :: (cL, oL) :: (q.led w ++ (new ++ others w (W.c i) wl))) := fun N7 a1 a2 a3 => news_sub N7 fun p hp => by
        rcases List.mem_cons.mp hp with rfl | hp
        · exact a3 _ (.head _)
        rcases List.mem_cons.mp hp with rfl | hp
        · exact a3 _ (.tail _ (.head _))
        rcases List.mem_append.mp hp with hp | hp
        · exact a1 p hp
        rcases List.mem_append.mp hp with hp | hp
        · exact a2 p hp
        · exact a3 p (.tail _ (.tail _ hp))
      generalize hrest : (S, So) :: (cL, oL) :: others w (W.c i) wl = rest at N1 rW rR rcW od of ol oh ob os ho
      cases hbd : (W.c i).bd.any (· == x) with
      | true =>
        k_steps
        subst hrest
        rename News _ _ _ _ => N7
        have hq := K.rem (nb' := (W.c i).nb + 1) (bd' := (W.c i).bd.erase x) (by assumption) (by assumption) (by assumption) (by assumption) (K.nd.erase x) (List.length_erase_le) (fun y => any_erase x y K.nd)
        obtain ⟨W', wl', N8, st⟩ := put_done O hi offT (by rfl) (by rfl) hq N7 (fun p hp => rot2 p hp)
        exact done _ _ _ W' wl' _ _ _ (by assumption) N8 st rfl rfl (by walk_at "mine_keep")
      | false =>
        k_steps
        subst hrest
        rename News _ _ _ _ => N7
        have hq := K.rem (nb' := (W.c i).nb) (bd' := (W.c i).bd) (by assumption) (by assumption) (by assumption) (by assumption) K.nd (Nat.le_refl _) (fun y => (any_but hbd))
        obtain ⟨W', wl', N8, st⟩ := put_done O hi offT (by rfl) (by rfl) hq N7 (fun p hp => rot2 p hp)
        exact done _ _ _ W' wl' _ _ _ (by assumption) N8 st rfl rfl (by walk_at "mine_keep")
end
end
/-! part C10 -/
theorem part_C10 : True := by w_top off; (try walk1); trivial
section
theorem any_with {bd : List Str} {x y : Str} (h : bd.any (· == x) = true) : bd.any (· == y) = (bd.any (· == y) || decide (y = x)) := by
  by_cases e : y = x
  · subst e; rw [h]; rfl
  · simp [e]
theorem nodup_snoc {bd : List Str} {x : Str} (h : bd.Nodup) (hx : bd.any (· == x) = false) : (bd ++ [x]).Nodup := by
  rw [List.nodup_append]
  refine ⟨h, by simp, ?_⟩
  intro a ha b hb e
  rw [List.mem_singleton.mp hb] at e
  subst e
  have := (List.any_eq_false.mp hx) a ha
  simp at this
local macro_rules | `(tactic| walk_at "call builtin:list.append") => `(tactic| k_extra "mine_w37")
section
variable {w : World} {mean : ExcName → Option Value} {mg mb : Str → Option Value} {a : Addr} {ccd : Value} {h₀ : Heap} {L cL cW : Addr} {m : Str → Option Value} {s : Shared} {Q : Flow → Shared → Prop} {E : Value → Shared → Prop}
set_option maxHeartbeats 8000000 in
theorem try_kind3 {W : Wd} {z i nR nW nA : Nat} {wl : List (Addr × Obj)} {S : Addr} {So oL oW : Obj} {Ro Wa Ab : Addr} {avs : List Value} {x : Str} {f : Int} {tkk ta tx tf t1 t2 : Tok}
    (B : Below callerA h₀ [] h₀) (X : (hd.heap_39 w.params).In h₀) (T : Top hd.view_39 (looseW hd.view_39 []) mean mg mb h₀)
    (O : WOk w W z wl) (hz : z ≤ 20) (hi : i < W.n)
    (F : Fr h₀ L s.heap m) (N : News h₀ L s.heap ((S, So) :: (cL, oL) :: wl)) (offT : ∀ p ∈ wl, ∀ r ∈ [(S, So), (cL, oL)], p.1 ≠ r.1) (hoW : oW.data = .cell (some (.ref Wa)))
    (fR : (Ro, PySem.W.listOf ((List.range W.n).map fun j => Value.ref (W.c j).c.e).toArray nR) ∈ W.fix)
    (fW : (Wa, PySem.W.listOf ((List.range W.n).map fun j => Value.ref (W.c j).t).toArray nW) ∈ W.fix)
    (fA : (Ab, PySem.W.listOf avs.toArray nA) ∈ W.fix) (hav0 : IntsAre avs (aboves W)) (fcW : (cW, oW) ∈ W.fix) (hx : x.length ≤ 1000)
    (H : HoldsL [(Str.ofString "kind", .int 3 tkk), (Str.ofString "at", .int (i : Int) ta), (Str.ofString "name", .str x tx), (Str.ofString "figure", .int f tf), (Str.ofString "said", .str (Str.ofString "") t1), (Str.ofString "told", .str (Str.ofString "") t2),
      (Str.ofString "held", .ref (W.c i).h), (Str.ofString "bound", .ref (W.c i).b), (Str.ofString "shut", .ref (W.c i).sh), (Str.ofString "rows", .ref Ro), (Str.ofString "above", .ref Ab)] m)
    (hE0 : PassesOwn (model PySem.Challenge.rw_ov0043_01.row.prog w) (callerA.deeper (lawEnv L a ccd cL cW)) (lawEnv L a ccd cL cW) E)
    (done : ∀ h' tk' m' W' wl' y t1' t2', Fr h₀ L h' m' → News h₀ L h' ((S, So) :: (cL, oL) :: wl') → StepOk w [(S, So), (cL, oL)] W (z + 1) wl W' wl' → m' (Str.ofString "said") = some (.str y t1') → m' (Str.ofString "told") = some (.str y t2') →
      Keep [Str.ofString "said", Str.ofString "told", Str.ofString "refusal", Str.ofString "spot", Str.ofString "there"] m' m → Q .next { s with heap := h', toks := tk' }) :
    wpAny (model PySem.Challenge.rw_ov0043_01.row.prog w) (callerA.deeper (lawEnv L a ccd cL cW)) (exec tryStmt (lawEnv L a ccd cL cW)) Q E s := by
  have F0 := fr_upds F H
  clear F
  dsimp only [upds] at F0
  have K := O.ok i hi
  have ord := ord8 K
  have mW := O.subF _ fW
  have mR := O.subF _ fR
  have mA := O.subF _ fA
  have mcW := O.subF _ fcW
  have m1 := O.m1 hi
  have m2 := O.m2 hi
  have m3 := O.m3 hi
  have m4 := O.m4 hi
  have m5 := O.m5 hi
  have m6 := O.m6 hi
  have m7 := O.m7 hi
  have m8 := O.m8 hi
  have hfW : Wa ≠ (W.c i).h := (O.disF i hi _ (.tail _ (.tail _ (.tail _ (.tail _ (.tail _ (.head _)))))) _ fW).symm
  have gR : ((List.range W.n).map fun j => Value.ref (W.c j).c.e).toArray[i]? = some (.ref (W.c i).c.e) := by simp [hi]
  have gW : ((List.range W.n).map fun j => Value.ref (W.c j).t).toArray[i]? = some (.ref (W.c i).t) := by simp [hi]
  have hsR : ((List.range W.n).map fun j => Value.ref (W.c j).c.e).toArray.size ≤ 1000 := by have := O.top; simp; omega
  have hsW : ((List.range W.n).map fun j => Value.ref (W.c j).t).toArray.size ≤ 1000 := by have := O.top; simp; omega
  have hf := K.hf
  have hl := K.hl
  have hh := K.hh
  have hb := K.hb
  have nf := K.nf
  have nl := K.nl
  have nh := K.nh
  have hsz := K.sz
  have zf : (W.c i).c.fk.length ≤ 1000 := by omega
  have zl : (W.c i).lkv.length ≤ 1000 := by omega
  have zh : (W.c i).hkv.length ≤ 1000 := by omega
  have zb : (W.c i).bvs.length ≤ 1000 := by have := strs_len hb; omega
  have hlk : ∀ v, valueAt (W.c i).lkv x = some v → v = .bool true ∧ ∃ y, valueAt (W.c i).c.fk x = some y := fun v hv => by
    rcases K.locks x with ⟨h1, _⟩ | ⟨h1, _, h3⟩
    · rw [h1] at hv; cases hv
    · rw [h1] at hv; cases hv
      exact ⟨rfl, Option.isSome_iff_exists.mp h3⟩
  clear hsz
  revert X; k_fill; intro X
  conv in tryStmt => whnf
  unfold lawEnv at *
  conv in (occs := *) lawScope => all_goals whnf
  dsimp only
  refine wpAny_Try_except ?_
  change wpAny _ _ _ _ (TryE w _ _ Q E) s
  have eB := K.both x
  cases hv : valueAt (W.c i).c.fk x with
  | none =>
    have hvh := K.hval x hv
    k_steps
    exact done _ _ _ W wl _ _ _ (by assumption) (by assumption) (StepOk.idle O offT) rfl rfl (by walk_at "mine_keep")
  | some v =>
    obtain ⟨_, _, _, _, k9, _, t9, rfl, _, _, _, hvh⟩ := K.vals x v hv
    have hy : (valueAt (W.c i).c.fk x).isSome = true := by rw [hv]; rfl
    have ho : ∀ p ∈ (S, So) :: (cL, oL) :: others w (W.c i) wl, ∀ r ∈ (W.c i).led w, p.1 ≠ r.1 := cell_off offT (O.sub i hi)
    have N1 : News h₀ L s.heap (((W.c i).c.e, instObj 163 (W.c i).c.d) :: ((W.c i).c.d, (W.c i).c.dct w) :: ((W.c i).c.f, (W.c i).c.fo) :: ((W.c i).c.l, (W.c i).lo) :: ((W.c i).t, PySem.W.listOf #[.ref (W.c i).h, .ref (W.c i).b, .ref (W.c i).sh] (W.c i).nt) :: ((W.c i).h, (W.c i).ho) :: ((W.c i).b, PySem.W.listOf (W.c i).bvs.toArray (W.c i).nb) :: ((W.c i).sh, PySem.W.listOf #[.bool (W.c i).c.lk] (W.c i).ns) :: (S, So) :: (cL, oL) :: others w (W.c i) wl) := cell_news N (O.sub i hi)
    have rW : (Wa, PySem.W.listOf ((List.range W.n).map fun j => Value.ref (W.c j).t).toArray nW) ∈ (S, So) :: (cL, oL) :: others w (W.c i) wl := .tail _ (.tail _ (mem_others.mpr ⟨mW, fun r hr => (O.disF i hi r hr _ fW).symm⟩))
    have rR : (Ro, PySem.W.listOf ((List.range W.n).map fun j => Value.ref (W.c j).c.e).toArray nR) ∈ (S, So) :: (cL, oL) :: others w (W.c i) wl := .tail _ (.tail _ (mem_others.mpr ⟨mR, fun r hr => (O.disF i hi r hr _ fR).symm⟩))
    have rcW : (cW, oW) ∈ (S, So) :: (cL, oL) :: others w (W.c i) wl := .tail _ (.tail _ (mem_others.mpr ⟨mcW, fun r hr => (O.disF i hi r hr _ fcW).symm⟩))
    clear N mW mR mcW m1 m2 m3 m4 m5 m6 m7 m8
    have od : ∀ p ∈ (S, So) :: (cL, oL) :: others w (W.c i) wl, p.1 ≠ (W.c i).c.d := fun p hp => ho p hp _ (.tail _ (.head _))
    have of : ∀ p ∈ (S, So) :: (cL, oL) :: others w (W.c i) wl, p.1 ≠ (W.c i).c.f := fun p hp => ho p hp _ (.tail _ (.tail _ (.head _)))
    have ol : ∀ p ∈ (S, So) :: (cL, oL) :: others w (W.c i) wl, p.1 ≠ (W.c i).c.l := fun p hp => ho p hp _ (.tail _ (.tail _ (.tail _ (.head _))))
    have oh : ∀ p ∈ (S, So) :: (cL, oL) :: others w (W.c i) wl, p.1 ≠ (W.c i).h := fun p hp => ho p hp _ (.tail _ (.tail _ (.tail _ (.tail _ (.tail _ (.head _))))))
    have ob : ∀ p ∈ (S, So) :: (cL, oL) :: others w (W.c i) wl, p.1 ≠ (W.c i).b := fun p hp => ho p hp _ (.tail _ (.tail _ (.tail _ (.tail _ (.tail _ (.tail _ (.head _)))))))
    have os : ∀ p ∈ (S, So) :: (cL, oL) :: others w (W.c i) wl, p.1 ≠ (W.c i).sh := fun p hp => ho p hp _ (.tail _ (.tail _ (.tail _ (.tail _ (.tail _ (.tail _ (.tail _ (.head _))))))))
    have hsub : ∀ {q : Cl} {new : List (Addr × Obj)} {all : List (Addr × Obj)} {h7 : Heap}, News h₀ L h7 all → (∀ p ∈ q.led w, p ∈ all) → (∀ p ∈ new, p ∈ all) → (∀ p ∈ (S, So) :: (cL, oL) :: others w (W.c i) wl, p ∈ all) → News h₀ L h7 ((S, So) :: (cL, oL) :: (q.led w ++ (new ++ others w (W.c i) wl))) := fun N7 a1 a2 a3 => news_sub N7 fun p hp => by
      rcases List.mem_cons.mp hp with rfl | hp
      · exact a3 _ (.head _)
      rcases List.mem_cons.mp hp with rfl | hp
      · exact a3 _ (.tail _ (.head _))
      rcases List.mem_append.mp hp with hp | hp
      · exact a1 p hp
      rcases List.mem_append.mp hp with hp | hp
      · exact a2 p hp
      · exact a3 p (.tail _ (.tail _ hp))
    generalize hrest : (S, So) :: (cL, oL) :: others w (W.c i) wl = rest at N1 rW rR rcW od of ol oh ob os ho
    cases hbd : (W.c i).bd.any (· == x) with
    | true =>
      k_steps
      subst hrest
      rename News _ _ _ _ => N7
      have hq := K.lock (nb' := (W.c i).nb) (bd' := (W.c i).bd) hy (by assumption) hb K.nd (Nat.le_succ _) (fun y => any_with hbd)
      obtain ⟨W', wl', N8, st⟩ := put_done O hi offT (by rfl) (by rfl) hq N7 (fun p hp => rot2 p hp)
      exact done _ _ _ W' wl' _ _ _ (by assumption) N8 st rfl rfl (by walk_at "mine_keep")
    | false =>
      k_steps
      subst hrest
      rename News _ _ _ _ => N7
      rw [List.push_toArray] at N7
      have hq := K.lock (nb' := (W.c i).nb + 1) (bd' := (W.c i).bd ++ [x]) hy (by assumption) (strs_snoc hb x tx) (nodup_snoc K.nd hbd) (by simp) (fun y => any_snoc x y)
      obtain ⟨W', wl', N8, st⟩ := put_done O hi offT (by rfl) (by rfl) hq N7 (fun p hp => rot2 p hp)
      exact done _ _ _ W' wl' _ _ _ (by assumption) N8 st rfl rfl (by walk_at "mine_keep")
set_option maxHeartbeats 8000000 in
theorem try_kind4 {W : Wd} {z i nR nW nA : Nat} {wl : List (Addr × Obj)} {S : Addr} {So oL oW : Obj} {Ro Wa Ab : Addr} {avs : List Value} {x : Str} {f : Int} {tkk ta tx tf t1 t2 : Tok}
    (B : Below callerA h₀ [] h₀) (X : (hd.heap_39 w.params).In h₀) (T : Top hd.view_39 (looseW hd.view_39 []) mean mg mb h₀)
    (O : WOk w W z wl) (hz : z ≤ 20) (hi : i < W.n)
    (F : Fr h₀ L s.heap m) (N : News h₀ L s.heap ((S, So) :: (cL, oL) :: wl)) (offT : ∀ p ∈ wl, ∀ r ∈ [(S, So), (cL, oL)], p.1 ≠ r.1) (hoW : oW.data = .cell (some (.ref Wa)))
    (fR : (Ro, PySem.W.listOf ((List.range W.n).map fun j => Value.ref (W.c j).c.e).toArray nR) ∈ W.fix)
    (fW : (Wa, PySem.W.listOf ((List.range W.n).map fun j => Value.ref (W.c j).t).toArray nW) ∈ W.fix)
    (fA : (Ab, PySem.W.listOf avs.toArray nA) ∈ W.fix) (hav0 : IntsAre avs (aboves W)) (fcW : (cW, oW) ∈ W.fix) (hx : x.length ≤ 1000)
    (H : HoldsL [(Str.ofString "kind", .int 4 tkk), (Str.ofString "at", .int (i : Int) ta), (Str.ofString "name", .str x tx), (Str.ofString "figure", .int f tf), (Str.ofString "said", .str (Str.ofString "") t1), (Str.ofString "told", .str (Str.ofString "") t2),
      (Str.ofString "held", .ref (W.c i).h), (Str.ofString "bound", .ref (W.c i).b), (Str.ofString "shut", .ref (W.c i).sh), (Str.ofString "rows", .ref Ro), (Str.ofString "above", .ref Ab)] m)
    (hE0 : PassesOwn (model PySem.Challenge.rw_ov0043_01.row.prog w) (callerA.deeper (lawEnv L a ccd cL cW)) (lawEnv L a ccd cL cW) E)
    (done : ∀ h' tk' m' W' wl' y t1' t2', Fr h₀ L h' m' → News h₀ L h' ((S, So) :: (cL, oL) :: wl') → StepOk w [(S, So), (cL, oL)] W (z + 1) wl W' wl' → m' (Str.ofString "said") = some (.str y t1') → m' (Str.ofString "told") = some (.str y t2') →
      Keep [Str.ofString "said", Str.ofString "told", Str.ofString "refusal", Str.ofString "spot", Str.ofString "there"] m' m → Q .next { s with heap := h', toks := tk' }) :
    wpAny (model PySem.Challenge.rw_ov0043_01.row.prog w) (callerA.deeper (lawEnv L a ccd cL cW)) (exec tryStmt (lawEnv L a ccd cL cW)) Q E s := by
  have F0 := fr_upds F H
  clear F
  dsimp only [upds] at F0
  have K := O.ok i hi
  have ord := ord8 K
  have mW := O.subF _ fW
  have mR := O.subF _ fR
  have mA := O.subF _ fA
  have mcW := O.subF _ fcW
  have m1 := O.m1 hi
  have m2 := O.m2 hi
  have m3 := O.m3 hi
  have m4 := O.m4 hi
  have m5 := O.m5 hi
  have m6 := O.m6 hi
  have m7 := O.m7 hi
  have m8 := O.m8 hi
  have hfW : Wa ≠ (W.c i).h := (O.disF i hi _ (.tail _ (.tail _ (.tail _ (.tail _ (.tail _ (.head _)))))) _ fW).symm
  have gR : ((List.range W.n).map fun j => Value.ref (W.c j).c.e).toArray[i]? = some (.ref (W.c i).c.e) := by simp [hi]
  have gW : ((List.range W.n).map fun j => Value.ref (W.c j).t).toArray[i]? = some (.ref (W.c i).t) := by simp [hi]
  have hsR : ((List.range W.n).map fun j => Value.ref (W.c j).c.e).toArray.size ≤ 1000 := by have := O.top; simp; omega
  have hsW : ((List.range W.n).map fun j => Value.ref (W.c j).t).toArray.size ≤ 1000 := by have := O.top; simp; omega
  have hf := K.hf
  have hl := K.hl
  have hh := K.hh
  have hb := K.hb
  have nf := K.nf
  have nl := K.nl
  have nh := K.nh
  have hsz := K.sz
  have zf : (W.c i).c.fk.length ≤ 1000 := by omega
  have zl : (W.c i).lkv.length ≤ 1000 := by omega
  have zh : (W.c i).hkv.length ≤ 1000 := by omega
  have zb : (W.c i).bvs.length ≤ 1000 := by have := strs_len hb; omega
  have hlk : ∀ v, valueAt (W.c i).lkv x = some v → v = .bool true ∧ ∃ y, valueAt (W.c i).c.fk x = some y := fun v hv => by
    rcases K.locks x with ⟨h1, _⟩ | ⟨h1, _, h3⟩
    · rw [h1] at hv; cases hv
    · rw [h1] at hv; cases hv
      exact ⟨rfl, Option.isSome_iff_exists.mp h3⟩
  clear hsz
  revert X; k_fill; intro X
  conv in tryStmt => whnf
  unfold lawEnv at *
  conv in (occs := *) lawScope => all_goals whnf
  dsimp only
  refine wpAny_Try_except ?_
  change wpAny _ _ _ _ (TryE w _ _ Q E) s
  have ho : ∀ p ∈ (S, So) :: (cL, oL) :: others w (W.c i) wl, ∀ r ∈ (W.c i).led w, p.1 ≠ r.1 := cell_off offT (O.sub i hi)
  have N1 : News h₀ L s.heap (((W.c i).c.e, instObj 163 (W.c i).c.d) :: ((W.c i).c.d, (W.c i).c.dct w) :: ((W.c i).c.f, (W.c i).c.fo) :: ((W.c i).c.l, (W.c i).lo) :: ((W.c i).t, PySem.W.listOf #[.ref (W.c i).h, .ref (W.c i).b, .ref (W.c i).sh] (W.c i).nt) :: ((W.c i).h, (W.c i).ho) :: ((W.c i).b, PySem.W.listOf (W.c i).bvs.toArray (W.c i).nb) :: ((W.c i).sh, PySem.W.listOf #[.bool (W.c i).c.lk] (W.c i).ns) :: (S, So) :: (cL, oL) :: others w (W.c i) wl) := cell_news N (O.sub i hi)
  have rW : (Wa, PySem.W.listOf ((List.range W.n).map fun j => Value.ref (W.c j).t).toArray nW) ∈ (S, So) :: (cL, oL) :: others w (W.c i) wl := .tail _ (.tail _ (mem_others.mpr ⟨mW, fun r hr => (O.disF i hi r hr _ fW).symm⟩))
  have rR : (Ro, PySem.W.listOf ((List.range W.n).map fun j => Value.ref (W.c j).c.e).toArray nR) ∈ (S, So) :: (cL, oL) :: others w (W.c i) wl := .tail _ (.tail _ (mem_others.mpr ⟨mR, fun r hr => (O.disF i hi r hr _ fR).symm⟩))
  have rcW : (cW, oW) ∈ (S, So) :: (cL, oL) :: others w (W.c i) wl := .tail _ (.tail _ (mem_others.mpr ⟨mcW, fun r hr => (O.disF i hi r hr _ fcW).symm⟩))
  clear N mW mR mcW m1 m2 m3 m4 m5 m6 m7 m8
  have od : ∀ p ∈ (S, So) :: (cL, oL) :: others w (W.c i) wl, p.1 ≠ (W.c i).c.d := fun p hp => ho p hp _ (.tail _ (.head _))
  have of : ∀ p ∈ (S, So) :: (cL, oL) :: others w (W.c i) wl, p.1 ≠ (W.c i).c.f := fun p hp => ho p hp _ (.tail _ (.tail _ (.head _)))
  have ol : ∀ p ∈ (S, So) :: (cL, oL) :: others w (W.c i) wl, p.1 ≠ (W.c i).c.l := fun p hp => ho p hp _ (.tail _ (.tail _ (.tail _ (.head _))))
  have oh : ∀ p ∈ (S, So) :: (cL, oL) :: others w (W.c i) wl, p.1 ≠ (W.c i).h := fun p hp => ho p hp _ (.tail _ (.tail _ (.tail _ (.tail _ (.tail _ (.head _))))))
  have ob : ∀ p ∈ (S, So) :: (cL, oL) :: others w (W.c i) wl, p.1 ≠ (W.c i).b := fun p hp => ho p hp _ (.tail _ (.tail _ (.tail _ (.tail _ (.tail _ (.tail _ (.head _)))))))
  have os : ∀ p ∈ (S, So) :: (cL, oL) :: others w (W.c i) wl, p.1 ≠ (W.c i).sh := fun p hp => ho p hp _ (.tail _ (.tail _ (.tail _ (.tail _ (.tail _ (.tail _ (.tail _ (.head _))))))))
  have hsub : ∀ {q : Cl} {new : List (Addr × Obj)} {all : List (Addr × Obj)} {h7 : Heap}, News h₀ L h7 all → (∀ p ∈ q.led w, p ∈ all) → (∀ p ∈ new, p ∈ all) → (∀ p ∈ (S, So) :: (cL, oL) :: others w (W.c i) wl, p ∈ all) → News h₀ L h7 ((S, So) :: (cL, oL) :: (q.led w ++ (new ++ others w (W.c i) wl))) := fun N7 a1 a2 a3 => news_sub N7 fun p hp => by
    rcases List.mem_cons.mp hp with rfl | hp
    · exact a3 _ (.head _)
    rcases List.mem_cons.mp hp with rfl | hp
    · exact a3 _ (.tail _ (.head _))
    rcases List.mem_append.mp hp with hp | hp
    · exact a1 p hp
    rcases List.mem_append.mp hp with hp | hp
    · exact a2 p hp
    · exact a3 p (.tail _ (.tail _ hp))
  generalize hrest : (S, So) :: (cL, oL) :: others w (W.c i) wl = rest at N1 rW rR rcW od of ol oh ob os ho
  k_steps
  subst hrest
  rename News _ _ _ _ => N7
  rename Fr _ _ _ _ => F7
  have hN : ∃ ns', News h₀ L _ (Cl.led w { W.c i with c := { (W.c i).c with lk := true }, ns := ns' } ++ ((S, So) :: (cL, oL) :: others w (W.c i) wl)) := ⟨_, N7⟩
  obtain ⟨ns', N9⟩ := hN
  obtain ⟨W', wl', N8, st⟩ := put_done O hi offT (by rfl) (by rfl) (K.shut (ns' := ns')) N9 (fun p hp => rot2 p hp)
  exact done _ _ _ W' wl' _ _ _ F7 N8 st rfl rfl (by walk_at "mine_keep")
end
end
end
end
section
local macro_rules | `(tactic| walk_at "call builtin:len") => `(tactic| k_extra "mine_w22")
/-! part C12 -/
theorem part_C12 : True := by w_top off; (try walk1); trivial
section
theorem StepOk.top {w : World} {top top' : List (Addr × Obj)} {W W' : Wd} {z : Nat} {wl wl' : List (Addr × Obj)} (h : StepOk w top W z wl W' wl') (e : top'.map (·.1) = top.map (·.1)) : StepOk w top' W z wl W' wl' :=
  ⟨h.ok, h.same, h.keep, fun p hp r hr => (by
    have : r.1 ∈ top.map (·.1) := by rw [← e]; exact List.mem_map.mpr ⟨r, hr, rfl⟩
    obtain ⟨r2, hr2, e2⟩ := List.mem_map.mp this
    rw [← e2]; exact h.off p hp r2 hr2), h.new⟩
section
variable {w : World} {mean : ExcName → Option Value} {mg mb : Str → Option Value} {a : Addr} {ccd : Value} {h₀ : Heap} {L cL cW : Addr} {m : Str → Option Value} {s : Shared} {Q : Flow → Shared → Prop} {E : Value → Shared → Prop}
set_option maxHeartbeats 8000000 in
theorem try_any {W : Wd} {z i nR nW nA : Nat} {wl : List (Addr × Obj)} {S : Addr} {So oL oW : Obj} {Ro Wa Ab : Addr} {avs : List Value} {x : Str} {f : Int} {kd : Nat} {tkk ta tx tf t1 t2 : Tok}
    (B : Below callerA h₀ [] h₀) (X : (hd.heap_39 w.params).In h₀) (T : Top hd.view_39 (looseW hd.view_39 []) mean mg mb h₀)
    (O : WOk w W z wl) (hz : z ≤ 20) (hi : i < W.n)
    (F : Fr h₀ L s.heap m) (N : News h₀ L s.heap ((S, So) :: (cL, oL) :: wl)) (offT : ∀ p ∈ wl, ∀ r ∈ [(S, So), (cL, oL)], p.1 ≠ r.1) (hoW : oW.data = .cell (some (.ref Wa)))
    (fR : (Ro, PySem.W.listOf ((List.range W.n).map fun j => Value.ref (W.c j).c.e).toArray nR) ∈ W.fix)
    (fW : (Wa, PySem.W.listOf ((List.range W.n).map fun j => Value.ref (W.c j).t).toArray nW) ∈ W.fix)
    (fA : (Ab, PySem.W.listOf avs.toArray nA) ∈ W.fix) (hav0 : IntsAre avs (aboves W)) (fcW : (cW, oW) ∈ W.fix) (hx : x.length ≤ 1000) (hkd : kd < 6)
    (H : HoldsL [(Str.ofString "kind", .int (kd : Int) tkk), (Str.ofString "at", .int (i : Int) ta), (Str.ofString "name", .str x tx), (Str.ofString "figure", .int f tf), (Str.ofString "said", .str (Str.ofString "") t1), (Str.ofString "told", .str (Str.ofString "") t2),
      (Str.ofString "held", .ref (W.c i).h), (Str.ofString "bound", .ref (W.c i).b), (Str.ofString "shut", .ref (W.c i).sh), (Str.ofString "rows", .ref Ro), (Str.ofString "above", .ref Ab)] m)
    (hE0 : PassesOwn (model PySem.Challenge.rw_ov0043_01.row.prog w) (callerA.deeper (lawEnv L a ccd cL cW)) (lawEnv L a ccd cL cW) E)
    (done : ∀ h' tk' m' W' wl' y t1' t2', Fr h₀ L h' m' → News h₀ L h' ((S, So) :: (cL, oL) :: wl') → StepOk w [(S, So), (cL, oL)] W (z + 1) wl W' wl' → m' (Str.ofString "said") = some (.str y t1') → m' (Str.ofString "told") = some (.str y t2') →
      Keep [Str.ofString "said", Str.ofString "told", Str.ofString "refusal", Str.ofString "spot", Str.ofString "there"] m' m → Q .next { s with heap := h', toks := tk' }) :
    wpAny (model PySem.Challenge.rw_ov0043_01.row.prog w) (callerA.deeper (lawEnv L a ccd cL cW)) (exec tryStmt (lawEnv L a ccd cL cW)) Q E s := by
  have : kd = 0 ∨ kd = 1 ∨ kd = 2 ∨ kd = 3 ∨ kd = 4 ∨ kd = 5 := (by decide : ∀ k : Nat, k < 6 → k = 0 ∨ k = 1 ∨ k = 2 ∨ k = 3 ∨ k = 4 ∨ k = 5) kd hkd
  rcases this with rfl | rfl | rfl | rfl | rfl | rfl
  · exact try_kind0 B X T O hz hi F N offT hoW fR fW fA hav0 fcW hx H hE0 done
  · exact try_kind1 B X T O hz hi F N offT hoW fR fW fA hav0 fcW hx H hE0 done
  · exact try_kind2 B X T O hz hi F N offT hoW fR fW fA hav0 fcW hx H hE0 done
  · exact try_kind3 B X T O hz hi F N offT hoW fR fW fA hav0 fcW hx H hE0 done
  · exact try_kind4 B X T O hz hi F N offT hoW fR fW fA hav0 fcW hx H hE0 done
  · exact try_kind5 B X T O hz hi F N offT hoW fR fW fA hav0 fcW hx H hE0 done
noncomputable abbrev deedNames : List Str := [Str.ofString "kind", Str.ofString "at", Str.ofString "name", Str.ofString "figure", Str.ofString "said", Str.ofString "told", Str.ofString "held", Str.ofString "bound", Str.ofString "shut", Str.ofString "refusal", Str.ofString "there", Str.ofString "spot", Str.ofString "chain", Str.ofString "up", Str.ofString "having", Str.ofString "found", Str.ofString "here", Str.ofString "keeper"]
set_option maxHeartbeats 8000000 in
theorem deed_turn {W : Wd} {z nR nW nA nS nV : Nat} {wl : List (Addr × Obj)} {S R : Addr} {oL oW : Obj} {Ro Wa Ab : Addr} {avs rvs : List Value} {ns : List Int} {vL : Option Value} {at_ : Int} {tA : Tok}
    (B : Below callerA h₀ [] h₀) (X : (hd.heap_39 w.params).In h₀) (T : Top hd.view_39 (looseW hd.view_39 []) mean mg mb h₀)
    (O : WOk w W z wl) (hz : z ≤ 20)
    (F : Fr h₀ L s.heap m) (N : News h₀ L s.heap ((S, PySem.W.listOf #[.ref R, .int at_ tA] nS) :: (cL, oL) :: wl)) (offT : ∀ p ∈ wl, p.1 ≠ S ∧ p.1 ≠ cL) (hScL : cL ≠ S) (hoL : oL.data = .cell vL) (hoW : oW.data = .cell (some (.ref Wa)))
    (fR : (Ro, PySem.W.listOf ((List.range W.n).map fun j => Value.ref (W.c j).c.e).toArray nR) ∈ W.fix)
    (fW : (Wa, PySem.W.listOf ((List.range W.n).map fun j => Value.ref (W.c j).t).toArray nW) ∈ W.fix)
    (fA : (Ab, PySem.W.listOf avs.toArray nA) ∈ W.fix) (hav : IntsAre avs (aboves W)) (fcW : (cW, oW) ∈ W.fix)
    (fV : (R, PySem.W.listOf rvs.toArray nV) ∈ W.fix) (hI : IntsAre rvs ns) (hlen : ns.length ≤ 40) (h0 : 0 ≤ at_) (h1 : at_ ≤ 900)
    (H : HoldsL [(Str.ofString "state", .ref S), (Str.ofString "rows", .ref Ro), (Str.ofString "above", .ref Ab)] m)
    (hE : PassesOwn (model PySem.Challenge.rw_ov0043_01.row.prog w) (callerA.deeper (lawEnv L a ccd cL cW)) (lawEnv L a ccd cL cW) E)
    (next : ∀ h' tk' m' W' wl' oL' vL' tA', Fr h₀ L h' m' → News h₀ L h' ((S, PySem.W.listOf #[.ref R, .int (at_ + 1 + 1 + 1 + 1) tA'] nS) :: (cL, oL') :: wl') → oL'.data = .cell vL' → StepOk w [(S, PySem.W.listOf #[.ref R, .int (at_ + 1 + 1 + 1 + 1) tA'] nS), (cL, oL')] W (z + 1) wl W' wl' →
      Keep deedNames m' m → Q .next { s with heap := h', toks := tk' }) :
    wpAny (model PySem.Challenge.rw_ov0043_01.row.prog w) (callerA.deeper (lawEnv L a ccd cL cW)) (execs deedBody (lawEnv L a ccd cL cW)) Q E s := by
  have F0 := fr_upds F H
  clear F
  dsimp only [upds] at F0
  have mW := O.subF _ fW
  have mR := O.subF _ fR
  have mcW := O.subF _ fcW
  have mV := O.subF _ fV
  have offS : ∀ p ∈ (cL, oL) :: wl, p.1 ≠ S := fun p hp => by
    rcases List.mem_cons.mp hp with rfl | hp
    · exact hScL
    · exact (offT p hp).1
  have hsR : ((List.range W.n).map fun j => Value.ref (W.c j).c.e).toArray.size ≤ 1000 := by have := O.top; simp; omega
  have hsW : ((List.range W.n).map fun j => Value.ref (W.c j).t).toArray.size ≤ 1000 := by have := O.top; simp; omega
  have hsz : (((List.range W.n).map fun j => Value.ref (W.c j).c.e).toArray.size : Int) = (W.n : Int) := by simp
  revert X; k_fill; intro X
  conv in deedBody => whnf
  unfold lawEnv at *
  conv in (occs := *) lawScope => all_goals whnf
  dsimp only
  walk_at "mine_to181"
  k_dflt (refine' take_use B F0 X N T rfl offS (.tail _ mV) hI hlen h0 (by omega) (by decide) (by decide) (by decide) (by decide) fun kd tkk tA1 h1 tk1 hkd F1 N1 => ?_)
  clear F0 N
  walk_at "mine_to181"
  k_dflt (refine' take_use B (by assumption) X (by assumption) T rfl offS (.tail _ mV) hI hlen (by omega) (by omega) (by have := O.pos; omega) (by omega) (by decide) (by decide) fun i ta tA2 h2 tk2 hi F2 N2 => ?_)
  have hi : i < W.n := by omega
  walk_at "mine_to181"
  k_dflt (refine' take_use B (by assumption) X (by assumption) T rfl offS (.tail _ mV) hI hlen (by omega) (by omega) (by decide) (by decide) (by decide) (by decide) fun nm tnm tA3 h3 tk3 hnm F3 N3 => ?_)
  walk_at "mine_to181"
  k_dflt (refine' take_use B (by assumption) X (by assumption) T rfl offS (.tail _ mV) hI hlen (by omega) (by omega) (by decide) (by decide) (by decide) (by decide) fun fg tf tA4 h4 tk4 hfg F4 N4 => ?_)
  have gW : ((List.range W.n).map fun j => Value.ref (W.c j).t).toArray[i]? = some (.ref (W.c i).t) := by simp [hi]
  have m5 := O.m5 hi
  walk_at "mine_toTry"
  rename Fr _ _ _ _ => F5
  rename News _ _ _ _ => N5
  rename Str.length _ = 1 => hxl
  have offT2 : ∀ p ∈ wl, ∀ r ∈ [(S, PySem.W.listOf #[.ref R, .int (at_ + 1 + 1 + 1 + 1) tA4] nS), (cL, oL)], p.1 ≠ r.1 := fun p hp r hr => by
    simp only [List.mem_cons, List.not_mem_nil, or_false] at hr
    rcases hr with rfl | rfl
    · exact (offT p hp).1
    · exact (offT p hp).2
  have hx1000 := Nat.le_trans (Nat.le_of_eq hxl) (show 1 ≤ 1000 by decide)
  refine try_any (z := z) (kd := kd) (i := i) B X T O hz hi F5 N5 offT2 hoW fR fW fA hav fcW hx1000 (by omega) ⟨rfl, rfl, rfl, rfl, rfl, rfl, rfl, rfl, rfl, rfl, rfl, trivial⟩ (by exact hE) fun h9 tk9 m9 W' wl' y t1' t2' F6 N6 st hs ht hK => ?_
  have H6 : HoldsL [(Str.ofString "said", .str y t1'), (Str.ofString "told", .str y t2'), (Str.ofString "rows", .ref Ro), (Str.ofString "above", .ref Ab)] m9 := ⟨hs, ht, (hK (Str.ofString "rows") rfl).trans rfl, (hK (Str.ofString "above") rfl).trans rfl, trivial⟩
  clear F5 N5
  have F7 := fr_upds F6 H6
  dsimp only [upds] at F7
  have hyy : (y != y) = false := by simp
  walk_at "mine_toFor"
  have N7 : News h₀ L h9 ((cL, oL) :: (S, PySem.W.listOf #[.ref R, .int (at_ + 1 + 1 + 1 + 1) tA4] nS) :: wl') := news_sub N6 fun p hp => by
    rcases List.mem_cons.mp hp with rfl | hp
    · exact .tail _ (.head _)
    rcases List.mem_cons.mp hp with rfl | hp
    · exact .head _
    · exact .tail _ (.tail _ hp)
  have offL : ∀ p ∈ (S, PySem.W.listOf #[.ref R, .int (at_ + 1 + 1 + 1 + 1) tA4] nS) :: wl', p.1 ≠ cL := fun p hp => by
    rcases List.mem_cons.mp hp with rfl | hp
    · exact hScL.symm
    · exact st.off p hp _ (.tail _ (.head _))
  refine check_loop (W := W') (z := z + 1) B X T (st.ok.mono fun p hp => .tail _ hp) F6 N7 offL hoL hoW (nR := nR) (nW := nW) (nA := nA) (by rw [st.same.rows]; exact .tail _ (st.ok.subF _ (st.same.fix _ fR))) (by rw [st.same.tups]; exact .tail _ (st.ok.subF _ (st.same.fix _ fW))) (.tail _ (st.ok.subF _ (st.same.fix _ fA))) (by rw [st.same.above]; exact hav) (.tail _ (st.ok.subF _ (st.same.fix _ fcW))) ⟨H6.2.2.1, H6.2.2.2.1, trivial⟩ (by exact hE) fun h10 tk10 m10 oL' vL' F8 N8 ho8 hK8 => ?_
  k_steps
  refine next _ _ m10 W' wl' oL' vL' tA4 F8 (news_sub N8 fun p hp => ?_) ho8 (st.top rfl) (Keep.trans (Keep.trans (m' := _) ?_ (hK.more rfl)) (hK8.more rfl))
  · rcases List.mem_cons.mp hp with rfl | hp
    · exact .tail _ (.head _)
    rcases List.mem_cons.mp hp with rfl | hp
    · exact .head _
    · exact .tail _ (.tail _ hp)
  · walk_at "mine_keep2"
end
end
/-! part C13 -/
theorem part_C13 : True := by w_top off; (try walk1); trivial
section
noncomputable def lawTail : List Stmt := lawBody.drop 5
/-- a ledger but for the entries of another -/
noncomputable def butAll (own l : List (Addr × Obj)) : List (Addr × Obj) := l.filter fun p => own.all fun q => decide (p.1 ≠ q.1)
theorem mem_butAll {own l : List (Addr × Obj)} {p : Addr × Obj} : p ∈ butAll own l ↔ p ∈ l ∧ ∀ q ∈ own, p.1 ≠ q.1 := by
  unfold butAll; rw [List.mem_filter]; simp only [List.all_eq_true, decide_eq_true_eq]
theorem WOk.restrict {w : World} {W : Wd} {z : Nat} {own wl : List (Addr × Obj)} (O : WOk w W z wl) (hc : ∀ i, i < W.n → ∀ p ∈ (W.c i).led w, ∀ q ∈ own, p.1 ≠ q.1) (hf : ∀ p ∈ W.fix, ∀ q ∈ own, p.1 ≠ q.1) : WOk w W z (butAll own wl) :=
  { O with sub := fun i hi p hp => mem_butAll.mpr ⟨O.sub i hi p hp, hc i hi p hp⟩, subF := fun p hp => mem_butAll.mpr ⟨O.subF p hp, hf p hp⟩ }
theorem SameAdr.offs {w : World} {W W' : Wd} (h : SameAdr W W') {own : List (Addr × Obj)} {i : Nat} (hc : ∀ p ∈ (W.c i).led w, ∀ q ∈ own, p.1 ≠ q.1) : ∀ p ∈ (W'.c i).led w, ∀ q ∈ own, p.1 ≠ q.1 := off_of_map (h.led w i) hc
section
variable {w : World} {mean : ExcName → Option Value} {mg mb : Str → Option Value} {a : Addr} {ccd : Value} {h₀ : Heap} {L cL cW : Addr} {m : Str → Option Value} {s : Shared} {Q : Flow → Shared → Prop} {E : Value → Shared → Prop}
set_option maxHeartbeats 8000000 in
theorem law_tail {W : Wd} {nR nW nA nS nV : Nat} {wl : List (Addr × Obj)} {S R : Addr} {oL oW : Obj} {Ro Wa Ab : Addr} {avs rvs : List Value} {ns : List Int} {vL : Option Value} {at_ : Int} {tA : Tok}
    (B : Below callerA h₀ [] h₀) (X : (hd.heap_39 w.params).In h₀) (T : Top hd.view_39 (looseW hd.view_39 []) mean mg mb h₀)
    (O : WOk w W 0 wl)
    (F : Fr h₀ L s.heap m) (N : News h₀ L s.heap ((S, PySem.W.listOf #[.ref R, .int at_ tA] nS) :: (cL, oL) :: wl)) (offT : ∀ p ∈ wl, p.1 ≠ S ∧ p.1 ≠ cL) (hScL : cL ≠ S) (hoL : oL.data = .cell vL) (hoW : oW.data = .cell (some (.ref Wa)))
    (fR : (Ro, PySem.W.listOf ((List.range W.n).map fun j => Value.ref (W.c j).c.e).toArray nR) ∈ W.fix)
    (fW : (Wa, PySem.W.listOf ((List.range W.n).map fun j => Value.ref (W.c j).t).toArray nW) ∈ W.fix)
    (fA : (Ab, PySem.W.listOf avs.toArray nA) ∈ W.fix) (hav : IntsAre avs (aboves W)) (fcW : (cW, oW) ∈ W.fix)
    (fV : (R, PySem.W.listOf rvs.toArray nV) ∈ W.fix) (hI : IntsAre rvs ns) (hlen : ns.length ≤ 40) (h0 : 0 ≤ at_) (h1 : at_ ≤ 100)
    (H : HoldsL [(Str.ofString "state", .ref S), (Str.ofString "rows", .ref Ro), (Str.ofString "above", .ref Ab)] m)
    (hE : PassesOwn (model PySem.Challenge.rw_ov0043_01.row.prog w) (callerA.deeper (lawEnv L a ccd cL cW)) (lawEnv L a ccd cL cW) E)
    (ret : ∀ h' tk' m', Fr h₀ L h' m' → Q (.ret (.bool true)) { s with heap := h', toks := tk' }) :
    wpAny (model PySem.Challenge.rw_ov0043_01.row.prog w) (callerA.deeper (lawEnv L a ccd cL cW)) (execs lawTail (lawEnv L a ccd cL cW)) Q E s := by
  have F0 := fr_upds F H
  dsimp only [upds] at F0
  have mV := O.subF _ fV
  have offS : ∀ p ∈ (cL, oL) :: wl, p.1 ≠ S := fun p hp => by
    rcases List.mem_cons.mp hp with rfl | hp
    · exact hScL
    · exact (offT p hp).1
  revert X; k_fill; intro X
  conv in lawTail => whnf
  unfold lawEnv at *
  conv in (occs := *) lawScope => all_goals whnf
  dsimp only
  walk1
  with_unfolding_all refine For_invV h₀ rfl rfl ?_ (hE := by exact hE)
  walk_at "mine_to181"
  k_dflt (refine' take_use B (by assumption) X (by assumption) T rfl offS (.tail _ mV) hI hlen h0 (by omega) (by decide) (by decide) (by decide) (by decide) fun cnt tc tA1 h1 tk1 hcnt F1 N1 => ?_)
  walk_at "mine_toRange"
  have hH0 : HoldsL [(Str.ofString "state", Value.ref S), (Str.ofString "rows", Value.ref Ro), (Str.ofString "above", Value.ref Ab)] (fun y => if y = Str.ofString "state" then some (Value.ref S) else if y = Str.ofString "rows" then some (Value.ref Ro) else if y = Str.ofString "above" then some (Value.ref Ab) else m y) := ⟨rfl, rfl, rfl, trivial⟩
  with_unfolding_all refine rng_loop (n := 1 + cnt) (fun i m' nx => ∃ W' wl' oL' vL' tA', nx = (S, PySem.W.listOf #[.ref R, .int (at_ + 1 + 4 * (i : Int)) tA'] nS) :: (cL, oL') :: wl' ∧ oL'.data = .cell vL' ∧ WOk w W' i wl' ∧ SameAdr W W' ∧ (∀ p ∈ wl', p.1 ≠ S ∧ p.1 ≠ cL) ∧ HoldsL [(Str.ofString "state", Value.ref S), (Str.ofString "rows", Value.ref Ro), (Str.ofString "above", Value.ref Ab)] m') rfl (by omega) (by omega) F1 N1 ⟨W, wl, oL, vL, tA1, by rw [show at_ + 1 + 4 * ((0 : Nat) : Int) = at_ + 1 by omega], hoL, O, SameAdr.refl, offT, hH0⟩ ?_ ?_
  · rintro i t m₁ nx h tk own hi ho ⟨W', wl', oL', vL', tA', rfl, hoL', O', sm, offT', H'⟩ F3 N3
    have hS : ∀ q ∈ own, q.1 ≠ S := fun q hq => (ho _ (.head _) q hq).symm
    have hcL : ∀ q ∈ own, q.1 ≠ cL := fun q hq => (ho _ (.tail _ (.head _)) q hq).symm
    have hwl : ∀ p ∈ wl', ∀ q ∈ own, p.1 ≠ q.1 := fun p hp q hq => ho p (.tail _ (.tail _ hp)) q hq
    have N4 : News h₀ L h ((S, PySem.W.listOf #[.ref R, .int (at_ + 1 + 4 * (i : Int)) tA'] nS) :: (cL, oL') :: (own ++ wl')) := news_sub N3 fun p hp => by
      rcases List.mem_cons.mp hp with rfl | hp
      · exact List.mem_append_right _ (.head _)
      rcases List.mem_cons.mp hp with rfl | hp
      · exact List.mem_append_right _ (.tail _ (.head _))
      rcases List.mem_append.mp hp with hp | hp
      · exact List.mem_append_left _ hp
      · exact List.mem_append_right _ (.tail _ (.tail _ hp))
    have off4 : ∀ p ∈ own ++ wl', p.1 ≠ S ∧ p.1 ≠ cL := fun p hp => by
      rcases List.mem_append.mp hp with hp | hp
      · exact ⟨hS p hp, hcL p hp⟩
      · exact offT' p hp
    refine deed_turn (W := W') (z := i) (nR := nR) (nW := nW) (nA := nA) (nV := nV) B X T (O'.mono fun p hp => List.mem_append_right _ hp) (by omega) F3 N4 off4 hScL hoL' hoW (by rw [sm.rows]; exact sm.fix _ fR) (by rw [sm.tups]; exact sm.fix _ fW) (sm.fix _ fA) (by rw [sm.above]; exact hav) (sm.fix _ fcW) (sm.fix _ fV) hI hlen (by omega) (by omega) ⟨H'.1, H'.2.1, H'.2.2.1, trivial⟩ (by exact hE) fun h5 tk5 m5 W5 wl5 oL5 vL5 tA5 F5 N5 ho5 st hK5 => ?_
    have cells : ∀ j, j < W5.n → ∀ p ∈ (W5.c j).led w, ∀ q ∈ own, p.1 ≠ q.1 := fun j hj => st.same.offs fun p hp q hq => hwl p (O'.sub j (by rw [← st.same.n]; exact hj) p hp) q hq
    have fixes : ∀ p ∈ W5.fix, ∀ q ∈ own, p.1 ≠ q.1 := fun p hp q hq => by
      rcases st.new p hp with h | h
      · exact hwl p (O'.subF p h) q hq
      · exact h q (List.mem_append_left _ hq)
    have keepo : ∀ q ∈ own, q ∈ wl5 := fun q hq => st.keep q (List.mem_append_left _ hq) fun j hj r hr => (hwl r (O'.sub j hj r hr) q hq).symm
    refine RngEnd.intro (nx := (S, PySem.W.listOf #[.ref R, .int (at_ + 1 + 4 * (i : Int) + 1 + 1 + 1 + 1) tA5] nS) :: (cL, oL5) :: butAll own wl5) F5 (news_sub N5 fun p hp => ?_) (fun p hp q hq => ?_) ⟨W5, butAll own wl5, oL5, vL5, tA5, ?_, ho5, st.ok.restrict cells fixes, sm.trans st.same, fun p hp => ?_, ?_⟩
    · rcases List.mem_append.mp hp with hp | hp
      · exact .tail _ (.tail _ (keepo p hp))
      rcases List.mem_cons.mp hp with rfl | hp
      · exact .head _
      rcases List.mem_cons.mp hp with rfl | hp
      · exact .tail _ (.head _)
      · exact .tail _ (.tail _ (mem_butAll.mp hp).1)
    · rcases List.mem_cons.mp hp with rfl | hp
      · exact (hS q hq).symm
      rcases List.mem_cons.mp hp with rfl | hp
      · exact (hcL q hq).symm
      · exact (mem_butAll.mp hp).2 q hq
    · rw [show at_ + 1 + 4 * ((i + 1 : Nat) : Int) = at_ + 1 + 4 * (i : Int) + 1 + 1 + 1 + 1 by omega]
    · have h9 := (mem_butAll.mp hp).1
      exact ⟨st.off p h9 _ (.head _), st.off p h9 _ (.tail _ (.head _))⟩
    · exact hK5.holds (bs := [(Str.ofString "state", Value.ref S), (Str.ofString "rows", Value.ref Ro), (Str.ofString "above", Value.ref Ab)]) ⟨H'.1, H'.2.1, H'.2.2.1, trivial⟩ rfl
  · rintro m₁ nx h tk ⟨W', wl', oL', vL', tA', rfl, hoL', O', sm, offT', H'⟩ F3 N3
    clear F0 F1 N1
    k_steps
    exact ret _ _ _ F3
end
end
/-! part C14 -/
theorem part_C14 : True := by w_top off; (try walk1); trivial
section
section
variable {w : World} {mean : ExcName → Option Value} {mg mb : Str → Option Value} {a : Addr} {ccd : Value} {h₀ : Heap} {L cL cW : Addr} {m : Str → Option Value} {s : Shared} {Q E : Value → Shared → Prop}
set_option maxHeartbeats 4000000 in
theorem env_spec {wl : List (Addr × Obj)} {nt : Tok} {num : Int} {par : Value}
    (B : Below callerA h₀ [] h₀) (F : Fr h₀ L s.heap m) (X : (hd.heap_39 w.params).In h₀) (N : News h₀ L s.heap wl)
    (T : Top hd.view_39 (looseW hd.view_39 []) mean mg mb h₀) (hp : handedIn par = true)
    (ret : ∀ (c : Nd) lo h' tk', Fr h₀ L h' m → News h₀ L h' ((c.l, lo) :: (c.f, c.fo) :: (c.e, instObj 163 c.d) :: (c.d, c.dct w) :: wl) → (∀ p ∈ wl, p.1 < c.d) → c.d < c.e → c.e < c.f → c.f < c.l → c.num = num → c.par = par → c.lk = false → c.fk = [] →
      c.fo.IsDictOf (PySem.strKind PySem.Challenge.rw_ov0043_01.row.prog w) [] → lo.IsDictOf (PySem.strKind PySem.Challenge.rw_ov0043_01.row.prog w) [] → (c.f == sysModules) = false → (c.l == sysModules) = false → Q (.ref c.e) { s with heap := h', toks := tk' }) :
    wpAny (model PySem.Challenge.rw_ov0043_01.row.prog w) (callerA.deeper (lawEnv L a ccd cL cW)) (call (.ref 163) [.int num nt, par]) Q E s := by
  revert X; k_fill; intro X
  unfold lawEnv at *
  conv in (occs := *) lawScope => all_goals whnf
  dsimp only
  k_steps
  exact ret ⟨_, _, _, _, (fun i => [_, _, _, _, _, _, _, _].getD i 0), num, nt, par, false, _, []⟩ _ _ _ (by assumption) (by assumption) (by assumption) (by assumption) (by assumption : _ ∧ _ ∧ AllLt _ wl).1 (by assumption : _ ∧ _ ∧ _ ∧ AllLt _ wl).1 rfl rfl rfl rfl (by assumption) (by assumption) (by assumption) (by assumption)
end
end
/-! part C15 -/
theorem part_C15 : True := by w_top off; (try walk1); trivial
section
noncomputable def buildFor : Stmt := nthS lawBody 3
/-- the environments alone, before the law's own book is made -/
structure Pre where
  n : Nat
  up : Nat → Nat
  c : Nat → Nd
  lo : Nat → Obj
noncomputable def led4 (w : World) (c : Nd) (lo : Obj) : List (Addr × Obj) := [(c.e, instObj 163 c.d), (c.d, c.dct w), (c.f, c.fo), (c.l, lo)]
structure PreCell (w : World) (i : Nat) (c : Nd) (lo : Obj) : Prop where
  num : c.num = (i : Int)
  lk : c.lk = false
  fk : c.fk = []
  hf : c.fo.IsDictOf (PySem.strKind PySem.Challenge.rw_ov0043_01.row.prog w) []
  hl : lo.IsDictOf (PySem.strKind PySem.Challenge.rw_ov0043_01.row.prog w) []
  nf : (c.f == sysModules) = false
  nl : (c.l == sysModules) = false
  ord : c.d < c.e ∧ c.e < c.f ∧ c.f < c.l
structure PreOk (w : World) (P : Pre) (wl : List (Addr × Obj)) : Prop where
  pos : 0 < P.n
  upl : ∀ i, 0 < i → i < P.n → P.up i < i
  par0 : (P.c 0).par = .none
  par : ∀ i, 0 < i → i < P.n → (P.c i).par = .ref (P.c (P.up i)).e
  cell : ∀ i, i < P.n → PreCell w i (P.c i) (P.lo i)
  sub : ∀ i, i < P.n → ∀ p ∈ led4 w (P.c i) (P.lo i), p ∈ wl
  dis : ∀ i j, i < P.n → j < P.n → i ≠ j → AdrOff (led4 w (P.c i) (P.lo i)) (led4 w (P.c j) (P.lo j))
theorem rotc {α : Type} {a b c : α} {l r : List α} : ∀ p, p ∈ a :: b :: c :: (l ++ r) → p ∈ l ++ a :: b :: c :: r := fun p hp => by
  rcases List.mem_cons.mp hp with rfl | hp
  · exact List.mem_append_right _ (.head _)
  rcases List.mem_cons.mp hp with rfl | hp
  · exact List.mem_append_right _ (.tail _ (.head _))
  rcases List.mem_cons.mp hp with rfl | hp
  · exact List.mem_append_right _ (.tail _ (.tail _ (.head _)))
  rcases List.mem_append.mp hp with hp | hp
  · exact List.mem_append_left _ hp
  · exact List.mem_append_right _ (.tail _ (.tail _ (.tail _ hp)))
theorem perm4 {α : Type} {a b c e d f l : α} {r : List α} : ∀ p, p ∈ a :: b :: c :: ([e, d, f, l] ++ r) → p ∈ l :: f :: e :: d :: a :: b :: c :: r := fun p hp => by
  have hp := rotc p hp
  rcases List.mem_append.mp hp with hp | hp
  · rcases List.mem_cons.mp hp with rfl | hp
    · exact .tail _ (.tail _ (.head _))
    rcases List.mem_cons.mp hp with rfl | hp
    · exact .tail _ (.tail _ (.tail _ (.head _)))
    rcases List.mem_cons.mp hp with rfl | hp
    · exact .tail _ (.head _)
    rcases List.mem_cons.mp hp with rfl | hp
    · exact .head _
    · cases hp
  · exact .tail _ (.tail _ (.tail _ (.tail _ hp)))
theorem PreOk.mono {w : World} {P : Pre} {wl wl' : List (Addr × Obj)} (O : PreOk w P wl) (hs : ∀ p ∈ wl, p ∈ wl') : PreOk w P wl' := { O with sub := fun i hi p hp => hs p (O.sub i hi p hp) }
theorem PreOk.restrict {w : World} {P : Pre} {own wl : List (Addr × Obj)} (O : PreOk w P wl) (hc : ∀ i, i < P.n → ∀ p ∈ led4 w (P.c i) (P.lo i), ∀ q ∈ own, p.1 ≠ q.1) : PreOk w P (butAll own wl) :=
  { O with sub := fun i hi p hp => mem_butAll.mpr ⟨O.sub i hi p hp, hc i hi p hp⟩ }
noncomputable def abv (n : Nat) (up : Nat → Nat) : List Int := (List.range n).map fun j => if j = 0 then -1 else (up j : Int)
noncomputable def rowsP (P : Pre) : List Value := (List.range P.n).map fun j => Value.ref (P.c j).e
noncomputable def Pre.snoc (P : Pre) (k : Nat) (c : Nd) (lo : Obj) : Pre := { n := P.n + 1, up := fun j => if j = P.n then k else P.up j, c := fun j => if j = P.n then c else P.c j, lo := fun j => if j = P.n then lo else P.lo j }
section
variable {w : World} {P : Pre} {wl wl' : List (Addr × Obj)} {k : Nat} {c : Nd} {lo : Obj}
theorem snoc_c {j : Nat} (h : j < P.n) : (P.snoc k c lo).c j = P.c j := if_neg (Nat.ne_of_lt h)
theorem snoc_lo {j : Nat} (h : j < P.n) : (P.snoc k c lo).lo j = P.lo j := if_neg (Nat.ne_of_lt h)
theorem snoc_up {j : Nat} (h : j < P.n) : (P.snoc k c lo).up j = P.up j := if_neg (Nat.ne_of_lt h)
theorem snoc_cn : (P.snoc k c lo).c P.n = c := if_pos rfl
theorem snoc_lon : (P.snoc k c lo).lo P.n = lo := if_pos rfl
theorem snoc_upn : (P.snoc k c lo).up P.n = k := if_pos rfl
theorem rowsP_snoc : rowsP (P.snoc k c lo) = rowsP P ++ [Value.ref c.e] := by
  unfold rowsP
  show (List.range (P.n + 1)).map _ = _
  rw [List.range_succ, List.map_append, List.map_singleton, snoc_cn]
  congr 1
  exact List.map_congr_left fun j hj => by rw [snoc_c (List.mem_range.mp hj)]
theorem abv_snoc (hp : 0 < P.n) : abv (P.n + 1) (P.snoc k c lo).up = abv P.n P.up ++ [(k : Int)] := by
  unfold abv
  rw [List.range_succ, List.map_append, List.map_singleton, snoc_upn, if_neg (by omega)]
  congr 1
  exact List.map_congr_left fun j hj => by rw [snoc_up (List.mem_range.mp hj)]
theorem PreOk.snoc (O : PreOk w P wl) (hk : k < P.n) (hpar : c.par = .ref (P.c k).e) (hc : PreCell w P.n c lo) (hs : ∀ p ∈ wl, p ∈ wl') (hs4 : ∀ p ∈ led4 w c lo, p ∈ wl') (hd : AdrOff (led4 w c lo) wl) : PreOk w (P.snoc k c lo) wl' := by
  have split : ∀ i, i < (P.snoc k c lo).n → i < P.n ∨ i = P.n := fun i hi => by
    have : i < P.n + 1 := hi
    omega
  refine ⟨Nat.succ_pos _, fun i h0 hi => ?_, ?_, fun i h0 hi => ?_, fun i hi => ?_, fun i hi => ?_, fun i j hi hj hij => ?_⟩
  · rcases split i hi with h | rfl
    · rw [snoc_up h]; exact O.upl i h0 h
    · rw [snoc_upn]; exact hk
  · rw [snoc_c O.pos]; exact O.par0
  · rcases split i hi with h | rfl
    · have h2 := O.upl i h0 h
      rw [snoc_c h, snoc_up h, snoc_c (Nat.lt_trans h2 h)]; exact O.par i h0 h
    · rw [snoc_cn, snoc_upn, snoc_c hk]; exact hpar
  · rcases split i hi with h | rfl
    · rw [snoc_c h, snoc_lo h]; exact O.cell i h
    · rw [snoc_cn, snoc_lon]; exact hc
  · rcases split i hi with h | rfl
    · rw [snoc_c h, snoc_lo h]; exact fun p hp => hs p (O.sub i h p hp)
    · rw [snoc_cn, snoc_lon]; exact hs4
  · rcases split i hi with h | rfl <;> rcases split j hj with h' | rfl
    · rw [snoc_c h, snoc_lo h, snoc_c h', snoc_lo h']; exact O.dis i j h h' hij
    · rw [snoc_c h, snoc_lo h, snoc_cn, snoc_lon]
      exact AdrOff.symm fun p hp q hq => hd p hp q (O.sub i h q hq)
    · rw [snoc_c h', snoc_lo h', snoc_cn, snoc_lon]
      exact fun p hp q hq => hd p hp q (O.sub j h' q hq)
    · exact absurd rfl hij
end
/-- the building loop's invariant -/
noncomputable def BuildInv (w : World) (S R Ro Ab : Addr) (nS : Nat) (fixp : List (Addr × Obj)) (i : Nat) (m : Str → Option Value) (nx : List (Addr × Obj)) : Prop :=
  ∃ P wl nR nA avs at_ tA, nx = (S, PySem.W.listOf #[.ref R, .int at_ tA] nS) :: (Ro, PySem.W.listOf (rowsP P).toArray nR) :: (Ab, PySem.W.listOf avs.toArray nA) :: wl ∧ PreOk w P wl ∧ P.n = i + 1 ∧ IntsAre avs (abv P.n P.up) ∧ (0 ≤ at_ ∧ at_ ≤ 1 + (i : Int)) ∧ (∀ p ∈ fixp, p ∈ wl) ∧
    (∀ i, i < P.n → AdrOff (led4 w (P.c i) (P.lo i)) fixp) ∧ (∀ p ∈ wl, p.1 ≠ S ∧ p.1 ≠ Ro ∧ p.1 ≠ Ab) ∧ HoldsL [(Str.ofString "state", Value.ref S), (Str.ofString "rows", Value.ref Ro), (Str.ofString "above", Value.ref Ab)] m
local macro_rules | `(tactic| k_all) => `(tactic| first | assumption | exact List.forall_mem_nil _ | (refine' List.forall_mem_cons.mpr ⟨?a, ?b⟩; (case a => k_ne); (case b => k_all)))
local macro_rules | `(tactic| walk_at "call builtin:list.append") => `(tactic| k_extra "mine_w43")
section
variable {w : World} {mean : ExcName → Option Value} {mg mb : Str → Option Value} {a : Addr} {ccd : Value} {h₀ : Heap} {L cL cW : Addr} {m : Str → Option Value} {s : Shared} {Q : Flow → Shared → Prop} {E : Value → Shared → Prop}
set_option maxHeartbeats 8000000 in
theorem build_turn {P : Pre} {nS nR nA nV : Nat} {wl : List (Addr × Obj)} {S R Ro Ab : Addr} {avs rvs : List Value} {ns : List Int} {at_ : Int} {tA : Tok}
    (B : Below callerA h₀ [] h₀) (X : (hd.heap_39 w.params).In h₀) (T : Top hd.view_39 (looseW hd.view_39 []) mean mg mb h₀)
    (O : PreOk w P wl) (hn : P.n ≤ 10)
    (F : Fr h₀ L s.heap m) (N : News h₀ L s.heap ((S, PySem.W.listOf #[.ref R, .int at_ tA] nS) :: (Ro, PySem.W.listOf (rowsP P).toArray nR) :: (Ab, PySem.W.listOf avs.toArray nA) :: wl)) (off : ∀ p ∈ wl, p.1 ≠ S ∧ p.1 ≠ Ro ∧ p.1 ≠ Ab) (hRS : Ro ≠ S) (hAS : Ab ≠ S) (hAR : Ab ≠ Ro)
    (hav : IntsAre avs (abv P.n P.up)) (mV : (R, PySem.W.listOf rvs.toArray nV) ∈ wl) (hI : IntsAre rvs ns) (hlen : ns.length ≤ 40) (h0 : 0 ≤ at_) (h1 : at_ ≤ 900)
    (H : HoldsL [(Str.ofString "state", .ref S), (Str.ofString "rows", .ref Ro), (Str.ofString "above", .ref Ab)] m)
    (next : ∀ (h' : Heap) (tk' : Nat) (m' : Str → Option Value) (k : Nat) (c : Nd) (lo : Obj) (nR' nA' : Nat) (tA' ta : Tok), k < P.n → Fr h₀ L h' m' → News h₀ L h' ((S, PySem.W.listOf #[.ref R, .int (at_ + 1) tA'] nS) :: (Ro, PySem.W.listOf (rowsP (P.snoc k c lo)).toArray nR') :: (Ab, PySem.W.listOf (avs ++ [Value.int (k : Int) ta]).toArray nA') :: (led4 w c lo ++ wl)) →
      PreOk w (P.snoc k c lo) (led4 w c lo ++ wl) → (∀ p ∈ led4 w c lo, ∀ q ∈ (S, PySem.W.listOf #[.ref R, .int at_ tA] nS) :: (Ro, PySem.W.listOf (rowsP P).toArray nR) :: (Ab, PySem.W.listOf avs.toArray nA) :: wl, p.1 ≠ q.1) → Keep [Str.ofString "at"] m' m → Q .next { s with heap := h', toks := tk' }) :
    wpAny (model PySem.Challenge.rw_ov0043_01.row.prog w) (callerA.deeper (lawEnv L a ccd cL cW)) (execs buildBody (lawEnv L a ccd cL cW)) Q E s := by
  have F0 := fr_upds F H
  clear F
  dsimp only [upds] at F0
  have offS : ∀ p ∈ (Ro, PySem.W.listOf (rowsP P).toArray nR) :: (Ab, PySem.W.listOf avs.toArray nA) :: wl, p.1 ≠ S := fun p hp => by
    rcases List.mem_cons.mp hp with rfl | hp
    · exact hRS
    rcases List.mem_cons.mp hp with rfl | hp
    · exact hAS
    · exact (off p hp).1
  have offR : ∀ p ∈ wl, p.1 ≠ Ro := fun p hp => (off p hp).2.1
  have offA : ∀ p ∈ wl, p.1 ≠ Ab := fun p hp => (off p hp).2.2
  have hsR : (rowsP P).toArray.size ≤ 1000 := by simp [rowsP]; omega
  have hsz : ((rowsP P).toArray.size : Int) = (P.n : Int) := by simp [rowsP]
  have hsA : avs.toArray.size ≤ 1000 := by have h1 := hav.length; simp [abv] at h1; simp; omega
  revert X; k_fill; intro X
  conv in buildBody => whnf
  unfold lawEnv at *
  conv in (occs := *) lawScope => all_goals whnf
  dsimp only
  walk_at "mine_to181"
  k_dflt (refine' take_use B (by assumption) X (by assumption) T rfl offS (.tail _ (.tail _ mV)) hI hlen h0 (by omega) (by have := O.pos; omega) (by omega) (by decide) (by decide) fun k ta tA1 h2 tk2 hk F2 N2 => ?_)
  have hk : k < P.n := by omega
  have gR : (rowsP P).toArray[k]? = some (.ref (P.c k).e) := by simp [rowsP, hk]
  walk_at "mine_to163"
  k_dflt (refine' env_spec B (by assumption) X (by assumption) T rfl fun c lo h3 tk3 F3 N3 hlt o1 o2 o3 e1 e2 e3 e4 hf hl nf nl => ?_)
  have hlt2 := allLt_of hlt
  simp only [AllLt, and_true] at hlt2
  have p1 := ltN o1
  have p2 := ltN o2
  have p3 := ltN o3
  have q1 := neN hRS
  have q2 := neN hAS
  have q3 := neN hAR
  k_steps
  rename Fr _ _ _ _ => F7
  rename News _ _ _ _ => N7
  rw [List.push_toArray, List.push_toArray, ← rowsP_snoc (k := k) (lo := lo)] at N7
  have hc : PreCell w P.n c lo := ⟨e1.trans hsz, e3, e4, hf, hl, nf, nl, o1, o2, o3⟩
  have hoff : ∀ p ∈ led4 w c lo, ∀ q ∈ (S, PySem.W.listOf #[.ref R, .int at_ tA] nS) :: (Ro, PySem.W.listOf (rowsP P).toArray nR) :: (Ab, PySem.W.listOf avs.toArray nA) :: wl, p.1 ≠ q.1 := fun p hp q hq => by
    have hq2 : @LT.lt Nat _ q.1 c.d := by
      rcases List.mem_cons.mp hq with rfl | hq
      · exact hlt2.1
      rcases List.mem_cons.mp hq with rfl | hq
      · exact hlt2.2.1
      rcases List.mem_cons.mp hq with rfl | hq
      · exact hlt2.2.2.1
      · exact allLt_mem hlt2.2.2.2 q hq
    refine neN ?_
    simp only [led4, List.mem_cons, List.not_mem_nil, or_false] at hp
    rcases hp with rfl | rfl | rfl | rfl <;> dsimp only <;> omega
  refine next _ _ _ k c lo (nR + 1) (nA + 1) tA1 ta hk F7 (news_sub N7 ?_) (O.snoc hk e2 hc (fun p hp => List.mem_append_right _ hp) (fun p hp => List.mem_append_left _ hp) fun p hp q hq => hoff p hp q (.tail _ (.tail _ (.tail _ hq)))) hoff (by walk_at "mine_keep")
  exact fun p hp => perm4 p hp
set_option maxHeartbeats 8000000 in
theorem build_loop {P : Pre} {nS nR nA nV : Nat} {wl fixp : List (Addr × Obj)} {S R Ro Ab : Addr} {avs rvs : List Value} {ns : List Int} {tA : Tok}
    (B : Below callerA h₀ [] h₀) (X : (hd.heap_39 w.params).In h₀) (T : Top hd.view_39 (looseW hd.view_39 []) mean mg mb h₀)
    (O : PreOk w P wl) (hn : P.n = 1)
    (F : Fr h₀ L s.heap m) (N : News h₀ L s.heap ((S, PySem.W.listOf #[.ref R, .int 0 tA] nS) :: (Ro, PySem.W.listOf (rowsP P).toArray nR) :: (Ab, PySem.W.listOf avs.toArray nA) :: wl)) (off : ∀ p ∈ wl, p.1 ≠ S ∧ p.1 ≠ Ro ∧ p.1 ≠ Ab) (hRS : Ro ≠ S) (hAS : Ab ≠ S) (hAR : Ab ≠ Ro)
    (hav : IntsAre avs (abv P.n P.up)) (mV : (R, PySem.W.listOf rvs.toArray nV) ∈ fixp) (hfix : ∀ p ∈ fixp, p ∈ wl) (hfo : ∀ i, i < P.n → AdrOff (led4 w (P.c i) (P.lo i)) fixp) (hI : IntsAre rvs ns) (hlen : ns.length ≤ 40)
    (H : HoldsL [(Str.ofString "state", .ref S), (Str.ofString "rows", .ref Ro), (Str.ofString "above", .ref Ab)] m)
    (hE : PassesOwn (model PySem.Challenge.rw_ov0043_01.row.prog w) (callerA.deeper (lawEnv L a ccd cL cW)) (lawEnv L a ccd cL cW) E)
    (next : ∀ h' tk' m' nx (i : Nat), Fr h₀ L h' m' → News h₀ L h' nx → i ≤ 4 → BuildInv w S R Ro Ab nS fixp i m' nx → Q .next { s with heap := h', toks := tk' }) :
    wpAny (model PySem.Challenge.rw_ov0043_01.row.prog w) (callerA.deeper (lawEnv L a ccd cL cW)) (exec buildFor (lawEnv L a ccd cL cW)) Q E s := by
  have F0 := fr_upds F H
  dsimp only [upds] at F0
  have offS : ∀ p ∈ (Ro, PySem.W.listOf (rowsP P).toArray nR) :: (Ab, PySem.W.listOf avs.toArray nA) :: wl, p.1 ≠ S := fun p hp => by
    rcases List.mem_cons.mp hp with rfl | hp
    · exact hRS
    rcases List.mem_cons.mp hp with rfl | hp
    · exact hAS
    · exact (off p hp).1
  revert X; k_fill; intro X
  conv in buildFor => whnf
  unfold lawEnv at *
  conv in (occs := *) lawScope => all_goals whnf
  dsimp only
  with_unfolding_all refine For_invV h₀ rfl rfl ?_ (hE := by exact hE)
  walk_at "mine_to181"
  k_dflt (refine' take_use B (by assumption) X (by assumption) T rfl offS (.tail _ (.tail _ (hfix _ mV))) hI hlen (by decide) (by decide) (by decide) (by decide) (by decide) (by decide) fun cnt tc tA1 h1 tk1 hcnt F1 N1 => ?_)
  walk_at "mine_toRange"
  have hH0 : HoldsL [(Str.ofString "state", Value.ref S), (Str.ofString "rows", Value.ref Ro), (Str.ofString "above", Value.ref Ab)] (fun y => if y = Str.ofString "state" then some (Value.ref S) else if y = Str.ofString "rows" then some (Value.ref Ro) else if y = Str.ofString "above" then some (Value.ref Ab) else m y) := ⟨rfl, rfl, rfl, trivial⟩
  with_unfolding_all refine rng_loop (n := cnt) (BuildInv w S R Ro Ab nS fixp) rfl (by omega) (by omega) F1 N1 ⟨P, wl, nR, nA, avs, 1, tA1, rfl, O, hn, hav, ⟨by decide, by decide⟩, hfix, hfo, off, hH0⟩ ?_ ?_
  · rintro i t m₁ nx h tk own hi ho ⟨P1, wl1, nR1, nA1, avs1, at1, tA2, rfl, O1, hn1, hav1, ⟨h01, h11⟩, hfix1, hfo1, off1, H1⟩ F3 N3
    have hS : ∀ q ∈ own, q.1 ≠ S := fun q hq => (ho _ (.head _) q hq).symm
    have hRo : ∀ q ∈ own, q.1 ≠ Ro := fun q hq => (ho _ (.tail _ (.head _)) q hq).symm
    have hAb : ∀ q ∈ own, q.1 ≠ Ab := fun q hq => (ho _ (.tail _ (.tail _ (.head _))) q hq).symm
    have hwl : ∀ p ∈ wl1, ∀ q ∈ own, p.1 ≠ q.1 := fun p hp q hq => ho p (.tail _ (.tail _ (.tail _ hp))) q hq
    have N4 : News h₀ L h ((S, PySem.W.listOf #[.ref R, .int at1 tA2] nS) :: (Ro, PySem.W.listOf (rowsP P1).toArray nR1) :: (Ab, PySem.W.listOf avs1.toArray nA1) :: (own ++ wl1)) := news_sub N3 (fun p hp => rotc p hp)
    have off4 : ∀ p ∈ own ++ wl1, p.1 ≠ S ∧ p.1 ≠ Ro ∧ p.1 ≠ Ab := fun p hp => by
      rcases List.mem_append.mp hp with hp | hp
      · exact ⟨hS p hp, hRo p hp, hAb p hp⟩
      · exact off1 p hp
    refine build_turn (nV := nV) (ns := ns) B X T (O1.mono fun p hp => List.mem_append_right _ hp) (by omega) F3 N4 off4 hRS hAS hAR hav1 (List.mem_append_right _ (hfix1 _ mV)) hI hlen h01 (by omega) ⟨H1.1, H1.2.1, H1.2.2.1, trivial⟩ fun h5 tk5 m5 k c lo nR5 nA5 tA5 ta5 hk F5 N5 O5 hoff hK5 => ?_
    have hoff' : ∀ p ∈ led4 w c lo, ∀ q ∈ own, p.1 ≠ q.1 := fun p hp q hq => hoff p hp q (.tail _ (.tail _ (.tail _ (List.mem_append_left _ hq))))
    have sn : ∀ j, j < (P1.snoc k c lo).n → j < P1.n ∨ j = P1.n := fun j hj => by
      have : j < P1.n + 1 := hj
      omega
    have cells : ∀ j, j < (P1.snoc k c lo).n → ∀ p ∈ led4 w ((P1.snoc k c lo).c j) ((P1.snoc k c lo).lo j), ∀ q ∈ own, p.1 ≠ q.1 := fun j hj p hp q hq => by
      rcases sn j hj with h | rfl
      · rw [snoc_c h, snoc_lo h] at hp
        exact hwl p (O1.sub j h p hp) q hq
      · rw [snoc_cn, snoc_lon] at hp
        exact hoff' p hp q hq
    have e1 : (P1.snoc k c lo).n = i + 1 + 1 := by show P1.n + 1 = _; rw [hn1]
    have hav5 : IntsAre (avs1 ++ [Value.int (k : Int) ta5]) (abv (P1.snoc k c lo).n (P1.snoc k c lo).up) := by
      show IntsAre _ (abv (P1.n + 1) _)
      rw [abv_snoc O1.pos]
      exact IntsAre.append hav1 (.cons _ _ .nil)
    refine RngEnd.intro (nx := (S, PySem.W.listOf #[.ref R, .int (at1 + 1) tA5] nS) :: (Ro, PySem.W.listOf (rowsP (P1.snoc k c lo)).toArray nR5) :: (Ab, PySem.W.listOf (avs1 ++ [Value.int (k : Int) ta5]).toArray nA5) :: butAll own (led4 w c lo ++ (own ++ wl1))) F5 (news_sub N5 fun p hp => ?_) (fun p hp q hq => ?_) ⟨P1.snoc k c lo, butAll own (led4 w c lo ++ (own ++ wl1)), nR5, nA5, avs1 ++ [Value.int (k : Int) ta5], at1 + 1, tA5, rfl, O5.restrict cells, e1, hav5, ⟨by omega, by omega⟩, fun p hp => mem_butAll.mpr ⟨List.mem_append_right _ (List.mem_append_right _ (hfix1 p hp)), fun q hq => hwl p (hfix1 p hp) q hq⟩, ?_, ?_, ?_⟩
    · rcases List.mem_append.mp hp with hp | hp
      · exact .tail _ (.tail _ (.tail _ (List.mem_append_right _ (List.mem_append_left _ hp))))
      rcases List.mem_cons.mp hp with rfl | hp
      · exact .head _
      rcases List.mem_cons.mp hp with rfl | hp
      · exact .tail _ (.head _)
      rcases List.mem_cons.mp hp with rfl | hp
      · exact .tail _ (.tail _ (.head _))
      · exact .tail _ (.tail _ (.tail _ (mem_butAll.mp hp).1))
    · rcases List.mem_cons.mp hp with rfl | hp
      · exact (hS q hq).symm
      rcases List.mem_cons.mp hp with rfl | hp
      · exact (hRo q hq).symm
      rcases List.mem_cons.mp hp with rfl | hp
      · exact (hAb q hq).symm
      · exact (mem_butAll.mp hp).2 q hq
    · intro j hj
      rcases sn j hj with h | rfl
      · rw [snoc_c h, snoc_lo h]; exact hfo1 j h
      · rw [snoc_cn, snoc_lon]
        exact fun p hp q hq => hoff p hp q (.tail _ (.tail _ (.tail _ (List.mem_append_right _ (hfix1 q hq)))))
    · intro p hp
      have h9 := (mem_butAll.mp hp).1
      rcases List.mem_append.mp h9 with h9 | h9
      · exact ⟨hoff p h9 _ (.head _), hoff p h9 _ (.tail _ (.head _)), hoff p h9 _ (.tail _ (.tail _ (.head _)))⟩
      · exact off4 p h9
    · exact hK5.holds (bs := [(Str.ofString "state", Value.ref S), (Str.ofString "rows", Value.ref Ro), (Str.ofString "above", Value.ref Ab)]) ⟨H1.1, H1.2.1, H1.2.2.1, trivial⟩ rfl
  · rintro m₁ nx h tk hJ F3 N3
    exact next _ _ _ _ cnt F3 N3 (by omega) hJ
end
end
end
/-! part C16 -/
theorem part_C16 : True := by w_top off; (try walk1); trivial
section
noncomputable def worldStmt : Stmt := nthS lawBody 4
/-- what the law's book holds of one environment -/
structure Md where
  t : Addr
  h : Addr
  b : Addr
  sh : Addr
  nt : Nat
  nb : Nat
  ns : Nat
  ho : Obj
noncomputable def Md.led (q : Md) : List (Addr × Obj) := [(q.t, PySem.W.listOf #[.ref q.h, .ref q.b, .ref q.sh] q.nt), (q.h, q.ho), (q.b, PySem.W.listOf #[] q.nb), (q.sh, PySem.W.listOf #[.bool false] q.ns)]
structure MdCell (w : World) (q : Md) : Prop where
  hh : q.ho.IsDictOf (PySem.strKind PySem.Challenge.rw_ov0043_01.row.prog w) []
  nh : (q.h == sysModules) = false
  ord : q.h < q.b ∧ q.b < q.sh ∧ q.sh < q.t
structure CInv (w : World) (base : List (Addr × Obj)) (i : Nat) (q : Nat → Md) (news : List (Addr × Obj)) : Prop where
  cell : ∀ j, j < i → MdCell w (q j)
  sub : ∀ j, j < i → ∀ p ∈ (q j).led, p ∈ news
  had : ∀ p ∈ base, p ∈ news
  up : ∀ j, j < i → ∀ p ∈ (q j).led, ∀ r ∈ base, r.1 < p.1
  dis : ∀ j k, j < i → k < i → j ≠ k → AdrOff (q j).led (q k).led
  only : ∀ p ∈ news, p ∈ base ∨ ∃ j, j < i ∧ p ∈ (q j).led
theorem CInv.snoc {w : World} {base : List (Addr × Obj)} {i : Nat} {q : Nat → Md} {news : List (Addr × Obj)} {c : Md} (I : CInv w base i q news) (hc : MdCell w c) (hlt : ∀ p ∈ news, ∀ r ∈ c.led, p.1 < r.1) : CInv w base (i + 1) (fun j => if j = i then c else q j) (c.led ++ news) := by
  have old : ∀ j, j < i → (if j = i then c else q j) = q j := fun j h => if_neg (Nat.ne_of_lt h)
  have new : (if i = i then c else q i) = c := if_pos rfl
  have sp : ∀ j, j < i + 1 → j < i ∨ j = i := fun j h => by omega
  refine ⟨fun j h => ?_, fun j h => ?_, fun p hp => List.mem_append_right _ (I.had p hp), fun j h => ?_, fun j k hj hk hjk => ?_, fun p hp => ?_⟩
  · rcases sp j h with h | rfl
    · rw [old j h]; exact I.cell j h
    · rw [new]; exact hc
  · rcases sp j h with h | rfl
    · rw [old j h]; exact fun p hp => List.mem_append_right _ (I.sub j h p hp)
    · rw [new]; exact fun p hp => List.mem_append_left _ hp
  · rcases sp j h with h | rfl
    · rw [old j h]; exact I.up j h
    · rw [new]; exact fun p hp r hr => hlt r (I.had r hr) p hp
  · rcases sp j hj with h | rfl <;> rcases sp k hk with h' | rfl
    · rw [old j h, old k h']; exact I.dis j k h h' hjk
    · rw [old j h, new]; exact fun p hp r hr => Nat.ne_of_lt (hlt p (I.sub j h p hp) r hr)
    · rw [old k h', new]; exact fun p hp r hr => Nat.ne_of_gt (hlt r (I.sub k h' r hr) p hp)
    · exact absurd rfl hjk
  · rcases List.mem_append.mp hp with hp | hp
    · exact .inr ⟨i, Nat.lt_succ_self _, by rw [new]; exact hp⟩
    · rcases I.only p hp with h | ⟨j, hj, h⟩
      · exact .inl h
      · exact .inr ⟨j, Nat.lt_succ_of_lt hj, by rw [old j hj]; exact h⟩
theorem world_rest {prog : Program} {w : World} {A : Around} {s : Shared} {h₀ : Heap} {L : Addr} {m : Str → Option Value} {env : Env} {elt : Expr} {x : Str} {scope : Scope} {cl : List (Str × Addr)} {S : List (Addr × Obj) → Prop} {P : Nat → Value → Prop} {Fin : List Value → List (Addr × Obj) → Prop} {base : List (Addr × Obj)} {n : Nat}
    (turn : ∀ v I oI C oC D ys news h tk (E' : Value → Shared → Prop), (∀ p ∈ base, p ∈ news) → Fr h₀ L h m → News h₀ L h ((I, oI) :: (C, oC) :: (D, LCg.lst ys) :: news) → LCg.Off3 I C D news → ((@Ne Nat I C) ∧ (@Ne Nat I D) ∧ (@Ne Nat C D)) → LCg.NsObj oC v →
      wpAny (model prog w) A (eval elt (compEnvC scope cl C env)) (LCg.CompEnd h₀ L m { s with heap := h, toks := tk } I oI C oC D (LCg.lst ys) S (fun y news' => ∃ c : Md, y = .ref c.t ∧ MdCell w c ∧ news' = c.led ++ news ∧ ∀ p ∈ news, ∀ r ∈ c.led, p.1 < r.1)) E' { s with heap := h, toks := tk })
    (fin : ∀ q news, CInv w base n q news → Fin ((List.range n).map fun j => Value.ref (q j).t) news) :
    ∀ k i (q : Nat → Md) news, i + k = n → CInv w base i q news → LCg.CompRest prog w A h₀ L m env elt x scope cl s S P Fin k i ((List.range i).map fun j => Value.ref (q j).t) news := by
  intro k
  induction k with
  | zero =>
    intro i q news hi I
    have : i = n := by omega
    subst this
    exact LCg.CompRest.zero (fin q news I)
  | succ k ih =>
    intro i q news hi I
    refine LCg.CompRest.succ fun v I' oI C oC D m₂ h tk E' _ hoC _ F N off ne => ?_
    refine wpAny_mono (turn m₂ I' oI C oC D _ news h tk E' I.had F N off ne hoC) (fun y s₂ hq => ?_) fun _ _ e => e
    obtain ⟨h', tk', news', e, F', N', off', hS, c, rfl, hc, rfl, hlt⟩ := hq
    refine ⟨h', tk', c.led ++ news, e, F', N', off', hS, ?_⟩
    have := ih (i + 1) (fun j => if j = i then c else q j) (c.led ++ news) (by omega) (I.snoc hc hlt)
    have ey : ((List.range (i + 1)).map fun j => Value.ref (if j = i then c else q j).t) = ((List.range i).map fun j => Value.ref (q j).t) ++ [Value.ref c.t] := by
      rw [List.range_succ, List.map_append, List.map_singleton, if_pos rfl]
      congr 1
      exact List.map_congr_left fun j hj => by rw [if_neg (Nat.ne_of_lt (List.mem_range.mp hj))]
    rw [ey] at this
    exact this
theorem comp_done {w : World} {s : Shared} {h₀ h' : Heap} {L : Addr} {m : Str → Option Value} {S : List (Addr × Obj) → Prop} {news : List (Addr × Obj)} {t h b sh I C D : Addr} {ho oI oC oD : Obj} {tk : Nat} (F7 : Fr h₀ L h' m)
    (N7 : News h₀ L h' ((t, PySem.W.listOf #[.ref h, .ref b, .ref sh] 0) :: (sh, PySem.W.listOf #[.bool false] 0) :: (b, PySem.W.listOf #[] 0) :: (h, ho) :: (I, oI) :: (C, oC) :: (D, oD) :: news)) (off3 : LCg.Off3 I C D news)
    (hh : ho.IsDictOf (PySem.strKind PySem.Challenge.rw_ov0043_01.row.prog w) []) (nh : (h == sysModules) = false) (g1 : @LT.lt Nat _ I h ∧ @LT.lt Nat _ C h ∧ @LT.lt Nat _ D h ∧ AllLt h news) (g2 : @LT.lt Nat _ h b) (g3 : @LT.lt Nat _ b sh) (g4 : @LT.lt Nat _ sh t) (hS : ∀ l, (∀ p ∈ news, p ∈ l) → S l) :
    LCg.CompEnd h₀ L m s I oI C oC D oD S (fun y news' => ∃ c : Md, y = .ref c.t ∧ MdCell w c ∧ news' = c.led ++ news ∧ ∀ p ∈ news, ∀ r ∈ c.led, p.1 < r.1) (.ref t) { s with heap := h', toks := tk } := by
  have off := off3.mem
  have hr : ∀ r ∈ (⟨t, h, b, sh, 0, 0, 0, ho⟩ : Md).led, @LT.lt Nat _ I r.1 ∧ @LT.lt Nat _ C r.1 ∧ @LT.lt Nat _ D r.1 ∧ h ≤ r.1 := fun r hr => by
    simp only [Md.led, List.mem_cons, List.not_mem_nil, or_false] at hr
    obtain ⟨a1, a2, a3, _⟩ := g1
    rcases hr with rfl | rfl | rfl | rfl <;> dsimp only <;> refine ⟨?_, ?_, ?_, ?_⟩ <;> first | omega | (show @LE.le Nat _ _ _; omega)
  refine LCg.CompEnd.intro F7 N7 ((⟨t, h, b, sh, 0, 0, 0, ho⟩ : Md).led ++ news) ?_ (LCg.Off3.of fun p hp => ?_) (hS _ fun p hp => List.mem_append_right _ hp) ⟨⟨t, h, b, sh, 0, 0, 0, ho⟩, rfl, ⟨hh, nh, g2, g3, g4⟩, rfl, fun p hp r hr' => ?_⟩
  · intro p
    simp only [Md.led, List.mem_cons, List.mem_append, List.not_mem_nil, or_false]
    grind
  · rcases List.mem_append.mp hp with hp | hp
    · obtain ⟨a1, a2, a3, _⟩ := hr p hp
      exact ⟨Nat.ne_of_gt a1, Nat.ne_of_gt a2, Nat.ne_of_gt a3⟩
    · exact off p hp
  · have h1 := allLt_mem g1.2.2.2 p hp
    exact Nat.lt_of_lt_of_le h1 (hr r hr').2.2.2
theorem off3_of {I C D : Addr} {l : List (Addr × Obj)} (h : ∀ p ∈ l, p.1 ≠ I ∧ p.1 ≠ C ∧ p.1 ≠ D) : LCg.Off3 I C D l := LCg.Off3.of h
section
variable {w : World} {mean : ExcName → Option Value} {mg mb : Str → Option Value} {a : Addr} {ccd : Value} {h₀ : Heap} {L cL cW : Addr} {m : Str → Option Value} {s : Shared} {Q : Flow → Shared → Prop} {E : Value → Shared → Prop}
set_option maxHeartbeats 8000000 in
theorem world_stmt {nR n : Nat} {base : List (Addr × Obj)} {Ro : Addr} {its : Array Value} {oW0 : Obj} {v0 : Option Value}
    (X : (hd.heap_39 w.params).In h₀) (T : Top hd.view_39 (looseW hd.view_39 []) mean mg mb h₀)
    (F : Fr h₀ L s.heap m) (N : News h₀ L s.heap base) (mRo : (Ro, PySem.W.listOf its nR) ∈ base) (hn : its.size = n) (hn10 : n ≤ 10) (mcW : (cW, oW0) ∈ base) (hoW0 : oW0.data = .cell v0)
    (H : HoldsL [(Str.ofString "rows", .ref Ro)] m)
    (next : ∀ (h' : Heap) (tk' : Nat) (D : Addr) (q : Nat → Md) (oW : Obj) (news : List (Addr × Obj)), Fr h₀ L h' m → News h₀ L h' ((cW, oW) :: (D, LCg.lst ((List.range n).map fun j => Value.ref (q j).t)) :: butFor cW news) → oW.data = .cell (some (.ref D)) → CInv w base n q news → (∀ p ∈ news, p.1 ≠ D) → Q .next { s with heap := h', toks := tk' }) :
    wpAny (model PySem.Challenge.rw_ov0043_01.row.prog w) (callerA.deeper (lawEnv L a ccd cL cW)) (exec worldStmt (lawEnv L a ccd cL cW)) Q E s := by
  have F0 := fr_upds F H
  dsimp only [upds] at F0
  revert X; k_fill; intro X
  conv in worldStmt => whnf
  unfold lawEnv at *
  conv in (occs := *) lawScope => all_goals whnf
  dsimp only
  refine wpAny_Assign_Name ?_ ?hs
  case hs => with_unfolding_all rfl
  k_dflt (refine LCg.ListComp_U (F₀ := F) (by with_unfolding_all rfl) (by decide) (by rfl) (by decide) (by rfl) ?_)
  walk1
  have hI0 : CInv w base 0 (fun _ => ⟨0, 0, 0, 0, 0, 0, 0, .mk .none none (.seq #[] 0) #[]⟩) base := ⟨fun _ h => absurd h (Nat.not_lt_zero _), fun _ h => absurd h (Nat.not_lt_zero _), fun _ h => h, fun _ h => absurd h (Nat.not_lt_zero _), fun _ _ h => absurd h (Nat.not_lt_zero _), fun _ h => .inl h⟩
  refine LCg.CompSrc.ledger rfl F N mRo (by rw [sizeLine_eq]; omega) fun g => ?_
  refine world_rest (base := base) (n := n) (fun v I oI C oC D ys news h tk E' hb F3 N3 off3 ne hoC => ?_) (fun q news hI => ?_) its.size 0 _ base (by omega) hI0
  · clear F0 F N
    k_steps
    rename Fr _ _ _ _ => F7
    rename News _ _ _ _ => N7
    exact comp_done F7 N7 off3 (by assumption) (by assumption) (by assumption) (by assumption : _ ∧ _ ∧ _ ∧ _ ∧ AllLt _ news).1 (by assumption : _ ∧ _ ∧ _ ∧ _ ∧ _ ∧ AllLt _ news).1 (by assumption : _ ∧ _ ∧ _ ∧ _ ∧ _ ∧ _ ∧ AllLt _ news).1 fun l hl => .inr ⟨_, hl _ (hb _ mRo), rfl, _, rfl⟩
  · intro D h1 tk1 F3 N3 off1
    have mc := hI.had _ mcW
    have hD : ∀ p ∈ news, p.1 ≠ D := by
      have : ∀ l : List (Addr × Obj), LCg.Off1 D l → ∀ p ∈ l, p.1 ≠ D := by
        intro l
        induction l with
        | nil => intro _ p hp; nomatch hp
        | cons p r ih =>
          intro o q hq
          rcases List.mem_cons.mp hq with rfl | hq
          · exact o.1
          · exact ih o.2 q hq
      exact this news off1
    have N4 : News h₀ L h1 ((cW, oW0) :: (D, LCg.lst ((List.range n).map fun j => Value.ref (q j).t)) :: butFor cW news) := news_sub N3 fun p hp => by
      rcases List.mem_cons.mp hp with rfl | hp
      · exact .tail _ mc
      rcases List.mem_cons.mp hp with rfl | hp
      · exact .head _
      · exact .tail _ (mem_butFor.mp hp).1
    refine storeX_C (c := cW) (g := fun o => (cW, o) :: (D, LCg.lst ((List.range n).map fun j => Value.ref (q j).t)) :: butFor cW news) F3 N4 rfl (UpdF.head fun p hp => ?_) hoW0 (fun h' o' F5 N5 hd => next _ _ D q o' news F5 N5 hd hI hD) rfl rfl
    rcases List.mem_cons.mp hp with rfl | hp
    · exact (hD _ mc).symm
    · exact (mem_butFor.mp hp).2
end
end
/-! part C17 -/
theorem part_C17 : True := by w_top off; (try walk1); trivial
section
noncomputable def mkW (P : Pre) (q : Nat → Md) (fix : List (Addr × Obj)) : Wd :=
  { n := P.n, up := P.up, c := fun j => { c := P.c j, lo := P.lo j, lkv := [], t := (q j).t, h := (q j).h, b := (q j).b, sh := (q j).sh, nt := (q j).nt, nb := (q j).nb, ns := (q j).ns, ho := (q j).ho, hkv := [], bvs := [], bd := [] }, fix := fix }
theorem mem_mkW {w : World} {P : Pre} {q : Nat → Md} {fix : List (Addr × Obj)} {j : Nat} (hlk : (P.c j).lk = false) {p : Addr × Obj} (h : p ∈ ((mkW P q fix).c j).led w) : p ∈ led4 w (P.c j) (P.lo j) ∨ p ∈ (q j).led := by
  simp only [mkW, Cl.led, hlk] at h
  exact List.mem_append.mp (show p ∈ led4 w (P.c j) (P.lo j) ++ (q j).led from h)
theorem world_ok {w : World} {P : Pre} {q : Nat → Md} {wl1 news : List (Addr × Obj)} {S Ro Ab R cL cW D : Addr} {oS oRo oAb oR oL oW0 oW oD : Obj} (O : PreOk w P wl1) (hn : P.n ≤ 5) (off : ∀ p ∈ wl1, p.1 ≠ S ∧ p.1 ≠ Ro ∧ p.1 ≠ Ab) (hRS : Ro ≠ S) (hAS : Ab ≠ S)
    (hfix : ∀ p ∈ [(R, oR), (cL, oL), (cW, oW0)], p ∈ wl1) (hfo : ∀ i, i < P.n → AdrOff (led4 w (P.c i) (P.lo i)) [(R, oR), (cL, oL), (cW, oW0)]) (hRL : R ≠ cL) (hRW : R ≠ cW) (hLW : cL ≠ cW)
    (I : CInv w ((S, oS) :: (Ro, oRo) :: (Ab, oAb) :: wl1) P.n q news) (hD : ∀ p ∈ news, p.1 ≠ D) :
    WOk w (mkW P q [(Ro, oRo), (D, oD), (Ab, oAb), (cW, oW), (R, oR)]) 0 (butFor S (butFor cL ((cW, oW) :: (D, oD) :: butFor cW news))) := by
  have iS := I.had _ (.head _)
  have iRo := I.had _ (.tail _ (.head _))
  have iAb := I.had _ (.tail _ (.tail _ (.head _)))
  have inw : ∀ p ∈ wl1, p ∈ news := fun p hp => I.had p (.tail _ (.tail _ (.tail _ hp)))
  have fR := hfix _ (.head _)
  have fL := hfix _ (.tail _ (.head _))
  have fW := hfix _ (.tail _ (.tail _ (.head _)))
  have cLS := (off _ fL).1
  have cWS := (off _ fW).1
  have cWRo := (off _ fW).2.1
  have cLRo := (off _ fL).2.1
  have cLAb := (off _ fL).2.2
  have cWAb := (off _ fW).2.2
  have keep : ∀ p ∈ news, p.1 ≠ cW → p.1 ≠ cL → p.1 ≠ S → p ∈ butFor S (butFor cL ((cW, oW) :: (D, oD) :: butFor cW news)) := fun p hp a b c => mem_butFor.mpr ⟨mem_butFor.mpr ⟨.tail _ (.tail _ (mem_butFor.mpr ⟨hp, a⟩)), b⟩, c⟩
  have m4 : ∀ i, i < P.n → ∀ p ∈ led4 w (P.c i) (P.lo i), p ∈ wl1 := O.sub
  have o4 : ∀ i, i < P.n → ∀ p ∈ led4 w (P.c i) (P.lo i), p.1 ≠ R ∧ p.1 ≠ cL ∧ p.1 ≠ cW := fun i hi p hp => ⟨hfo i hi p hp _ (.head _), hfo i hi p hp _ (.tail _ (.head _)), hfo i hi p hp _ (.tail _ (.tail _ (.head _)))⟩
  have up : ∀ i, i < P.n → ∀ p ∈ (q i).led, ∀ r ∈ wl1, p.1 ≠ r.1 := fun i hi p hp r hr => Nat.ne_of_gt (I.up i hi p hp r (.tail _ (.tail _ (.tail _ hr))))
  have upS : ∀ i, i < P.n → ∀ p ∈ (q i).led, p.1 ≠ S ∧ p.1 ≠ Ro ∧ p.1 ≠ Ab := fun i hi p hp => ⟨Nat.ne_of_gt (I.up i hi p hp _ (.head _)), Nat.ne_of_gt (I.up i hi p hp _ (.tail _ (.head _))), Nat.ne_of_gt (I.up i hi p hp _ (.tail _ (.tail _ (.head _))))⟩
  refine { pos := O.pos, top := hn, upl := O.upl, par0 := O.par0, par := O.par, ok := fun i hi => ?_, sub := fun i hi p hp => ?_, subF := fun p hp => ?_, dis := fun i j hi hj hij p hp r hr => ?_, disF := fun i hi p hp r hr => ?_ }
  · have K := O.cell i hi
    have M := I.cell i hi
    have hlh : (P.c i).l < (q i).h := I.up i hi ((q i).h, (q i).ho) (.tail _ (.head _)) ((P.c i).l, P.lo i) (.tail _ (.tail _ (.tail _ (m4 i hi _ (.tail _ (.tail _ (.tail _ (.head _))))))))
    have hno : ∀ x, valueAt (P.c i).fk x = none := fun x => by rw [K.fk]; rfl
    exact { num := K.num, hf := (by show (P.c i).fo.IsDictOf _ (P.c i).fk; rw [K.fk]; exact K.hf), hl := K.hl, hh := M.hh, hb := .nil, nf := K.nf, nl := K.nl, nh := M.nh, ord := ⟨K.ord.1, K.ord.2.1, K.ord.2.2, hlh, M.ord.1, M.ord.2.1, M.ord.2.2⟩,
            vals := fun x v h => absurd (show valueAt (P.c i).fk x = some v from h) (by rw [hno]; simp), hval := fun _ _ => rfl, locks := fun _ => .inl ⟨rfl, rfl⟩, nd := List.nodup_nil, sz := ⟨(by show (P.c i).fk.length ≤ 0; rw [K.fk]; exact Nat.le_refl _), Nat.le_refl _, Nat.le_refl _, Nat.le_refl _⟩ }
  · rcases mem_mkW (O.cell i hi).lk hp with h | h
    · exact keep p (inw p (m4 i hi p h)) (o4 i hi p h).2.2 (o4 i hi p h).2.1 (off p (m4 i hi p h)).1
    · exact keep p (I.sub i hi p h) (up i hi p h _ fW) (up i hi p h _ fL) (upS i hi p h).1
  · simp only [mkW, List.mem_cons, List.not_mem_nil, or_false] at hp
    rcases hp with rfl | rfl | rfl | rfl | rfl
    · exact keep _ iRo cWRo.symm cLRo.symm hRS
    · exact mem_butFor.mpr ⟨mem_butFor.mpr ⟨.tail _ (.head _), (hD _ (inw _ fL)).symm⟩, (hD _ iS).symm⟩
    · exact keep _ iAb cWAb.symm cLAb.symm hAS
    · exact mem_butFor.mpr ⟨mem_butFor.mpr ⟨.head _, hLW.symm⟩, cWS⟩
    · exact keep _ (inw _ fR) hRW hRL (off _ fR).1
  · rcases mem_mkW (O.cell i hi).lk hp with h | h <;> rcases mem_mkW (O.cell j hj).lk hr with h' | h'
    · exact O.dis i j hi hj hij p h r h'
    · exact (up j hj r h' p (m4 i hi p h)).symm
    · exact up i hi p h r (m4 j hj r h')
    · exact I.dis i j hi hj hij p h r h'
  · simp only [mkW, List.mem_cons, List.not_mem_nil, or_false] at hr
    rcases mem_mkW (O.cell i hi).lk hp with h | h
    · have h1 := m4 i hi p h
      rcases hr with rfl | rfl | rfl | rfl | rfl
      · exact (off p h1).2.1
      · exact hD p (inw p h1)
      · exact (off p h1).2.2
      · exact (o4 i hi p h).2.2
      · exact (o4 i hi p h).1
    · rcases hr with rfl | rfl | rfl | rfl | rfl
      · exact (upS i hi p h).2.1
      · exact hD p (I.sub i hi p h)
      · exact (upS i hi p h).2.2
      · exact (show p.1 ≠ cW from up i hi p h _ fW)
      · exact up i hi p h _ fR
end
/-! part C18 -/
theorem part_C18 : True := by w_top off; (try walk1); trivial
section
section
variable {w : World} {mean : ExcName → Option Value} {mg mb : Str → Option Value} {a : Addr} {ccd : Value} {h₀ : Heap} {L cL cW : Addr} {m : Str → Option Value} {s : Shared} {Q : Flow → Shared → Prop} {E : Value → Shared → Prop}
set_option maxHeartbeats 8000000 in
theorem law_all {sc : Addr} {vs : List Value} {ns : List Int} {oL oW : Obj} {v1 v2 : Option Value}
    (B : Below callerA h₀ [] h₀) (X : (hd.heap_39 w.params).In h₀) (T : Top hd.view_39 (looseW hd.view_39 []) mean mg mb h₀)
    (F : Fr h₀ L s.heap m) (N : News h₀ L s.heap [(cL, oL), (cW, oW)]) (hoL : oL.data = .cell v1) (hoW : oW.data = .cell v2) (hLW : cL ≠ cW) (hl : h₀.IsList sc vs.toArray) (hI : IntsAre vs ns) (hlen : ns.length ≤ 63)
    (H : HoldsL [(Str.ofString "script", .ref sc)] m)
    (hE : PassesOwn (model PySem.Challenge.rw_ov0043_01.row.prog w) (callerA.deeper (lawEnv L a ccd cL cW)) (lawEnv L a ccd cL cW) E)
    (ret : ∀ h' tk' m', Fr h₀ L h' m' → Q (.ret (.bool true)) { s with heap := h', toks := tk' }) :
    wpAny (model PySem.Challenge.rw_ov0043_01.row.prog w) (callerA.deeper (lawEnv L a ccd cL cW)) (execs lawBody (lawEnv L a ccd cL cW)) Q E s := by
  have F0 := fr_upds F H
  clear F
  dsimp only [upds] at F0
  revert X; k_fill; intro X
  conv in lawBody => whnf
  unfold lawEnv at *
  conv in (occs := *) lawScope => all_goals whnf
  dsimp only
  walk_at "mine_to163"
  rename_i R rvs h1 hIr hC9 hL9 l1 S h2 l2 h3 F1 N1
  k_dflt (refine' env_spec B F1 X N1 T rfl fun c lo h4 tk4 F4 N4 hlt o1 o2 o3 e1 e2 e3 e4 hf hlo nf nl => ?_)
  clear F1 N1
  walk_at "mine_toFor"
  rename_i Ro h5 l5 h6 tkx Ab h7 l7 h8 F5 N5
  have l2' := l2
  have l1' := l1
  have hlt2 := allLt_of hlt
  simp only [AllLt, and_true] at hlt2
  have p1 := ltN o1
  have p2 := ltN o2
  have p3 := ltN o3
  have O0 : PreOk w ⟨1, fun _ => 0, fun _ => c, fun _ => lo⟩ (led4 w c lo ++ [(R, PySem.W.listOf rvs.toArray 0), (cL, oL), (cW, oW)]) :=
    { pos := Nat.lt_succ_self 0, upl := fun i a b => (by have : i < 1 := b; omega), par0 := e2, par := fun i a b => (by have : i < 1 := b; omega), cell := fun i b => (by
        have : i = 0 := (by have : i < 1 := b; omega)
        subst this
        exact ⟨e1, e3, e4, hf, hlo, nf, nl, o1, o2, o3⟩), sub := fun i b p hp => List.mem_append_left _ hp, dis := fun i j a b hij => (by have : i < 1 := a; have : j < 1 := b; omega) }
  have off0 : ∀ p ∈ led4 w c lo ++ [(R, PySem.W.listOf rvs.toArray 0), (cL, oL), (cW, oW)], p.1 ≠ S ∧ p.1 ≠ Ro ∧ p.1 ≠ Ab := fun p hp => by
    simp only [led4, List.mem_cons, List.mem_append, List.not_mem_nil, or_false] at hp
    rcases hp with (rfl | rfl | rfl | rfl) | rfl | rfl | rfl <;> dsimp only <;> refine ⟨neN ?_, neN ?_, neN ?_⟩ <;> omega
  have hfo0 : ∀ i, i < 1 → AdrOff (led4 w c lo) [(R, PySem.W.listOf rvs.toArray 0), (cL, oL), (cW, oW)] := fun i hi p hp r hr => by
    simp only [led4, List.mem_cons, List.not_mem_nil, or_false] at hp hr
    refine neN ?_
    rcases hp with rfl | rfl | rfl | rfl <;> rcases hr with rfl | rfl | rfl <;> dsimp only <;> omega
  have hRS : Ro ≠ S := neN (by omega)
  have hAS : Ab ≠ S := neN (by omega)
  have hAR : Ab ≠ Ro := neN (by omega)
  have hRcL : R ≠ cL := neN (by omega)
  have hRcW : R ≠ cW := neN (by omega)
  have hlen40 : (List.take 40 ns).length ≤ 40 := List.length_take_le _ _
  refine build_loop (P := ⟨1, fun _ => 0, fun _ => c, fun _ => lo⟩) (fixp := [(R, PySem.W.listOf rvs.toArray 0), (cL, oL), (cW, oW)]) (avs := [Value.int (-1) (tkx + 1)]) (tA := s.toks + 1) (nR := 0) (nA := 0) (nS := 0) (nV := 0) (S := S) (R := R) (Ro := Ro) (Ab := Ab) B X T O0 rfl F5 (news_sub N5 ?_) off0 hRS hAS hAR (.cons (-1) _ .nil) (.head _) (fun p hp => List.mem_append_right _ hp) hfo0 hIr hlen40 ⟨rfl, rfl, rfl, trivial⟩ (by exact hE) ?_
  · intro p
    simp only [led4, rowsP, List.mem_cons, List.mem_append, List.not_mem_nil, or_false, List.range_one, List.map_cons, List.map_nil]
    grind
  intro h9 tk9 m9 nx9 i9 F9 N9 hi9 hJ9
  obtain ⟨P, wl, nR, nA, avs, at_, tA, rfl, O, hn, hav, ⟨ha0, ha1⟩, hfix, hfo, off, H9⟩ := hJ9
  walk_at "mine_toAssign"
  refine world_stmt (n := P.n) (nR := nR) (Ro := Ro) (its := (rowsP P).toArray) X T F9 N9 (.tail _ (.head _)) (by simp [rowsP]) (by omega) (.tail _ (.tail _ (.tail _ (hfix _ (.tail _ (.tail _ (.head _))))))) hoW ⟨H9.2.1, trivial⟩ fun h10 tk10 D q oW' news F10 N10 hoW' I10 hD => ?_
  dsimp only
  have fL := hfix _ (.tail _ (.head _))
  have hcLS : cL ≠ S := (off _ fL).1
  have iS := I10.had _ (.head _)
  have hcWS : cW ≠ S := (off _ (hfix _ (.tail _ (.tail _ (.head _))))).1
  have iL := I10.had _ (.tail _ (.tail _ (.tail _ fL)))
  refine law_tail (W := mkW P q [(Ro, PySem.W.listOf (rowsP P).toArray nR), (D, LCg.lst ((List.range P.n).map fun j => Value.ref (q j).t)), (Ab, PySem.W.listOf avs.toArray nA), (cW, oW'), (R, PySem.W.listOf rvs.toArray 0)]) (S := S) (R := R) (Ro := Ro) (Ab := Ab) (Wa := D) (nR := nR) (nW := ((List.range P.n).map fun j => Value.ref (q j).t).length) (nA := nA) (nV := 0) (nS := 0) (at_ := at_) (tA := tA) (rvs := rvs) (ns := List.take 40 ns) (avs := avs) B X T
    (world_ok (oW := oW') O (by omega) off hRS hAS hfix hfo hRcL hRcW hLW I10 hD) F10 (news_sub N10 ?_) (fun p hp => ⟨(mem_butFor.mp hp).2, (mem_butFor.mp (mem_butFor.mp hp).1).2⟩) hcLS hoL hoW' (.head _) (.tail _ (.head _)) (.tail _ (.tail _ (.head _))) hav (.tail _ (.tail _ (.tail _ (.head _)))) (.tail _ (.tail _ (.tail _ (.tail _ (.head _))))) hIr hlen40 ha0 (by omega) ⟨H9.1, H9.2.1, H9.2.2.1, trivial⟩ (by exact hE) fun h' tk' m' Fz => ret _ _ m' Fz
  intro p hp
  rcases List.mem_cons.mp hp with rfl | hp
  · exact .tail _ (.tail _ (mem_butFor.mpr ⟨iS, hcWS.symm⟩))
  rcases List.mem_cons.mp hp with rfl | hp
  · exact .tail _ (.tail _ (mem_butFor.mpr ⟨iL, hLW⟩))
  · exact (mem_butFor.mp (mem_butFor.mp hp).1).1
end
end
end Mine
open PySem PySem.W PySem.W.X PyProof.Rows
set_option maxRecDepth 100000 in
set_option maxHeartbeats 8000000 in
theorem PySem.Challenge.cw_ov0043_01_holds : PySem.Challenge.rw_ov0043_01.Holds := by
  refine Mine.hd ?_
  k_go0
  rename Below _ _ _ _ => mK
  rename Frag.In _ _ => mX
  rename Top _ _ _ _ _ _ => mT
  rename Fr _ _ _ _ => mF
  rename News _ _ _ _ => mN
  rename Heap.IsList _ _ _ => mL
  rename IntsAre _ _ => mI
  have hlen : _ ≤ 63 := Int.ofNat_le.mp (Int.not_lt.mp (by assumption : ¬ ((63 : Nat) : Int) < ((_ : Nat) : Int)))
  refine Mine.law_all mK mX mT mF mN (by assumption) (by assumption) (Nat.ne_of_gt (Nat.lt_succ_self _)) mL mI hlen ⟨rfl, trivial⟩ PySem.PassesOwn.leaving fun h9 tk9 m9 F9 => ?_
  wrow_close
